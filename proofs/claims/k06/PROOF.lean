import PyProof.Rows.All
import Wide.All
import OpenK.AllK
import Wide.FinOn
import KE.KExcIs
import HandS.ExcInit
import HandS.ExcField
import HandS.ForMost
import HandS.ForExc
import HandS.Defaults
import HandS.Codes
import HandS.ClsMeth
import HandS.TupLe
import HandS.StrMore
import HandS.IsInst
import HandS.SuiteRaise
import HandS.HotCalls
import HandS.ExcIs
import HandS.CallSlots
import KE.RegKIsAll
import HandS.TryElse
import HandS.TryMany
import HandS.WideBits
import KE.KStateDown
import HandS.Head0
import HandS.Head1
import HandS.Head2
import HandS.HeadEnd
import HandS.HeadHook1
import HandS.HeadHook2
import PySem.Challenge.RW_minders_k06_the_first_row_misread

set_option Elab.async false
set_option linter.all false
set_option maxRecDepth 100000
set_option maxHeartbeats 4000000
/-! Mn: rules of my own over HandS: calls whose promise the reading picks. -/
namespace Mn
open PySem PySem.Spec PyProof.Rows L2

/-- a def of the module, by its name, its promise, its defaults -/
structure Cal (P : Program) (w : World) (K : PySem.W.Frag) (mg : Str → Option Value) (base : Heap) (CX : CXT) (x : Str) (k : Nat) (ps : List Str) (dvs : List V) (sp : Sp) : Prop where
  ex : ∃ (f : Addr) (fd : FuncData) (ds : List Value), FnOk P w K mg base CX k f fd ps sp ∧ mg x = some (.ref f) ∧ PySem.W.keepIn K (.ref f) = true ∧ Binds K fd ps ds ∧ Vals dvs ds
/-- a method of the class at C -/
structure Mth (P : Program) (w : World) (K : PySem.W.Frag) (mg : Str → Option Value) (base : Heap) (CX : CXT) (C : Addr) (m : Str) (k : Nat) (ps : List Str) (dvs : List V) (sp : Sp) : Prop where
  ex : ∃ (f : Addr) (fd : FuncData) (ds : List Value), FnOk P w K mg base CX k f fd ps sp ∧ Meth K C m f ∧ Binds K fd ps ds ∧ Vals dvs ds
/-- a class that is made by its name -/
structure Mak (P : Program) (w : World) (K : PySem.W.Frag) (mg : Str → Option Value) (base : Heap) (CX : CXT) (x : Str) (C : Addr) (k : Nat) (ps : List Str) (dvs : List V) (sp : Sp) : Prop where
  ex : ∃ (f : Addr) (fd : FuncData) (ds : List Value), FnOk P w K mg base CX k f fd ps sp ∧ mg x = some (.ref C) ∧ Mk K C f ∧ Binds K fd ps ds ∧ Vals dvs ds
/-- the context stands over these -/
structure Sx (X : Cx) (P : Program) (w : World) (K : PySem.W.Frag) (mg : Str → Option Value) (base : Heap) : Prop where
  p : X.prog = P
  w : X.w = w
  k : X.K = K
  m : X.mg = mg
  b : X.base = base
section
variable {X : Cx} {P : Program} {w : World} {K : PySem.W.Frag} {mg : Str → Option Value} {base : Heap} {CX : CXT} {k : Nat} {E : XK} {x m : Str} {p pos apos : Pos} {e o : Expr} {es : List Expr} {ta : TE} {t : TA}
def tCA (P : Program) (w : World) (K : PySem.W.Frag) (mg : Str → Option Value) (base : Heap) (CX : CXT) (x : Str) (k : Nat) (E : XK) (t : TA) : TE := fun σ H Q => ∃ j ps dvs sp, Cal P w K mg base CX x j ps dvs sp ∧ j ≤ k ∧ t σ H fun vs H1 => sp (vs ++ dvs) H1 Q E
/-- f(e, ..), nothing raised -/
theorem pe_ca (hX : Sx X P w K mg base) (hr : Room k X.A) (hg : Gl X x) (ha : PA X (e :: es) t) (hdb : (x == ("__debug__" : Str)) = false := by decide) (he : starEach (e :: es) X.env = (false, eval e X.env) :: starEach es X.env := by rfl) (hpl : (backTo pos (starEach es X.env)).any (·.1) = false := by rfl) :
    PE X (.Call (.Name x p) (e :: es) [] pos) (tCA P w K mg base CX0 x k E0 t) := by
  obtain ⟨rfl, rfl, rfl, rfl, rfl⟩ := hX
  refine ⟨fun pins s σ H Q I h => ?_⟩
  obtain ⟨j, ps, dvs, sp, C, hj, h⟩ := h
  obtain ⟨f, fd, ds, F, hm, hk, hb, hd⟩ := C.ex
  exact (pe_call F (hr.mono hj) hg hm hk hb hd pass0 ha hdb he hpl).run pins s σ H Q I h
/-- f(), nothing raised -/
theorem pe_ca0 (hX : Sx X P w K mg base) (hr : Room k X.A) (hg : Gl X x) (hdb : (x == ("__debug__" : Str)) = false := by decide) : PE X (.Call (.Name x p) [] [] pos) (tCA P w K mg base CX0 x k E0 tNil) := by
  obtain ⟨rfl, rfl, rfl, rfl, rfl⟩ := hX
  refine ⟨fun pins s σ H Q I h => ?_⟩
  obtain ⟨j, ps, dvs, sp, C, hj, h⟩ := h
  obtain ⟨f, fd, ds, F, hm, hk, hb, hd⟩ := C.ex
  exact (pe_call0 F (hr.mono hj) hg hm hk hb hd pass0 hdb).run pins s σ H Q I h
def tMkA (P : Program) (w : World) (K : PySem.W.Frag) (mg : Str → Option Value) (base : Heap) (CX : CXT) (x : Str) (k : Nat) (E : XK) (t : TA) : TE := fun σ H Q => ∃ C j ps dvs sp, Mak P w K mg base CX x C j ps dvs sp ∧ j + 1 ≤ k ∧ tMake C sp dvs E t σ H Q
theorem pe_mka (hX : Sx X P w K mg base) (hr : Room k X.A) (hg : Gl X x) (ha : PA X (e :: es) t) (hdb : (x == ("__debug__" : Str)) = false := by decide) (he : starEach (e :: es) X.env = (false, eval e X.env) :: starEach es X.env := by rfl) (hpl : (backTo pos (starEach es X.env)).any (·.1) = false := by rfl) :
    PE X (.Call (.Name x p) (e :: es) [] pos) (tMkA P w K mg base CX0 x k E0 t) := by
  obtain ⟨rfl, rfl, rfl, rfl, rfl⟩ := hX
  refine ⟨fun pins s σ H Q I h => ?_⟩
  obtain ⟨C, j, ps, dvs, sp, M, hj, h⟩ := h
  obtain ⟨f, fd, ds, F, hm, hk, hb, hd⟩ := M.ex
  exact (pe_make hk F (hr.mono hj) hg hm hb hd pass0 ha hdb he hpl).run pins s σ H Q I h
theorem pe_mka0 (hX : Sx X P w K mg base) (hr : Room k X.A) (hg : Gl X x) (hdb : (x == ("__debug__" : Str)) = false := by decide) : PE X (.Call (.Name x p) [] [] pos) (tMkA P w K mg base CX0 x k E0 tNil) := by
  obtain ⟨rfl, rfl, rfl, rfl, rfl⟩ := hX
  refine ⟨fun pins s σ H Q I h => ?_⟩
  obtain ⟨C, j, ps, dvs, sp, M, hj, h⟩ := h
  obtain ⟨f, fd, ds, F, hm, hk, hb, hd⟩ := M.ex
  exact (pe_make0 hk F (hr.mono hj) hg hm hb hd pass0 hdb).run pins s σ H Q I h
def tMA (P : Program) (w : World) (K : PySem.W.Frag) (mg : Str → Option Value) (base : Heap) (CX : CXT) (m : Str) (k : Nat) (E : XK) (ta : TE) (t : TA) : TE := fun σ H Q => ta σ H fun xv H1 => ∃ a C dx fs j ps dvs sp, xv = .ref a ∧ H1 a = some (.ins C dx fs) ∧ Cls K C ∧ fs.lookup m = none ∧ Mth P w K mg base CX C m j ps dvs sp ∧ j ≤ k ∧
  t σ H1 fun vs H2 => sp (xv :: (vs ++ dvs)) H2 Q E
/-- o.m(e, ..), o of any own class -/
theorem pe_maX {pl : Sem Bool} (hX : Sx X P w K mg base) (hr : Room k X.A) (hx : Passes CX X E) (he : PE X o ta) (ha : PA X (e :: es) t)
    (hst : starEach (e :: es) X.env = (false, eval e X.env) :: starEach es X.env := by rfl) (hpl : (backTo pos (starEach es X.env)).any (·.1) = false := by rfl)
    (ht : eval (.Call (.Attribute o m apos) (e :: es) [] pos) X.env = (do
      let ov ← eval o X.env
      standAt apos.atName
      let (f, first) ← holding [ov] (getMethod ov m pl)
      callWith pos f first (backTo pos (starEach (e :: es) X.env)) (backToKw pos (keywordEach [] X.env))) := by rfl) :
    PE X (.Call (.Attribute o m apos) (e :: es) [] pos) (tMA P w K mg base CX m k E ta t) := by
  obtain ⟨rfl, rfl, rfl, rfl, rfl⟩ := hX
  refine ⟨fun pins s σ H Q I h => ?_⟩
  refine PySem.W.methodCall_KW (pl := pl) (thn (he.run pins s σ H _ I h) fun u s1 ⟨xv, H1, I1, rx, a, C, dx, fs, j, ps, dvs, sp, ex, ea, c, l, M, hj, q⟩ => ?_) ht
  subst ex
  obtain rfl : u = Value.ref a := rx
  obtain ⟨f, fd, ds, F, hm, hb, hd⟩ := M.ex
  refine getmeth_ok I1 ea c hm l ?_
  refine PySem.W.callWith_K (first := [.ref a]) (h₀ := X.base) I.ok.mod.kin hm.kp (thn (ha.run pos pins s1 σ H1 _ I1 q) fun us s2 ⟨vs, H2, I2, r, q2⟩ => ⟨I2.kIn, ?_⟩) hst hpl
  exact run_fn (us := .ref a :: us) (vs := .ref a :: vs) F (hr.mono hj) hb hd hx I2 (.cons rfl r) q2
theorem pe_maX0 {pl : Sem Bool} (hX : Sx X P w K mg base) (hr : Room k X.A) (hx : Passes CX X E) (he : PE X o ta)
    (ht : eval (.Call (.Attribute o m apos) [] [] pos) X.env = (do
      let ov ← eval o X.env
      standAt apos.atName
      let (f, first) ← holding [ov] (getMethod ov m pl)
      callWith pos f first (backTo pos (starEach [] X.env)) (backToKw pos (keywordEach [] X.env))) := by rfl) :
    PE X (.Call (.Attribute o m apos) [] [] pos) (tMA P w K mg base CX m k E ta tNil) := by
  obtain ⟨rfl, rfl, rfl, rfl, rfl⟩ := hX
  refine ⟨fun pins s σ H Q I h => ?_⟩
  refine PySem.W.methodCall_KW (pl := pl) (thn (he.run pins s σ H _ I h) fun u s1 ⟨xv, H1, I1, rx, a, C, dx, fs, j, ps, dvs, sp, ex, ea, c, l, M, hj, q⟩ => ?_) ht
  subst ex
  obtain rfl : u = Value.ref a := rx
  obtain ⟨f, fd, ds, F, hm, hb, hd⟩ := M.ex
  refine getmeth_ok I1 ea c hm l ?_
  exact PySem.W.callWith_K0 (first := [.ref a]) I1.kIn hm.kp (run_fn (us := [.ref a]) (vs := [.ref a]) F (hr.mono hj) hb hd hx I1 (.cons rfl .nil) q)
theorem pe_ma {pl : Sem Bool} (hX : Sx X P w K mg base) (hr : Room k X.A) (he : PE X o ta) (ha : PA X (e :: es) t)
    (hst : starEach (e :: es) X.env = (false, eval e X.env) :: starEach es X.env := by rfl) (hpl : (backTo pos (starEach es X.env)).any (·.1) = false := by rfl)
    (ht : eval (.Call (.Attribute o m apos) (e :: es) [] pos) X.env = (do
      let ov ← eval o X.env
      standAt apos.atName
      let (f, first) ← holding [ov] (getMethod ov m pl)
      callWith pos f first (backTo pos (starEach (e :: es) X.env)) (backToKw pos (keywordEach [] X.env))) := by rfl) :
    PE X (.Call (.Attribute o m apos) (e :: es) [] pos) (tMA P w K mg base CX0 m k E0 ta t) := pe_maX (pl := pl) hX hr pass0 he ha hst hpl ht
theorem pe_ma0 {pl : Sem Bool} (hX : Sx X P w K mg base) (hr : Room k X.A) (he : PE X o ta)
    (ht : eval (.Call (.Attribute o m apos) [] [] pos) X.env = (do
      let ov ← eval o X.env
      standAt apos.atName
      let (f, first) ← holding [ov] (getMethod ov m pl)
      callWith pos f first (backTo pos (starEach [] X.env)) (backToKw pos (keywordEach [] X.env))) := by rfl) :
    PE X (.Call (.Attribute o m apos) [] [] pos) (tMA P w K mg base CX0 m k E0 ta tNil) := pe_maX0 (pl := pl) hX hr pass0 he ht
/-- a name of the module as a value -/
def tGv (mg : Str → Option Value) (x : Str) : TE := fun _ H Q => ∃ v u, mg x = some u ∧ RelV v u ∧ Q v H
theorem pe_gv (hm : X.mg = mg) (hg : Gl X x) (hd : (x == ("__debug__" : Str)) = false := by decide) : PE X (.Name x p) (tGv mg x) := by
  subst hm
  refine ⟨fun pins s σ H Q I h => ?_⟩
  obtain ⟨v, u, hm, r, q⟩ := h
  exact ld_glob I hg hm ⟨v, H, I, r, q⟩ hd
end
/-! ### == of a list with [] -/
def rEqE : R2 := fun x y H Q => ∃ a b xs, x = .ref a ∧ y = .ref b ∧ H a = some (.lst xs) ∧ H b = some (.lst []) ∧ Q (.bl xs.isEmpty) H
def rNeE : R2 := fun x y H Q => ∃ a b xs, x = .ref a ∧ y = .ref b ∧ H a = some (.lst xs) ∧ H b = some (.lst []) ∧ Q (.bl (!xs.isEmpty)) H
/-! ### readings, step by step -/
section
variable {σ σ' : L2.St} {H H1 : Hp} {Q : VK} {D : Ends} {v x y z : V} {a b : Bool} {i j : Int} {n : Nat} {ta tb tc te : TE} {t u : TT} {s1 s2 : TS} {ar : TA} {r r' : R2} {g : TG} {Qb : Bool → Hp → Prop} {Qa : List V → Hp → Prop} {Qs : L2.St → Hp → Prop} {K : PySem.W.Frag}
theorem w_var (h : σ[n]? = some (some v)) (q : Q v H) : tVar n σ H Q := ⟨v, h, q⟩
theorem w_c (q : Q v H) : tC v σ H Q := q
theorem w_op (q : ta σ H fun x H1 => tb σ H1 fun y H2 => r x y H2 Q) : tOp r ta tb σ H Q := q
theorem w_un {r : V → Hp → VK → Prop} (q : ta σ H fun x H1 => r x H1 Q) : tUn r ta σ H Q := q
theorem w_I0 {f : Int → Int → V} (q : Q (f i j) H) : rI0 f (.int i) (.int j) H Q := ⟨_, _, rfl, rfl, q⟩
theorem w_I {C : Int → Int → Prop} {f : Int → Int → V} (c : C i j) (q : Q (f i j) H) : rI C f (.int i) (.int j) H Q := ⟨_, _, rfl, rfl, c, q⟩
theorem w_U {f : Int → V} (q : Q (f i) H) : rU f (.int i) H Q := ⟨_, rfl, q⟩
theorem w_eq (h : scal x y = true) (q : Q (.bl (decide (x = y))) H) : rEq x y H Q := ⟨h, q⟩
theorem w_ne (h : scal x y = true) (q : Q (.bl (!decide (x = y))) H) : rNe x y H Q := ⟨h, q⟩
theorem w_test (q : te σ H fun x H' => ∃ k, x = .bl k ∧ Qb k H') : tTest te σ H Qb := q
theorem w_B (q : te σ H fun x H' => ∃ k, x = .bl k ∧ Qb k H') : tB te σ H Qb := q
theorem w_bl {R : Bool → Prop} (q : R a) : ∃ k, V.bl a = .bl k ∧ R k := ⟨_, rfl, q⟩
theorem w_and (q : t σ H fun c H1 => if c = true then u σ H1 Qb else Qb false H1) : tAnd t u σ H Qb := q
theorem w_or (q : t σ H fun c H1 => if c = true then Qb true H1 else u σ H1 Qb) : tOr t u σ H Qb := q
theorem w_not (q : t σ H fun c H1 => Qb (!c) H1) : tNot t σ H Qb := q
theorem w_andV (q : ta σ H fun x H1 => ∃ c, x = .bl c ∧ if c = true then tb σ H1 Q else Q (.bl false) H1) : tAndV ta tb σ H Q := q
theorem w_orV (q : ta σ H fun x H1 => ∃ c, x = .bl c ∧ if c = true then Q (.bl true) H1 else tb σ H1 Q) : tOrV ta tb σ H Q := q
theorem w_notV (q : ta σ H fun x H1 => ∃ c, x = .bl c ∧ Q (.bl (!c)) H1) : tNotV ta σ H Q := q
theorem w_chain (q : ta σ H fun x H1 => tb σ H1 fun y H2 => r x y H2 fun z H3 => ∃ k, z = .bl k ∧ (if k = true then tc σ H3 fun z H4 => r' y z H4 Q else Q (.bl false) H3)) : tChain r r' ta tb tc σ H Q := q
theorem w_seq (q : s1 { D with nx := s2 D } σ H) : tSeq s1 s2 D σ H := q
theorem w_next (q : D.nx σ H) : tNext D σ H := q
theorem w_ret (q : te σ H D.rt) : tRet te D σ H := q
theorem w_retN (q : D.rt .non H) : tRetN D σ H := q
theorem w_if (q : t σ H fun b H1 => if b = true then s1 D σ H1 else s2 D σ H1) : tIfS t s1 s2 D σ H := q
theorem w_drop (q : te σ H fun _ H1 => D.nx σ H1) : tDrop te D σ H := q
theorem w_asg (q : te σ H fun x H1 => g x σ H1 D.nx) : tAsg te g D σ H := q
theorem w_name (q : Qs (σ.set n (some v)) H) : gName n v σ H Qs := q
theorem w_name2 (h : σ.set n (some v) = σ') (q : Qs σ' H) : gName n v σ H Qs := by subst h; exact q
theorem w_nil (q : Qa [] H) : tNil σ H Qa := q
theorem w_cons (q : te σ H fun x H1 => ar σ H1 fun xs H2 => Qa (x :: xs) H2) : tCons te ar σ H Qa := q
theorem w_cb {r : List V → Hp → VK → Prop} (q : ar σ H fun vs H1 => r vs H1 Q) : tCB r ar σ H Q := q
theorem w_cont (q : D.ct σ H) : tCont D σ H := q
end
end Mn

namespace Mn
open PySem PySem.Spec PyProof.Rows L2
/-! ### named readings of what has none -/
section
variable {X : Cx} {K : PySem.W.Frag} {σ : L2.St} {H H1 H2 : Hp} {Q : VK} {D : Ends} {v x y z : V} {a b p q : Addr} {i j : Int} {n : Nat} {xs ys zs : List V} {s s' : Str} {Qs : L2.St → Hp → Prop} {Qt : Hp → Prop} {f : Str} {fs : List (Str × V)} {C dx : Addr} {ta tv te to ti : TE} {ar : TA}
theorem same_new (h : H p = none) (o : HO) : Same H (upd H p o) := fun b u q => by rw [upd_ne (ne_of_none q h)]; exact q
theorem same_upd {o : HO} (s : Same H H1) (h : H1 p = none) : Same H (upd H1 p o) := s.trans (same_new h o)
/-- an object that was not there at the start may change -/
theorem same_mut {o : HO} (s : Same H H1) (h : H p = none) : Same H (upd H1 p o) := fun b u q => by rw [upd_ne (ne_of_none q h)]; exact s b u q
theorem sqT_same (e : Same H H1) (h : SqT K H a xs) : SqT K H1 a xs := by
  rcases h with (h | ⟨o, h⟩) | h
  · exact .inl (.inl (e _ _ h))
  · exact .inl (.inr ⟨o, e _ _ h⟩)
  · exact .inr h
theorem rd_same {u : HO} (e : Same H H1) (h : Rd H a u) : Rd H1 a u := by
  rcases h with h | ⟨o, h⟩
  · exact .inl (e _ _ h)
  · exact .inr ⟨o, e _ _ h⟩
def cLenL (K : PySem.W.Frag) : List V → Hp → VK → Prop := fun xs H Q => ∃ p ys, xs = [.ref p] ∧ SqL K H p ys ∧ Q (.int ys.length) H
theorem call_lenL : CallR X (.builtin "len") (cLenL X.K) := fun pins s σ H xs us Q I r h => by
  obtain ⟨p, ys, e, hq, q⟩ := h
  exact call_len_seq pins s σ H xs us Q I r ⟨p, ys, e, .inl hq, q⟩
theorem w_lenL (h : SqL K H p ys) (q : Q (.int ys.length) H) : cLenL K [.ref p] H Q := ⟨_, _, rfl, h, q⟩
def cLenT (K : PySem.W.Frag) : List V → Hp → VK → Prop := fun xs H Q => ∃ p ys, xs = [.ref p] ∧ SqT K H p ys ∧ Q (.int ys.length) H
theorem call_lenT : CallR X (.builtin "len") (cLenT X.K) := fun pins s σ H xs us Q I r h => by
  obtain ⟨p, ys, e, hq, q⟩ := h
  exact call_len_seq pins s σ H xs us Q I r ⟨p, ys, e, .inr hq, q⟩
theorem w_lenT (h : SqT K H p ys) (q : Q (.int ys.length) H) : cLenT K [.ref p] H Q := ⟨_, _, rfl, h, q⟩
def cLenS : List V → Hp → VK → Prop := fun xs H Q => ∃ z, xs = [.str z] ∧ z.length ≤ sizeLine ∧ Q (.int z.length) H
theorem call_lenS : CallR X (.builtin "len") cLenS := call_len_str
theorem w_lenS (h : s.length ≤ sizeLine) (q : Q (.int s.length) H) : cLenS [.str s] H Q := ⟨_, rfl, h, q⟩
def cStrI : List V → Hp → VK → Prop := fun xs H Q => ∃ i, xs = [.int i] ∧ i.natAbs.log2 < 1920 ∧ Q (.str (toString i)) H
theorem call_strI : CallR X (.type "str") cStrI := call_str_int
theorem w_strI (h : i.natAbs.log2 < 1920) (q : Q (.str (toString i)) H) : cStrI [.int i] H Q := ⟨_, rfl, h, q⟩
def cIntS : List V → Hp → VK → Prop := fun xs H Q => ∃ a n, xs = [.str a] ∧ PySem.intText? a = some n ∧ a.length ≤ 640 ∧ Q (.int n) H
theorem call_intS : CallR X (.type "int") cIntS := call_int_str
theorem w_intS (h : PySem.intText? s = some i) (l : s.length ≤ 640) (q : Q (.int i) H) : cIntS [.str s] H Q := ⟨_, _, rfl, h, l, q⟩
def cIntB : List V → Hp → VK → Prop := fun xs H Q => ∃ k, xs = [.bl k] ∧ Q (.int (if k then 1 else 0)) H
theorem call_intB : CallR X (.type "int") cIntB := fun pins s σ H xs us Q I r h => call_int1 pins s σ H xs us Q I r (.inr h)
theorem w_intB {k : Bool} (q : Q (.int (if k then 1 else 0)) H) : cIntB [.bl k] H Q := ⟨_, rfl, q⟩
def cListL (K : PySem.W.Frag) : List V → Hp → VK → Prop := fun xs H Q => ∃ p ys, xs = [.ref p] ∧ SqL K H p ys ∧ ∀ l, H l = none → Q (.ref l) (upd H l (.lst ys))
theorem call_listL : CallR X (.type "list") (cListL X.K) := fun pins s σ H xs us Q I r h => by
  obtain ⟨p, ys, e, hq, q⟩ := h
  exact call_list_of pins s σ H xs us Q I r ⟨p, ys, e, .inl hq, q⟩
theorem w_listL (h : SqL K H p ys) (q : ∀ l, H l = none → Q (.ref l) (upd H l (.lst ys))) : cListL K [.ref p] H Q := ⟨_, _, rfl, h, q⟩
def cDivmod : List V → Hp → VK → Prop := fun xs H Q => ∃ i j, xs = [.int i, .int j] ∧ CDiv i j ∧ ∀ p, H p = none → Q (.ref p) (upd H p (.tup [.int (i / j), .int (i % j)]))
theorem call_divmodI : CallR X (.builtin "divmod") cDivmod := call_divmod
theorem w_divmod (c : CDiv i j) (q : ∀ p, H p = none → Q (.ref p) (upd H p (.tup [.int (i / j), .int (i % j)]))) : cDivmod [.int i, .int j] H Q := ⟨_, _, rfl, c, q⟩
def cMax : List V → Hp → VK → Prop := fun xs H Q => ∃ i j, xs = [.int i, .int j] ∧ Q (.int (if j > i then j else i)) H
theorem call_maxI (hc : X.calm = true) : CallR X (.builtin "max") cMax := call_max2 hc
theorem w_max (q : Q (.int (max i j)) H) : cMax [.int i, .int j] H Q := ⟨_, _, rfl, by
  have e : (if j > i then j else i) = max i j := by rw [Int.max_def]; split <;> split <;> omega
  rw [e]; exact q⟩
def cMin : List V → Hp → VK → Prop := fun xs H Q => ∃ i j, xs = [.int i, .int j] ∧ Q (.int (if j < i then j else i)) H
theorem call_minI (hc : X.calm = true) : CallR X (.builtin "min") cMin := call_min2 hc
theorem w_min (q : Q (.int (min i j)) H) : cMin [.int i, .int j] H Q := ⟨_, _, rfl, by
  have e : (if j < i then j else i) = min i j := by rw [Int.min_def]; split <;> split <;> omega
  rw [e]; exact q⟩
def rAddS : R2 := fun x y H Q => ∃ i j, x = .str i ∧ y = .str j ∧ i.length + j.length ≤ sizeLine ∧ Q (.str (i ++ j)) H
theorem op_addS : OpR X (binaryOp .Add) rAddS := op_add_str
theorem w_addS (h : s.length + s'.length ≤ sizeLine) (q : Q (.str (s ++ s')) H) : rAddS (.str s) (.str s') H Q := ⟨_, _, rfl, rfl, h, q⟩
def rInS : R2 := fun x y H Q => ∃ i j, x = .str i ∧ y = .str j ∧ Q (.bl (!(Builtin.Str.occurrences j i 0 j.length 1).isEmpty)) H
theorem op_inS : OpR X (compareOp .In) rInS := op_in_str
theorem w_inS (q : Q (.bl (!(Builtin.Str.occurrences s' s 0 s'.length 1).isEmpty)) H) : rInS (.str s) (.str s') H Q := ⟨_, _, rfl, rfl, q⟩
def rNinS : R2 := fun x y H Q => ∃ i j, x = .str i ∧ y = .str j ∧ Q (.bl (!(!(Builtin.Str.occurrences j i 0 j.length 1).isEmpty))) H
theorem op_ninS : OpR X (compareOp .NotIn) rNinS := op_notIn_str
theorem w_ninS (q : Q (.bl (!(!(Builtin.Str.occurrences s' s 0 s'.length 1).isEmpty))) H) : rNinS (.str s) (.str s') H Q := ⟨_, _, rfl, rfl, q⟩
def rIsN : R2 := fun x y H Q => y = .non ∧ Q (.bl (decide (x = .non))) H
theorem op_isNn : OpR X (compareOp .Is) rIsN := op_isN
theorem w_isN (q : Q (.bl (decide (x = .non))) H) : rIsN x .non H Q := ⟨rfl, q⟩
def rNotN : R2 := fun x y H Q => y = .non ∧ Q (.bl (!decide (x = .non))) H
theorem op_notNn : OpR X (compareOp .IsNot) rNotN := op_notN
theorem w_notN (q : Q (.bl (!decide (x = .non))) H) : rNotN x .non H Q := ⟨rfl, q⟩
theorem w_ixL (h : SqL K H p xs) (e : atI xs i = some v) (q : Q v H) : rIxL K (.ref p) (.int i) H Q := ⟨_, _, _, _, rfl, rfl, h, e, q⟩
theorem w_ixT (h : SqT K H p xs) (e : atI xs i = some v) (q : Q v H) : rIxT K (.ref p) (.int i) H Q := ⟨_, _, _, _, rfl, rfl, h, e, q⟩
theorem w_ixS {c : Nat} (l : s.length ≤ sizeLine) (e : atI s.cps.toList i = some c) (q : Q (.str ⟨#[c]⟩) H) : rIxS (.str s) (.int i) H Q := ⟨_, _, _, rfl, rfl, l, e, q⟩
theorem w_app (h : H p = some (.lst xs)) (l : xs.length < sizeLine) (q : Q .non (upd H p (.lst (xs ++ [y])))) : rAppend (.ref p) [y] H Q := ⟨_, _, _, rfl, rfl, h, l, q⟩
theorem w_cat (h : H p = some (.lst xs)) (h' : H a = some (.lst ys)) (l : xs.length + ys.length ≤ sizeLine) (q : ∀ r, H r = none → Q (.ref r) (upd H r (.lst (xs ++ ys)))) : rCat (.ref p) (.ref a) H Q := ⟨_, _, _, _, rfl, rfl, h, h', l, q⟩
theorem w_bm {T : String} {r : V → List V → Hp → VK → Prop} (q : to σ H fun x H1 => tyV K T x H1 ∧ ar σ H1 fun xs H2 => r x xs H2 Q) : tBM K T r to ar σ H Q := q
theorem w_bm0 {T : String} {r : V → List V → Hp → VK → Prop} (q : to σ H fun x H1 => tyV K T x H1 ∧ r x [] H1 Q) : tBM0 K T r to σ H Q := q
theorem w_tyL {P : Prop} (h : SqL K H p xs) (q : P) : tyV K "list" (.ref p) H ∧ P := ⟨.inl ⟨rfl, _, h⟩, q⟩
theorem w_tyS {P : Prop} (q : P) : tyV K "str" (.str s) H ∧ P := ⟨rfl, q⟩
theorem w_tyI {P : Prop} (q : P) : tyV K "int" (.int i) H ∧ P := ⟨rfl, q⟩
theorem w_lst (q : ar σ H fun xs H1 => xs.length ≤ sizeLine ∧ ∀ p, H1 p = none → Q (.ref p) (upd H1 p (.lst xs))) : tLst ar σ H Q := q
theorem w_tup (q : ar σ H fun xs H1 => xs.length ≤ sizeLine ∧ ∀ p, H1 p = none → Q (.ref p) (upd H1 p (.tup xs))) : tTup ar σ H Q := q
theorem w_new {P : Addr → Prop} (l : xs.length ≤ sizeLine) (q : ∀ p, H p = none → P p) : xs.length ≤ sizeLine ∧ ∀ p, H p = none → P p := ⟨l, q⟩
theorem w_sl {r : V → Option Int → Option Int → Hp → VK → Prop} {tl th : TO} (q : te σ H fun x H1 => tl σ H1 fun l H2 => th σ H2 fun u H3 => r x l u H3 Q) : tSl r te tl th σ H Q := q
theorem w_part {Qo : Option Int → Hp → Prop} (q : te σ H fun x H1 => ∃ i, x = .int i ∧ Qo (some i) H1) : tPart te σ H Qo := q
theorem w_part1 {R : Int → Prop} (q : R i) : ∃ j, V.int i = .int j ∧ R j := ⟨_, rfl, q⟩
theorem w_nopart {Qo : Option Int → Hp → Prop} (q : Qo none H) : tNoPart σ H Qo := q
theorem w_slL {lo hi : Option Int} (h : SqL K H p xs) (q : ∀ r, H r = none → Q (.ref r) (upd H r (.lst (cutV xs lo hi)))) : rSlL K (.ref p) lo hi H Q := ⟨_, _, rfl, h, q⟩
theorem w_slS {lo hi : Option Int} (l : s.length ≤ sizeLine) (q : Q (.str (cutS s lo hi)) H) : rSlS (.str s) lo hi H Q := ⟨_, rfl, l, q⟩
theorem w_m1 {r : V → List V → Hp → VK → Prop} (q : to σ H fun x H1 => (∃ a, x = .str a) ∧ te σ H1 fun y H2 => r x [y] H2 Q) : tM1 r to te σ H Q := q
theorem w_m0 {r : V → List V → Hp → VK → Prop} (q : to σ H fun x H1 => (∃ a, x = .str a) ∧ r x [] H1 Q) : tM0 r to σ H Q := q
theorem w_isS {P : Prop} (q : P) : (∃ a, V.str s = .str a) ∧ P := ⟨⟨_, rfl⟩, q⟩
/-- e.f at an instance -/
theorem w_fld (q : ta σ H fun x H1 => ∃ a C dx fs v, x = .ref a ∧ H1 a = some (.ins C dx fs) ∧ Cls K C ∧ NoAttr K C f ∧ fs.lookup f = some v ∧ Q v H1) : tFld K ta f σ H Q := q
theorem w_fld1 (h : H a = some (.ins C dx fs)) (c : Cls K C) (n : NoAttr K C f) (l : fs.lookup f = some v) {R : V → Prop} (q : R v) : ∃ a' C dx fs v', V.ref a = .ref a' ∧ H a' = some (.ins C dx fs) ∧ Cls K C ∧ NoAttr K C f ∧ fs.lookup f = some v' ∧ R v' := ⟨_, _, _, _, _, rfl, h, c, n, l, q⟩
theorem w_sfld (q : tv σ H fun y H1 => ta σ H1 fun x H2 => ∃ a C dx fs, x = .ref a ∧ H2 a = some (.ins C dx fs) ∧ Cls K C ∧ NoAttr K C f ∧ fs.length < 1000 ∧ D.nx σ (upd H2 a (.ins C dx (putF f y fs)))) : sFld K ta tv f D σ H := q
theorem w_sfld1 (h : H a = some (.ins C dx fs)) (c : Cls K C) (n : NoAttr K C f) (l : fs.length < 1000) {R : Hp → Prop} (q : R (upd H a (.ins C dx (putF f y fs)))) : ∃ a' C dx fs, V.ref a = .ref a' ∧ H a' = some (.ins C dx fs) ∧ Cls K C ∧ NoAttr K C f ∧ fs.length < 1000 ∧ R (upd H a' (.ins C dx (putF f y fs))) := ⟨_, _, _, _, rfl, h, c, n, l, q⟩
/-- a def's call: its promise -/
theorem w_ca {P : Program} {w : World} {mg : Str → Option Value} {base : Heap} {CX : CXT} {k j : Nat} {ps : List Str} {dvs : List V} {sp : Sp} {E : XK} (c : Cal P w K mg base CX f j ps dvs sp) (hj : j ≤ k) (q : ar σ H fun vs H1 => sp (vs ++ dvs) H1 Q E) : tCA P w K mg base CX f k E ar σ H Q := ⟨_, _, _, _, c, hj, q⟩
/-- a known test -/
theorem w_ite {c A B : Prop} [Decidable c] (h1 : c → A) (h2 : ¬ c → B) : if decide c = true then A else B := by
  by_cases h : c
  · rw [if_pos (decide_eq_true h)]; exact h1 h
  · rw [if_neg (by simp [h])]; exact h2 h
theorem w_iteN {c A B : Prop} [Decidable c] (h1 : ¬ c → A) (h2 : c → B) : if (!decide c) = true then A else B := by
  by_cases h : c
  · rw [if_neg (by simp [h])]; exact h2 h
  · rw [if_pos (by simp [h])]; exact h1 h
theorem w_iteB {c : Bool} {A B : Prop} (h1 : c = true → A) (h2 : c = false → B) : if c = true then A else B := by
  cases c
  · rw [if_neg Bool.false_ne_true]; exact h2 rfl
  · rw [if_pos rfl]; exact h1 rfl
end
/-! ### loops and comprehensions -/
section
variable {K : PySem.W.Frag} {σ : L2.St} {H : Hp} {Q : VK} {D : Ends} {a : Addr} {xs : List V} {g : TG} {tb : TS} {tt : TT} {te tl : TE} {vs : List Nat} {ar : TA}
theorem w_for {wi : TI} (q : wi σ H fun J H1 => ∃ W : Nat → Nat → L2.St → Hp → Prop, (∃ m, W 0 m σ H1) ∧ ∀ i m σ H, W i m σ H →
  (J.stop i H ∧ D.nx σ H) ∨ (J.go i H ∧ ∃ N : L2.St → Hp → Prop, (∀ σ' H', N σ' H' → ∃ m', m' < m ∧ W (i + 1) m' σ' H') ∧ ∀ x H', J.yld i H x H' → g x σ H' fun σ2 H2 => tb { D with nx := N, ct := N, bk := D.nx } σ2 H2)) : tFor wi g tb D σ H := q
theorem w_iList {R : It → Hp → Prop} (q : tl σ H fun x H1 => ∃ a, x = .ref a ∧ (∃ xs, SqL K H1 a xs) ∧ R (Itl K a) H1) : iList K tl σ H R := q
theorem w_iRng {R : It → Hp → Prop} (q : ar σ H fun vs H1 => ∃ j : Int, vs = [.int j] ∧ -(2 ^ 62) ≤ j ∧ j < 2 ^ 62 ∧ R (Itr 0 j.toNat) H1) : iRng1 ar σ H R := q
theorem w_iRng2 {R : It → Hp → Prop} (q : ar σ H fun vs H1 => ∃ i j : Int, vs = [.int i, .int j] ∧ (-(2 ^ 62) ≤ i ∧ i < 2 ^ 62 ∧ -(2 ^ 62) ≤ j ∧ j < 2 ^ 62) ∧ R (Itr i (j - i).toNat) H1) : iRng2 ar σ H R := q
/-- the loop over the list at a: an invariant over turn, slots, heap -/
theorem w_forL (Pv : Nat → L2.St → Hp → Prop) (hS : SqL K H a xs) (h0 : Pv 0 σ H) (hl : ∀ i σ H, i ≤ xs.length → Pv i σ H → SqL K H a xs)
    (hs : ∀ i x σ H, xs[i]? = some x → Pv i σ H → g x σ H fun σ2 H2 => tb { D with nx := Pv (i + 1), ct := Pv (i + 1), bk := D.nx } σ2 H2) (hd : ∀ σ H, Pv xs.length σ H → D.nx σ H) :
    ∃ a', V.ref a = .ref a' ∧ (∃ xs, SqL K H a' xs) ∧ ∃ W : Nat → Nat → L2.St → Hp → Prop, (∃ m, W 0 m σ H) ∧ ∀ i m σ H, W i m σ H →
      ((Itl K a').stop i H ∧ D.nx σ H) ∨ ((Itl K a').go i H ∧ ∃ N : L2.St → Hp → Prop, (∀ σ' H', N σ' H' → ∃ m', m' < m ∧ W (i + 1) m' σ' H') ∧ ∀ x H', (Itl K a').yld i H x H' → g x σ H' fun σ2 H2 => tb { D with nx := N, ct := N, bk := D.nx } σ2 H2) :=
  ⟨a, rfl, ⟨_, hS⟩, for_list Pv h0 hl hs hd⟩
theorem w_forR {n : Int} (Pv : Nat → L2.St → Hp → Prop) (b1 : -(2 ^ 62) ≤ n) (b2 : n < 2 ^ 62) (h0 : Pv 0 σ H)
    (hs : ∀ i σ H, i < n.toNat → Pv i σ H → g (.int (0 + i)) σ H fun σ2 H2 => tb { D with nx := Pv (i + 1), ct := Pv (i + 1), bk := D.nx } σ2 H2) (hd : ∀ σ H, Pv n.toNat σ H → D.nx σ H) :
    ∃ j : Int, [V.int n] = [V.int j] ∧ -(2 ^ 62) ≤ j ∧ j < 2 ^ 62 ∧ ∃ W : Nat → Nat → L2.St → Hp → Prop, (∃ m, W 0 m σ H) ∧ ∀ i m σ H, W i m σ H →
      ((Itr 0 j.toNat).stop i H ∧ D.nx σ H) ∨ ((Itr 0 j.toNat).go i H ∧ ∃ N : L2.St → Hp → Prop, (∀ σ' H', N σ' H' → ∃ m', m' < m ∧ W (i + 1) m' σ' H') ∧ ∀ x H', (Itr 0 j.toNat).yld i H x H' → g x σ H' fun σ2 H2 => tb { D with nx := N, ct := N, bk := D.nx } σ2 H2) :=
  ⟨n, rfl, b1, b2, for_range Pv h0 hs hd⟩
theorem w_lc {wi : TI} (q : wi σ H fun J H1 => ∀ D, H1 D = none → ∃ W : Nat → Nat → Hp → Prop, (∃ m, W 0 m (upd H1 D (.lst []))) ∧ ∀ i m H, W i m H →
  (J.stop i H ∧ Q (.ref D) H) ∨ (J.go i H ∧ ∃ Nx : Hp → Prop, (∀ H', Nx H' → ∃ m', m' < m ∧ W (i + 1) m' H') ∧ ∀ x H', J.yld i H x H' → g x (wipe σ vs) H' fun σ2 H2 => wipe σ2 vs = wipe σ vs ∧ tt σ2 H2 fun b H3 =>
    if b = true then te σ2 H3 fun y H4 => ∃ acc, H4 D = some (.lst acc) ∧ acc.length < sizeLine ∧ Nx (upd H4 D (.lst (acc ++ [y]))) else Nx H3)) : tLc wi g tt te vs σ H Q := q
theorem w_yes {Qb : Bool → Hp → Prop} (q : Qb true H) : tYes σ H Qb := q
/-- a comprehension over the list at a, in general -/
theorem w_lcL {Rq : Addr → Hp → Prop} (Pv : Addr → Nat → Hp → Prop) (hS : SqL K H a xs) (h0 : ∀ C, H C = none → Pv C 0 (upd H C (.lst []))) (hl : ∀ C i H', H C = none → i ≤ xs.length → Pv C i H' → SqL K H' a xs)
    (hs : ∀ C i x H', H C = none → xs[i]? = some x → Pv C i H' → g x (wipe σ vs) H' fun σ2 H2 => wipe σ2 vs = wipe σ vs ∧ tt σ2 H2 fun b H3 =>
      if b = true then te σ2 H3 fun y H4 => ∃ acc, H4 C = some (.lst acc) ∧ acc.length < sizeLine ∧ Pv C (i + 1) (upd H4 C (.lst (acc ++ [y]))) else Pv C (i + 1) H3) (hd : ∀ C H', H C = none → Pv C xs.length H' → Rq C H') :
    ∃ a', V.ref a = .ref a' ∧ (∃ xs, SqL K H a' xs) ∧ ∀ C, H C = none → ∃ W : Nat → Nat → Hp → Prop, (∃ m, W 0 m (upd H C (.lst []))) ∧ ∀ i m H, W i m H →
      ((Itl K a').stop i H ∧ Rq C H) ∨ ((Itl K a').go i H ∧ ∃ Nx : Hp → Prop, (∀ H', Nx H' → ∃ m', m' < m ∧ W (i + 1) m' H') ∧ ∀ x H', (Itl K a').yld i H x H' → g x (wipe σ vs) H' fun σ2 H2 => wipe σ2 vs = wipe σ vs ∧ tt σ2 H2 fun b H3 =>
        if b = true then te σ2 H3 fun y H4 => ∃ acc, H4 C = some (.lst acc) ∧ acc.length < sizeLine ∧ Nx (upd H4 C (.lst (acc ++ [y]))) else Nx H3) :=
  ⟨a, rfl, ⟨_, hS⟩, fun C hC => lc_list (Pv C) (h0 C hC) (fun i H' hi p => hl C i H' hC hi p) (fun i x H' hx p => hs C i x H' hC hx p) fun H' p => hd C H' hC p⟩
theorem w_lcR {Rq : Addr → Hp → Prop} {n : Int} (Pv : Addr → Nat → Hp → Prop) (b1 : -(2 ^ 62) ≤ n) (b2 : n < 2 ^ 62) (h0 : ∀ C, H C = none → Pv C 0 (upd H C (.lst [])))
    (hs : ∀ C i H', H C = none → i < n.toNat → Pv C i H' → g (.int (0 + i)) (wipe σ vs) H' fun σ2 H2 => wipe σ2 vs = wipe σ vs ∧ tt σ2 H2 fun b H3 =>
      if b = true then te σ2 H3 fun y H4 => ∃ acc, H4 C = some (.lst acc) ∧ acc.length < sizeLine ∧ Pv C (i + 1) (upd H4 C (.lst (acc ++ [y]))) else Pv C (i + 1) H3) (hd : ∀ C H', H C = none → Pv C n.toNat H' → Rq C H') :
    ∃ j : Int, [V.int n] = [V.int j] ∧ -(2 ^ 62) ≤ j ∧ j < 2 ^ 62 ∧ ∀ C, H C = none → ∃ W : Nat → Nat → Hp → Prop, (∃ m, W 0 m (upd H C (.lst []))) ∧ ∀ i m H, W i m H →
      ((Itr 0 j.toNat).stop i H ∧ Rq C H) ∨ ((Itr 0 j.toNat).go i H ∧ ∃ Nx : Hp → Prop, (∀ H', Nx H' → ∃ m', m' < m ∧ W (i + 1) m' H') ∧ ∀ x H', (Itr 0 j.toNat).yld i H x H' → g x (wipe σ vs) H' fun σ2 H2 => wipe σ2 vs = wipe σ vs ∧ tt σ2 H2 fun b H3 =>
        if b = true then te σ2 H3 fun y H4 => ∃ acc, H4 C = some (.lst acc) ∧ acc.length < sizeLine ∧ Nx (upd H4 C (.lst (acc ++ [y]))) else Nx H3) :=
  ⟨n, rfl, b1, b2, fun C hC => lc_range (Pv C) (h0 C hC) (fun i H' hi p => hs C i H' hC hi p) fun H' p => hd C H' hC p⟩
/-- what stands behind i items, where each gives a value or none and nothing else changes -/
def LcF (H : Hp) (xs : List V) (f : V → Option V) (C : Addr) (i : Nat) (H' : Hp) : Prop := Same H H' ∧ H' C = some (.lst ((xs.take i).filterMap f))
theorem take_succ' {α : Type} {xs : List α} {i : Nat} {x : α} (h : xs[i]? = some x) : xs.take (i + 1) = xs.take i ++ [x] := by
  rw [List.take_add_one, h]; rfl
theorem lcF_0 {f : V → Option V} {C : Addr} (h : H C = none) : LcF H xs f C 0 (upd H C (.lst [])) := ⟨same_new h _, by rw [upd_same]; rfl⟩
theorem lcF_yes {f : V → Option V} {C : Addr} {i : Nat} {x y : V} {H4 : Hp} (p : LcF H xs f C i H4) (h : H C = none) (hx : xs[i]? = some x) (hf : f x = some y) (hz : xs.length ≤ 100000) :
    ∃ acc, H4 C = some (.lst acc) ∧ acc.length < sizeLine ∧ LcF H xs f C (i + 1) (upd H4 C (.lst (acc ++ [y]))) := by
  refine ⟨_, p.2, ?_, same_mut p.1 h, ?_⟩
  · have h1 := List.length_filterMap_le f (xs.take i)
    rw [List.length_take] at h1
    have h2 := sizeLine_eq
    omega
  · rw [upd_same, take_succ' hx, List.filterMap_append, List.filterMap_cons_some hf]; rfl
theorem lcF_no {f : V → Option V} {C : Addr} {i : Nat} {x : V} {H4 : Hp} (p : LcF H xs f C i H4) (hx : xs[i]? = some x) (hf : f x = none) : LcF H xs f C (i + 1) H4 := by
  refine ⟨p.1, ?_⟩
  rw [p.2, take_succ' hx, List.filterMap_append, List.filterMap_cons_none hf, List.filterMap_nil, List.append_nil]
end
/-! ### isinstance; == of lists of ints -/
section
variable {X : Cx} {K : PySem.W.Frag} {H : Hp} {Q : VK} {a b : Addr} {ns ms : List Int} {x : V}
theorem w_isi {n t : String} {r : Bool} (ty : TyX K H x (.type t)) (k : kitB t n = some r) (q : Q (.bl r) H) : rIsi K [x, .ty n] H Q := ⟨_, _, _, _, _, rfl, ClsV.ty n, ty, kit_ty k, q⟩
theorem dpAll_ints : ∀ ns : List Int, DpAll K H (ns.map V.int) (ns.map PyData.int)
  | [] => .nil
  | n :: r => .cons (.int n) (dpAll_ints r)
theorem eqvAll_ints : ∀ ns ms : List Int, PyData.eqvAll (ns.map PyData.int) (ms.map PyData.int) = decide (ns = ms)
  | [], [] => by simp [PyData.eqvAll]
  | [], _ :: _ => by simp [PyData.eqvAll]
  | _ :: _, [] => by simp [PyData.eqvAll]
  | n :: r, k :: q => by
    simp only [List.map_cons, PyData.eqvAll, PyData.eqv, eqvAll_ints r q]
    by_cases h : n = k <;> simp [h]
theorem eqv_ints : PyData.eqv (.list (ns.map PyData.int)) (.list (ms.map PyData.int)) = decide (ns = ms) := by
  rw [PyData.eqv]; exact eqvAll_ints ns ms
def rEqI (K : PySem.W.Frag) : R2 := fun x y H Q => ∃ (a b : Addr) (ns ms : List Int), x = .ref a ∧ y = .ref b ∧ SqL K H a (ns.map V.int) ∧ SqL K H b (ms.map V.int) ∧ Q (.bl (decide (ns = ms))) H
def rNeI (K : PySem.W.Frag) : R2 := fun x y H Q => ∃ (a b : Addr) (ns ms : List Int), x = .ref a ∧ y = .ref b ∧ SqL K H a (ns.map V.int) ∧ SqL K H b (ms.map V.int) ∧ Q (.bl (!decide (ns = ms))) H
theorem op_eqLI (hu : X.A.units + 64 < cLine) : OpR X (compareOp .Eq) (rEqI X.K) := fun pins s σ H x y v u Q I rx ry h => by
  obtain ⟨a, b, ns, ms, rfl, rfl, h1, h2, q⟩ := h
  exact op_eqD hu pins s σ H _ _ v u Q I rx ry ⟨_, _, .lst h1 (dpAll_ints ns), .lst h2 (dpAll_ints ms), PySem.W.shaped_ints ns, PySem.W.shaped_ints ms, by rw [eqv_ints]; exact q⟩
theorem op_neLI (hu : X.A.units + 64 < cLine) : OpR X (compareOp .NotEq) (rNeI X.K) := fun pins s σ H x y v u Q I rx ry h => by
  obtain ⟨a, b, ns, ms, rfl, rfl, h1, h2, q⟩ := h
  exact op_neD hu pins s σ H _ _ v u Q I rx ry ⟨_, _, .lst h1 (dpAll_ints ns), .lst h2 (dpAll_ints ms), PySem.W.shaped_ints ns, PySem.W.shaped_ints ms, by rw [eqv_ints]; exact q⟩
theorem w_eqLI (h1 : SqL K H a (ns.map V.int)) (h2 : SqL K H b (ms.map V.int)) (q : Q (.bl (decide (ns = ms))) H) : rEqI K (.ref a) (.ref b) H Q := ⟨_, _, _, _, rfl, rfl, h1, h2, q⟩
theorem w_neLI (h1 : SqL K H a (ns.map V.int)) (h2 : SqL K H b (ms.map V.int)) (q : Q (.bl (!decide (ns = ms))) H) : rNeI K (.ref a) (.ref b) H Q := ⟨_, _, _, _, rfl, rfl, h1, h2, q⟩
theorem w_wip {σ σ' : L2.St} {vs : List Nat} {R : Prop} (h : wipe σ vs = wipe σ' vs) (q : R) : wipe σ vs = wipe σ' vs ∧ R := ⟨h, q⟩
theorem map_at {ns : List Int} {i : Nat} {x : V} (h : (ns.map V.int)[i]? = some x) : ∃ n, ns[i]? = some n ∧ x = .int n := by
  rw [List.getElem?_map] at h
  obtain ⟨t, ht, e⟩ := Option.map_eq_some_iff.mp h
  exact ⟨t, ht, e.symm⟩
theorem at_ints {ns : List Int} {k : Int} (h0 : 0 ≤ k) (h : k < (ns.length : Int)) : atI (ns.map V.int) k = some (V.int (ns.getD k.toNat 0)) := by
  refine at_of (j := k.toNat) (by omega) ?_
  rw [List.getElem?_map, List.getElem?_eq_getElem (by omega)]
  simp [List.getD, List.getElem?_eq_getElem (show k.toNat < ns.length by omega)]
theorem at_nat {xs : List V} {k : Int} {i : Nat} {v : V} (e : k = (i : Int)) (h : xs[i]? = some v) : atI xs k = some v := at_of e h
end
theorem kit_ll : kitB "list" "list" = some true := by decide +kernel
theorem kit_ii : kitB "int" "int" = some true := by decide +kernel
theorem kit_ib : kitB "int" "bool" = some false := by decide +kernel
theorem kit_bb : kitB "bool" "bool" = some true := by decide +kernel
theorem kit_tt : kitB "tuple" "tuple" = some true := by decide +kernel
theorem kit_ss : kitB "str" "str" = some true := by decide +kernel
theorem w_cut {t u : TS} {D : Ends} {σ : L2.St} {H : Hp} (Mid : L2.St → Hp → Prop) (h1 : t { D with nx := Mid } σ H) (h2 : ∀ σ' H', Mid σ' H' → u D σ' H') : C8.tCut t u D σ H := ⟨Mid, h1, h2⟩
section
variable {n : L2.St → Hp → Prop} {r : VK} {b c : L2.St → Hp → Prop} {σ : L2.St} {H : Hp} {v : V}
theorem w_nx (q : n σ H) : (Ends.mk n r b c).nx σ H := q
theorem w_rt (q : r v H) : (Ends.mk n r b c).rt v H := q
theorem w_bk (q : b σ H) : (Ends.mk n r b c).bk σ H := q
theorem w_ct (q : c σ H) : (Ends.mk n r b c).ct σ H := q
end
end Mn

namespace Mn
open PySem PySem.Spec PyProof.Rows L2
theorem ltb {n : Nat} (h : Nat.blt n 1000 = true) : n < 1000 := Nat.le_of_ble_eq_true h
/-! ### classes: their attributes -/
structure ClsF (K : PySem.W.Frag) (C : Addr) (fs : List Str) : Prop where
  cl : Cls K C
  no : ∀ f ∈ fs, NoAttr K C f
/-- Class.m(self, ..) -/
structure CMt (P : Program) (w : World) (K : PySem.W.Frag) (mg : Str → Option Value) (base : Heap) (CX : CXT) (x m : Str) (k : Nat) (ps : List Str) (dvs : List V) (sp : Sp) : Prop where
  ex : ∃ (C f : Addr) (mc : Value) (fd : FuncData) (ds : List Value), mg x = some (.ref C) ∧ ClX.CRead K C mc ∧ PySem.W.findCls K (.ref C) mc m = some (.val (.ref f)) ∧ FnOk P w K mg base CX k f fd ps sp ∧ PySem.W.keepIn K (.ref f) = true ∧ Binds K fd ps ds ∧ Vals dvs ds
section
variable {X : Cx} {P : Program} {w : World} {K : PySem.W.Frag} {mg : Str → Option Value} {base : Heap} {CX : CXT} {k : Nat} {E : XK} {x m : Str} {p pos apos : Pos} {e o : Expr} {es : List Expr} {ta : TE} {t : TA}
def tCMA (P : Program) (w : World) (K : PySem.W.Frag) (mg : Str → Option Value) (base : Heap) (CX : CXT) (x m : Str) (k : Nat) (E : XK) (t : TA) : TE := fun σ H Q => ∃ j ps dvs sp, CMt P w K mg base CX x m j ps dvs sp ∧ j ≤ k ∧ t σ H fun vs H1 => sp (vs ++ dvs) H1 Q E
theorem pe_cma {pl : Sem Bool} (hX : Sx X P w K mg base) (hr : Room k X.A) (hg : Gl X x) (ha : PA X (e :: es) t) (hdb : (x == ("__debug__" : Str)) = false := by decide)
    (hst : starEach (e :: es) X.env = (false, eval e X.env) :: starEach es X.env := by rfl) (hpl : (backTo pos (starEach es X.env)).any (·.1) = false := by rfl)
    (ht : eval (.Call (.Attribute (.Name x p) m apos) (e :: es) [] pos) X.env = (do
      let ov ← eval (.Name x p) X.env
      standAt apos.atName
      let (f, first) ← holding [ov] (getMethod ov m pl)
      callWith pos f first (backTo pos (starEach (e :: es) X.env)) (backToKw pos (keywordEach [] X.env))) := by rfl) :
    PE X (.Call (.Attribute (.Name x p) m apos) (e :: es) [] pos) (tCMA P w K mg base CX0 x m k E0 t) := by
  obtain ⟨rfl, rfl, rfl, rfl, rfl⟩ := hX
  refine ⟨fun pins s σ H Q I h => ?_⟩
  obtain ⟨j, ps, dvs, sp, M, hj, h⟩ := h
  obtain ⟨C, f, mc, fd, ds, hm, rd, fc, F, hk, hb, hd⟩ := M.ex
  refine PySem.W.methodCall_KW (pl := pl) (ld_glob I hg hm ?_ hdb) ht
  refine PySem.W.method_cls I.kIn rd.ga (ClX.getcval_ok (v := V.ref f) (u := Value.ref f) I rd ⟨fc, rfl⟩ fun s1 I1 => ?_)
  refine PySem.W.callWith_K (first := []) (h₀ := X.base) I.ok.mod.kin hk (thn (ha.run pos pins s1 σ H _ I1 h) fun us s2 ⟨vs, H2, I2, r, q2⟩ => ⟨I2.kIn, ?_⟩) hst hpl
  exact run_fn F (hr.mono hj) hb hd pass0 I2 r q2
theorem w_cma {σ : L2.St} {H : Hp} {Q : VK} {j : Nat} {ps : List Str} {dvs : List V} {sp : Sp} (c : CMt P w K mg base CX x m j ps dvs sp) (hj : j ≤ k) (q : t σ H fun vs H1 => sp (vs ++ dvs) H1 Q E) : tCMA P w K mg base CX x m k E t σ H Q := ⟨_, _, _, _, c, hj, q⟩
theorem w_mka {σ : L2.St} {H : Hp} {Q : VK} {j : Nat} {ps : List Str} {dvs : List V} {sp : Sp} {C : Addr} (c : Mak P w K mg base CX x C j ps dvs sp) (hj : j + 1 ≤ k) (q : t σ H fun vs H1 => ∀ x dx, H1 x = none → H1 dx = none → dx ≠ x →
  sp (.ref x :: (vs ++ dvs)) (upd (upd H1 dx (.own x)) x (.ins C dx [])) (fun v H2 => v = .non ∧ Q (.ref x) H2) E) : tMkA P w K mg base CX x k E t σ H Q := ⟨_, _, _, _, _, c, hj, q⟩
theorem w_ma {σ : L2.St} {H : Hp} {Q : VK} (q : ta σ H fun xv H1 => ∃ a C dx fs j ps dvs sp, xv = .ref a ∧ H1 a = some (.ins C dx fs) ∧ Cls K C ∧ fs.lookup m = none ∧ Mth P w K mg base CX C m j ps dvs sp ∧ j ≤ k ∧
  t σ H1 fun vs H2 => sp (xv :: (vs ++ dvs)) H2 Q E) : tMA P w K mg base CX m k E ta t σ H Q := q
theorem w_ma1 {H : Hp} {a C dx : Addr} {fs : List (Str × V)} {j : Nat} {ps : List Str} {dvs : List V} {sp : Sp} {R : List V → Sp → Prop} (h : H a = some (.ins C dx fs)) (c : Cls K C) (l : fs.lookup m = none)
    (M : Mth P w K mg base CX C m j ps dvs sp) (hj : j ≤ k) (q : R dvs sp) : ∃ a' C dx fs j ps dvs sp, V.ref a = .ref a' ∧ H a' = some (.ins C dx fs) ∧ Cls K C ∧ fs.lookup m = none ∧ Mth P w K mg base CX C m j ps dvs sp ∧ j ≤ k ∧ R dvs sp :=
  ⟨_, _, _, _, _, _, _, _, rfl, h, c, l, M, hj, q⟩
end
/-! ### lists of texts, is of bools, += -/
section
variable {X : Cx} {K : PySem.W.Frag} {H : Hp} {Q : VK} {a b : Addr} {ns ms : List Str} {x y : V} {D : Ends} {σ : L2.St} {te : TE} {n : Nat} {i j : Int} {p : Bool} {q : Bool}
theorem dpAll_strs : ∀ ns : List Str, DpAll K H (ns.map V.str) (ns.map PyData.str)
  | [] => .nil
  | n :: r => .cons (.str n) (dpAll_strs r)
theorem eqvAll_strs : ∀ ns ms : List Str, PyData.eqvAll (ns.map PyData.str) (ms.map PyData.str) = decide (ns = ms)
  | [], [] => by simp [PyData.eqvAll]
  | [], _ :: _ => by simp [PyData.eqvAll]
  | _ :: _, [] => by simp [PyData.eqvAll]
  | n :: r, k :: q => by
    simp only [List.map_cons, PyData.eqvAll, PyData.eqv, eqvAll_strs r q]
    by_cases h : n = k <;> simp [h]
def okStrs (ns : List Str) : Bool := ns.all PyData.strOk
theorem canLay_strs : ∀ ns : List Str, okStrs ns = true → PyData.canLayAll0 (ns.map PyData.str) = true
  | [], _ => by simp [PyData.canLayAll0]
  | n :: r, h => by
    simp only [okStrs, List.all_cons, Bool.and_eq_true] at h
    simp only [List.map_cons, PyData.canLayAll0, PyData.canLay0, Bool.and_eq_true]
    exact ⟨h.1, canLay_strs r h.2⟩
theorem depth_strs : ∀ ns : List Str, PyData.depthAll (ns.map PyData.str) ≤ 1
  | [] => by simp [PyData.depthAll]
  | n :: r => by
    have := depth_strs r
    simp only [List.map_cons, PyData.depthAll, PyData.depth]
    omega
theorem shaped_strs (h : okStrs ns = true) : SeqAt.shaped (.list (ns.map PyData.str)) = true := by
  have h1 := depth_strs ns
  have h2 : PyData.depth (.list (ns.map PyData.str)) ≤ 64 := by simp only [PyData.depth]; omega
  show (PyData.canLay0 (.list (ns.map PyData.str)) && decide (PyData.depth (.list (ns.map PyData.str)) ≤ 64)) = true
  rw [Bool.and_eq_true]
  exact ⟨by simp only [PyData.canLay0]; exact canLay_strs ns h, decide_eq_true h2⟩
def rEqS (K : PySem.W.Frag) : R2 := fun x y H Q => ∃ (a b : Addr) (ns ms : List Str), x = .ref a ∧ y = .ref b ∧ SqL K H a (ns.map V.str) ∧ SqL K H b (ms.map V.str) ∧ okStrs ns = true ∧ okStrs ms = true ∧ Q (.bl (decide (ns = ms))) H
def rNeS (K : PySem.W.Frag) : R2 := fun x y H Q => ∃ (a b : Addr) (ns ms : List Str), x = .ref a ∧ y = .ref b ∧ SqL K H a (ns.map V.str) ∧ SqL K H b (ms.map V.str) ∧ okStrs ns = true ∧ okStrs ms = true ∧ Q (.bl (!decide (ns = ms))) H
theorem op_eqLS (hu : X.A.units + 64 < cLine) : OpR X (compareOp .Eq) (rEqS X.K) := fun pins s σ H x y v u Q I rx ry h => by
  obtain ⟨a, b, ns, ms, rfl, rfl, h1, h2, o1, o2, q⟩ := h
  exact op_eqD hu pins s σ H _ _ v u Q I rx ry ⟨_, _, .lst h1 (dpAll_strs ns), .lst h2 (dpAll_strs ms), shaped_strs o1, shaped_strs o2, by rw [PyData.eqv, eqvAll_strs]; exact q⟩
theorem op_neLS (hu : X.A.units + 64 < cLine) : OpR X (compareOp .NotEq) (rNeS X.K) := fun pins s σ H x y v u Q I rx ry h => by
  obtain ⟨a, b, ns, ms, rfl, rfl, h1, h2, o1, o2, q⟩ := h
  exact op_neD hu pins s σ H _ _ v u Q I rx ry ⟨_, _, .lst h1 (dpAll_strs ns), .lst h2 (dpAll_strs ms), shaped_strs o1, shaped_strs o2, by rw [PyData.eqv, eqvAll_strs]; exact q⟩
theorem w_eqLS (h1 : SqL K H a (ns.map V.str)) (h2 : SqL K H b (ms.map V.str)) (o1 : okStrs ns = true) (o2 : okStrs ms = true) (q : Q (.bl (decide (ns = ms))) H) : rEqS K (.ref a) (.ref b) H Q := ⟨_, _, _, _, rfl, rfl, h1, h2, o1, o2, q⟩
theorem w_neLS (h1 : SqL K H a (ns.map V.str)) (h2 : SqL K H b (ms.map V.str)) (o1 : okStrs ns = true) (o2 : okStrs ms = true) (q : Q (.bl (!decide (ns = ms))) H) : rNeS K (.ref a) (.ref b) H Q := ⟨_, _, _, _, rfl, rfl, h1, h2, o1, o2, q⟩
def rIsBl : R2 := fun x y H Q => ∃ a b, x = .bl a ∧ y = .bl b ∧ Q (.bl (decide (a = b))) H
theorem op_isB : OpR X (compareOp .Is) rIsBl := op_is_bl
theorem w_isBl (h : Q (.bl (decide (p = q))) H) : rIsBl (.bl p) (.bl q) H Q := ⟨_, _, rfl, rfl, h⟩
theorem w_aug {ti : TIp} (h : σ[n]? = some (some x)) (q : te σ H fun y H1 => ti x y H1 fun z H2 => D.nx (σ.set n (some z)) H2) : tAug n te ti D σ H := ⟨_, h, q⟩
theorem w_ipI {f : Int → Int → Int} (q : Q (.int (f i j)) H) : ipI f (.int i) (.int j) H Q := ⟨_, _, rfl, rfl, q⟩
theorem w_tup_at {xs : List V} {i : Int} {k : Nat} {v : V} (e : i = (k : Int)) (h : xs[k]? = some v) : atI xs i = some v := at_of e h
theorem w_sub {to ti : TE} {ts : TSet} {v : V} {Qs : L2.St → Hp → Prop} (q : to σ H fun o H1 => ti σ H1 fun i H2 => ts o i v H2 fun H3 => Qs σ H3) : gSub to ti ts v σ H Qs := q
theorem w_setL {xs : List V} {k : Nat} {r : Addr} {v : V} {Qh : Hp → Prop} (h : H r = some (.lst xs)) (e : ixN xs.length i = some k) (q : Qh (upd H r (.lst (xs.set k v)))) : rSetL (.ref r) (.int i) v H Qh := ⟨_, _, _, _, rfl, rfl, h, e, q⟩
theorem ixN_of {m k : Nat} (e : i = (k : Int)) (h : k < m) : ixN m i = some k := by
  subst e
  unfold ixN
  rw [if_pos (by omega), if_pos (by omega), Int.toNat_natCast]
end
end Mn

namespace Mn
open PySem PySem.Spec PyProof.Rows L2
/-! ### the rules that name the written part, K told ahead -/
section
variable {X : Cx} {K : PySem.W.Frag} {e a b o value : Expr} {es : List Expr} {f name : Str} {pos pos' tpos apos cpos : Pos} {ta tb tv te to : TE} {t : TA} {tg : Expr}
theorem kFld (hK : X.K = K) (he : PE X e ta) (hb : attributeBase e f X.env (eval e X.env) = eval e X.env := by rfl) : PE X (.Attribute e f pos) (tFld K ta f) := hK ▸ pe_fld he hb
theorem kSFld (hK : X.K = K) (ha : PE X o ta) (hv : PE X value tv) (hs : swapsWith value (some (.Attribute o f pos')) pos.line X.env = pure false := by rfl) : PS X (.Assign [.Attribute o f pos'] value pos) (sFld K ta tv f) := hK ▸ ps_fld ha hv hs
theorem kSFldAug {op : Operator} {rd : V → V → Hp → VK → Prop} (hK : X.K = K) (ha : PE X o ta) (hv : PE X value tv) (hop : InOp X op rd) : PS X (.AugAssign (.Attribute o f tpos) op value pos) (sFldAug K ta tv rd f) := hK ▸ ps_fldaug ha hv hop
theorem kIxL (hK : X.K = K) : IxR X (rIxL K) := hK ▸ ix_list
theorem kIxT (hK : X.K = K) : IxR X (rIxT K) := hK ▸ ix_tup
theorem kLenL (hK : X.K = K) : CallR X (.builtin "len") (cLenL K) := hK ▸ call_lenL
theorem kLenT (hK : X.K = K) : CallR X (.builtin "len") (cLenT K) := hK ▸ call_lenT
theorem kListL (hK : X.K = K) : CallR X (.type "list") (cListL K) := hK ▸ call_listL
theorem kSorted (hK : X.K = K) : CallR X (.builtin "sorted") (rSorted K) := hK ▸ cr_sorted
theorem kIsi (hK : X.K = K) : CallR X (.builtin "isinstance") (rIsi K) := hK ▸ call_isi
theorem kPiL (hK : X.K = K) (hl : PE X e te) : PI X tg e (iList K te) := hK ▸ pi_list hl
theorem kPiT (hK : X.K = K) (hl : PE X e te) : PI X tg e (iTup K te) := hK ▸ pi_tup hl
theorem kSlL (hK : X.K = K) : SlR X (rSlL K) := hK ▸ sl_list
theorem kIn (hK : X.K = K) : OpR X (compareOp .In) (rIn K false) := hK ▸ op_in_seq
theorem kNotIn (hK : X.K = K) : OpR X (compareOp .NotIn) (rIn K true) := hK ▸ op_notIn_seq
theorem kEqI (hK : X.K = K) (hu : X.A.units + 64 < cLine) : OpR X (compareOp .Eq) (rEqI K) := hK ▸ op_eqLI hu
theorem kNeI (hK : X.K = K) (hu : X.A.units + 64 < cLine) : OpR X (compareOp .NotEq) (rNeI K) := hK ▸ op_neLI hu
theorem kEqS (hK : X.K = K) (hu : X.A.units + 64 < cLine) : OpR X (compareOp .Eq) (rEqS K) := hK ▸ op_eqLS hu
theorem kNeS (hK : X.K = K) (hu : X.A.units + 64 < cLine) : OpR X (compareOp .NotEq) (rNeS K) := hK ▸ op_neLS hu
theorem kEqD (hK : X.K = K) (hu : X.A.units + 64 < cLine) : OpR X (compareOp .Eq) (rEqD K) := hK ▸ op_eqD hu
theorem kNeD (hK : X.K = K) (hu : X.A.units + 64 < cLine) : OpR X (compareOp .NotEq) (rNeD K) := hK ▸ op_neD hu
theorem kIndex (hK : X.K = K) : MtR X "list.index" (rIndex K) := hK ▸ mt_index
theorem kTup {k : Nat} {n : Nat} {gs : TGs} (hK : X.K = K) (hc : X.calm = true) (h : PGs X es gs)
    (hn : (assignEach es X.env).length = n := by rfl) (hst : (assignEach es X.env).findIdx? (·.1) = none := by rfl) : PG X (.Tuple es k pos) (gTup K n gs) := hK ▸ pg_tup hc h hn hst
theorem kBm {T id : String} {r : V → List V → Hp → VK → Prop} (hK : X.K = K) (pa : PlainAttrs T) (slot : Slot T name id) (hty : typeOf (.builtin id) = pure (.type "method_descriptor")) (hm : MtR X id r) (ho : PE X o to) (ha : PA X (e :: es) t)
    (hbase : attributeBase o name X.env (eval o X.env) = eval o X.env := by rfl)
    (hfew : ((backTo cpos (starEach (e :: es) X.env)).all (fun x => !x.1) && (backToKw cpos (keywordEach [] X.env)).all (fun x => x.1.isSome)
      && decide ((e :: es).length + ([] : List Keyword).length + (if ([] : List Keyword).isEmpty then 0 else 1) < 30)) = true := by rfl)
    (hline : (apos.endLine == cpos.line) = true := by rfl) (hs : starEach (e :: es) X.env = (false, eval e X.env) :: starEach es X.env := by rfl) (hplain : (backTo cpos (starEach es X.env)).any (·.1) = false := by rfl) : PE X (.Call (.Attribute o name apos) (e :: es) [] cpos) (tBM K T r to t) := hK ▸ pe_bm pa slot hty hm ho ha hbase hfew hline hs hplain
theorem kBm0 {T id : String} {r : V → List V → Hp → VK → Prop} (hK : X.K = K) (pa : PlainAttrs T) (slot : Slot T name id) (hty : typeOf (.builtin id) = pure (.type "method_descriptor")) (hm : MtR X id r) (ho : PE X o to)
    (hbase : attributeBase o name X.env (eval o X.env) = eval o X.env := by rfl) (hline : (apos.endLine == cpos.line) = true := by rfl) : PE X (.Call (.Attribute o name apos) [] [] cpos) (tBM0 K T r to) := hK ▸ pe_bm0 pa slot hty hm ho hbase hline
end
end Mn

namespace Mn
open PySem L2
/-! ### texts that can be laid -/
theorem strOk_of (s : String) : PyData.strOk (Str.ofString s) = true := by
  rw [Str.ofString_eq_toList]
  show (List.toArray (s.toList.map Char.toNat)).all (fun n => decide (n < 0x110000)) = true
  rw [List.all_toArray, List.all_map, List.all_eq_true]
  intro c _
  refine decide_eq_true ?_
  have h := c.valid
  show c.val.toNat < 0x110000
  rcases h with h | h
  · exact Nat.lt_trans h (by decide)
  · exact h.2
theorem okStrs_cons {n : Str} {r : List Str} (h : PyData.strOk n = true) (t : okStrs r = true) : okStrs (n :: r) = true := by
  simp only [okStrs, List.all_cons, Bool.and_eq_true] at t ⊢
  exact ⟨h, t⟩
/-- a number whose digits are fewer than 577 -/
def Smol (i : Int) : Prop := i.natAbs.log2 < 1920
theorem smol_of {i : Int} (h : i.natAbs < 2 ^ 64) : Smol i := by
  unfold Smol
  by_cases h0 : i.natAbs = 0
  · rw [h0]; decide
  · have := (Nat.log2_lt h0).mpr h
    omega
abbrev FunS (K : PySem.W.Frag) (x qual : Str) (st : Stmt) (dvs : List V) (f : Addr) (fd : FuncData) : Prop := FunD K x qual (defArgs st) (defBody st) (defScope st) dvs [] f fd
/-! ### names of the module, x in a tuple | list -/
section
variable {K : PySem.W.Frag} {mg : Str → Option Value} {σ : L2.St} {H : Hp} {Q : VK} {x : Str} {v y : V} {u : Value} {p : Addr} {xs : List V}
theorem w_gv (h : mg x = some u) (r : RelV v u) (q : Q v H) : tGv mg x σ H Q := ⟨v, u, h, r, q⟩
theorem w_inT (h : SqT K H p xs) (fx : flatV y = true) (fs : xs.all flatV = true) (q : Q (.bl (inV y xs)) H) : rIn K false y (.ref p) H Q := ⟨p, xs, rfl, .inr h, fx, fs, q⟩
theorem w_inL (h : SqL K H p xs) (fx : flatV y = true) (fs : xs.all flatV = true) (q : Q (.bl (inV y xs)) H) : rIn K false y (.ref p) H Q := ⟨p, xs, rfl, .inl h, fx, fs, q⟩
theorem w_ninT (h : SqT K H p xs) (fx : flatV y = true) (fs : xs.all flatV = true) (q : Q (.bl (!inV y xs)) H) : rIn K true y (.ref p) H Q := ⟨p, xs, rfl, .inr h, fx, fs, q⟩
theorem w_ninL (h : SqL K H p xs) (fx : flatV y = true) (fs : xs.all flatV = true) (q : Q (.bl (!inV y xs)) H) : rIn K true y (.ref p) H Q := ⟨p, xs, rfl, .inl h, fx, fs, q⟩
end
theorem inV2 (x a b : Str) : inV (.str x) [.str a, .str b] = (decide (x = a) || decide (x = b)) := by
  unfold inV
  simp only [List.any_cons, List.any_nil, Bool.or_false]
  have e : ∀ a : Str, eqV (.str a) (.str x) = decide (x = a) := fun a => by
    show decide (a = x) = decide (x = a)
    exact decide_eq_decide.mpr ⟨Eq.symm, Eq.symm⟩
  rw [e, e]
theorem inV_int {z : Int} {l : List Int} : inV (.int z) (l.map V.int) = decide (z ∈ l) := by
  rw [Bool.eq_iff_iff, decide_eq_true_eq]
  unfold inV
  rw [List.any_map, List.any_eq_true]
  constructor
  · rintro ⟨y, hy, e⟩
    have e : decide (y = z) = true := e
    rw [← of_decide_eq_true e]
    exact hy
  · exact fun h => ⟨z, h, decide_eq_true rfl⟩
end Mn

/-! ### errors of own classes: raised, caught, handed to a def in the suite -/
namespace Mn
open PySem PySem.Spec PyProof.Rows L2 L2H
/-- the wish of a def's caller, slots aside -/
abbrev wE (E : XK) : WX := fun c d _ H => E c d H
abbrev CXN (P : Program) (w : World) : CXT := L2N.CX P w
section
variable {X : Cx} {P : Program} {w : World} {K : PySem.W.Frag} {mg : Str → Option Value} {base : Heap} {k : Nat} {W : WX} {x m : Str} {p pos apos : Pos} {e o : Expr} {es : List Expr} {ta : TE} {t : TA}
/-- f(e, ..) of a def that may raise; W takes what it lets out -/
def tCE (P : Program) (w : World) (K : PySem.W.Frag) (mg : Str → Option Value) (base : Heap) (x : Str) (k : Nat) (W : WX) (t : TA) : TE := fun σ H Q => ∃ j ps dvs sp, Cal P w K mg base (CXN P w) x j ps dvs sp ∧ j ≤ k ∧ t σ H fun vs H1 => sp (vs ++ dvs) H1 Q (WE W σ)
theorem pe_cae (hX : Sx X P w K mg base) (hr : Room k X.A) (hg : Gl X x) (tk : L2N.Takes X W) (ha : PA X (e :: es) t) (hdb : (x == ("__debug__" : Str)) = false := by decide) (he : starEach (e :: es) X.env = (false, eval e X.env) :: starEach es X.env := by rfl)
    (hpl : (backTo pos (starEach es X.env)).any (·.1) = false := by rfl) : PE X (.Call (.Name x p) (e :: es) [] pos) (tCE P w K mg base x k W t) := by
  obtain ⟨rfl, rfl, rfl, rfl, rfl⟩ := hX
  refine ⟨fun pins s σ H Q I h => ?_⟩
  obtain ⟨j, ps, dvs, sp, C, hj, h⟩ := h
  obtain ⟨f, fd, ds, F, hm, hk, hb, hd⟩ := C.ex
  refine wpAny_Call_Name_kw (ld_glob I hg hm ?_ hdb)
  refine PySem.W.callWith_K (h₀ := X.base) I.ok.mod.kin hk (thn (ha.run pos pins s σ H _ I h) fun us s1 ⟨vs, H1, I1, r, q⟩ => ⟨I1.kIn, ?_⟩) he hpl
  exact run_fnSD F (hr.mono hj) hb hd (L2N.passAt tk σ) I1 r q
theorem w_cae {σ : L2.St} {H : Hp} {Q : VK} {j : Nat} {ps : List Str} {dvs : List V} {sp : Sp} (c : Cal P w K mg base (CXN P w) x j ps dvs sp) (hj : j ≤ k) (q : t σ H fun vs H1 => sp (vs ++ dvs) H1 Q (WE W σ)) : tCE P w K mg base x k W t σ H Q := ⟨_, _, _, _, c, hj, q⟩
end
/-! ### a def that the suite calls with the error that it holds -/
/-- its promise may speak of the error's address and class -/
structure FnE (P : Program) (w : World) (K : PySem.W.Frag) (mg : Str → Option Value) (base : Heap) (k : Nat) (f : Addr) (fd : FuncData) (ps : List Str) (sp : Addr → Value → Option Addr → Sp) : Prop where
  len : ∀ a c d vs H Q E, sp a c d vs H Q E → vs.length = ps.length
  run : ∀ (A : Around) (outer : List Env) (s : Shared) (H : Hp) (args : Args) (us : List Value) (vs : List V) (Q : VK) (E : XK) (q : Addr × Obj) (c : Value) (d : Option Addr), RoomH k A → Hot1 A q → L2N.Zn c d q.2 → PinOk outer H s q → Env0 P w K mg base A outer s H →
    BindsTo s fd args (ps.zip us) → Vals vs us → sp q.1 c d vs H Q E → codeAny (model P w) A (.call (.ref f) args) (CR CX0 outer P w H s Q E) s
theorem hot_fields {A : Around} {q : Addr × Obj} (h : Hot1 A q) : ∃ vs, q.2.data = .fields vs := ⟨_, h.2.choose_spec.1⟩
/-- the rule for such a def -/
theorem fnE_of {P : Program} {w : World} {K : PySem.W.Frag} {mg : Str → Option Value} {base : Heap} {k : Nat} {x qual : Str} {st : Stmt} {f : Addr} {fd : FuncData} {N ps : List Str} {sp : Addr → Value → Option Addr → Sp} (F : Fun K x qual st f fd) (S : FnScope N ps (defScope st))
    (len : ∀ a c d vs H Q E, sp a c d vs H Q E → vs.length = ps.length)
    (hbody : ∀ (cdv : Value) (A : Around) (outer : List Env) (s : Shared) (H : Hp) (vs : List V) (Q : VK) (E : XK) (q : Addr × Obj) (c : Value) (d : Option Addr), Hot1 A q → L2N.Zn c d q.2 → RoomH k (A.deeper (envOfC qual (defScope st) s.heap.objs.size f cdv)) → sp q.1 c d vs H Q E →
      ∃ t, PSs (cxH CX0 P w K mg base N qual (defScope st) f cdv A outer s H E q) (defBody st) t ∧ t { nx := fun _ H' => Q .non H', rt := Q } (L2.start N vs) H) : FnE P w K mg base (k + 1) f fd ps sp := by
  obtain ⟨oc, od, kV, doc, pm, an, cdv, ct, osl, rfl, lk, hcd⟩ := F.ex
  refine ⟨len, fun A outer s H args us vs Q E q c d hr hot hz hpin e0 hb r hsp => ?_⟩
  -- the def is found, its frame is made
  have inK : K.In s.heap := e0.mod.kin.keeps fun b o z => (e0.bs b o z).1
  have noLim : s.heap.NoLimit := e0.mod.nolimit.keeps fun b o z => (e0.bs b o z).1
  refine codeAny_call_function hr.depth (inK _ _ lk) rfl S.co S.gen rfl (PySem.W.codeRec_of inK hcd) (hb _ _ _ _ ?_)
  refine wpAny_newFunctionEnv_cells S.kind (fun y hy => ?_) fun env he s1 z => ?_
  · rcases S.par y.1 (List.of_mem_zip hy).1 with loc | cell
    · exact .inl loc
    · exact .inr ⟨cell, PySem.W.cellsFrom_some _ _ _ (.inl cell)⟩
  subst he
  refine ⟨noLim.keeps z.toInCall.keep, codeAny_func ?_⟩
  -- its body
  obtain ⟨t, ht, hq⟩ := hbody cdv A outer s H vs Q E q c d hot hz (hr.deeper _) hsp
  have I := inv_startH (CX := CX0) (E := E) S hpin e0 (len _ _ _ _ _ _ _ hsp) r z
  refine wpAny_mono (ht.run [] s1 (L2.start N vs) H _ I hq) (fun fl s' hs => ?_) fun _ _ hs => hs
  cases fl with
  | brk => exact hs.choose_spec.choose_spec.2.elim
  | cont => exact hs.choose_spec.choose_spec.2.elim
  | next =>
    obtain ⟨σ', H', J, q'⟩ := hs
    exact ⟨V.non, H', J.os, J.bare, J.base, J.hok, rfl, q'⟩
  | ret u =>
    obtain ⟨v, σ', H', J, rv, q'⟩ := hs
    exact ⟨v, H', J.os, J.bare, J.base, J.hok, rv, q'⟩
structure CalE (P : Program) (w : World) (K : PySem.W.Frag) (mg : Str → Option Value) (base : Heap) (x : Str) (k : Nat) (ps : List Str) (sp : Addr → Value → Option Addr → Sp) : Prop where
  ex : ∃ (f : Addr) (fd : FuncData), FnE P w K mg base k f fd ps sp ∧ mg x = some (.ref f) ∧ PySem.W.keepIn K (.ref f) = true ∧ Binds K fd ps []
section
variable {X : Cx} {P : Program} {w : World} {K : PySem.W.Frag} {mg : Str → Option Value} {base : Heap} {k : Nat} {x : Str} {p pos : Pos} {e : Expr} {es : List Expr} {t : TA} {q : Addr × Obj} {c : Value} {d : Option Addr}
def tCH (P : Program) (w : World) (K : PySem.W.Frag) (mg : Str → Option Value) (base : Heap) (x : Str) (k : Nat) (a : Addr) (c : Value) (d : Option Addr) (t : TA) : TE := fun σ H Q => ∃ j ps sp, CalE P w K mg base x j ps sp ∧ j ≤ k ∧ t σ H fun vs H1 => sp a c d vs H1 Q E0
theorem pe_cah (hX : Sx X P w K mg base) (hr : RoomH k X.A) (hot : Hot1 X.A q) (hq : q ∈ X.pn) (hz : L2N.Zn c d q.2) (hg : Gl X x) (ha : PA X (e :: es) t) (hdb : (x == ("__debug__" : Str)) = false := by decide)
    (he : starEach (e :: es) X.env = (false, eval e X.env) :: starEach es X.env := by rfl) (hpl : (backTo pos (starEach es X.env)).any (·.1) = false := by rfl) : PE X (.Call (.Name x p) (e :: es) [] pos) (tCH P w K mg base x k q.1 c d t) := by
  obtain ⟨rfl, rfl, rfl, rfl, rfl⟩ := hX
  refine ⟨fun pins s σ H Q I h => ?_⟩
  obtain ⟨j, ps, sp, C, hj, h⟩ := h
  obtain ⟨f, fd, F, hm, hk, hb⟩ := C.ex
  refine wpAny_Call_Name_kw (ld_glob I hg hm ?_ hdb)
  refine PySem.W.callWith_K (h₀ := X.base) I.ok.mod.kin hk (thn (ha.run pos pins s σ H _ I h) fun us s1 ⟨vs, H1, I1, r, h1⟩ => ⟨I1.kIn, ?_⟩) he hpl
  -- the error stands where nothing else reaches
  have at_ := I1.pin q (List.mem_append_left _ hq)
  have pin : PinOk X.stack H1 s1 q := ⟨at_.1, at_.2.1, fun z => (List.mem_cons.mp (I1.stkSub q.1 z)).elim at_.2.2.1 at_.2.2.2.1, at_.2.2.2.2⟩
  have n : us.length = ps.length := r.length.symm.trans (F.len _ _ _ _ _ _ _ h1)
  have b := hb s1 us I1.kIn (by rw [List.append_nil]; exact n)
  rw [List.append_nil] at b
  refine wpAny_call (codeAny_mono (F.run X.A X.stack s1 H1 ⟨us, []⟩ us vs Q E0 q c d (hr.mono hj) hot hz pin I1.env0 b r h1) fun z s' hs => ?_)
  cases z with
  | error _ => exact hs.elim
  | ok fl => cases fl with
    | ret u => exact I1.after hs
    | next => exact hs.elim
    | brk => exact hs.elim
    | cont => exact hs.elim
theorem w_cah {σ : L2.St} {H : Hp} {Q : VK} {j : Nat} {ps : List Str} {sp : Addr → Value → Option Addr → Sp} {a : Addr} (C : CalE P w K mg base x j ps sp) (hj : j ≤ k) (h : t σ H fun vs H1 => sp a c d vs H1 Q E0) : tCH P w K mg base x k a c d t σ H Q := ⟨_, _, _, C, hj, h⟩
/-- isinstance(e, c) where the error is pinned -/
theorem call_isP {D : Addr} (hq : q ∈ X.pn) (C : ExcC X.K D) (hz : Zc (.ref D) none q.2) (hf : ∃ vs, q.2.data = .fields vs) : CallR X (.builtin "isinstance") (rIsE X.K D q.1) := by
  intro pins s σ H xs us Q I r h
  obtain ⟨c, cv, b, rfl, hcv, hk, h⟩ := h
  obtain ⟨vs, hv⟩ := hf
  have g := (I.pin q (List.mem_append_left _ hq)).1
  have J : PySem.W.InstAt s.heap q.1 q.2 D none := by
    obtain ⟨qa, oc, od, oda, osl⟩ := q
    obtain ⟨h1, h2⟩ := hz
    dsimp only at h1 h2 hv
    subst h1 h2 hv
    exact ⟨g, rfl, rfl, trivial⟩
  match us, r with
  | [u1, u2], .cons r1 (.cons r2 .nil) =>
    obtain rfl : u1 = Value.ref q.1 := r1
    obtain rfl := hcv _ r2
    exact PySem.W.kia_one (PySem.W.handS_kitx_exc C.hg C.hk C.hs C.hd C.ha C.hn C.ht C.hm) I.kIn J hk (fun z => nomatch z) fun tk => ⟨.bl b, H, I.kept (t' := tk) fun _ _ z => z, rfl, h⟩
theorem kIsP {K : PySem.W.Frag} {D : Addr} (hK : X.K = K) (hq : q ∈ X.pn) (C : ExcC K D) (hz : Zc (.ref D) none q.2) (hf : ∃ vs, q.2.data = .fields vs) : CallR X (.builtin "isinstance") (rIsE K D q.1) := by
  subst hK
  exact call_isP hq C hz hf
theorem w_isE {K : PySem.W.Frag} {D a : Addr} {v : V} {cv : Value} {b : Bool} {H : Hp} {Q : VK} (hv : ∀ u, RelV v u → u = cv) (hk : PySem.W.kitOne K (.ref D) cv = some b) (h : Q (.bl b) H) : rIsE K D a [.ref a, v] H Q := ⟨_, _, _, rfl, hv, hk, h⟩
end
theorem roomH_mark {k : Nat} {A : Around} {h : Option Value} (r : Room k A) : RoomH k (A.mark h) := ⟨r.dp, r.un⟩
theorem hot_mark {A : Around} {a : Addr} {oe : Obj} {c : Value} {d : Option Addr} (hz : L2N.Zn c d oe) (hv : ∃ vs, oe.data = .fields vs) : Hot1 (A.mark (some (.ref a))) (a, oe) := by
  obtain ⟨vs, e⟩ := hv
  exact ⟨rfl, vs, e, hz.2.2 vs e⟩
/-- what the text must say of an own error, so that it can be raised and named -/
structure ErrK (K : PySem.W.Frag) (mg : Str → Option Value) (x : Str) (C : Addr) : Prop where
  xf : PySem.W.excIn K C [.type "ValueError", .type "Exception", .type "BaseException", .type "object"] "ValueError.__new__" = true
  g : mg x = some (.ref C)
  k : PySem.W.keepIn K (.ref C) = true
  b : PySem.W.subIn K (.ref C) (.type "BaseException") = some true
  t : PySem.W.typeIn K (.ref C) = some (.type "type")
/-- the class named in a clause -/
structure NamK (K : PySem.W.Frag) (mg : Str → Option Value) (x : Str) (C : Addr) : Prop where
  g : mg x = some (.ref C)
theorem tk_weak {X : Cx} {W : WX} (tk : L2.Takes X W) : L2N.Takes X W := fun u s' h => by
  obtain ⟨a, B, sI, pins, σ, H, cls, d, e, I, nb, up, sky, na, os, ag, w⟩ := h
  refine tk u s' ⟨a, B, sI, pins, σ, H, cls, d, e, I, nb, up, ?_, na, os, ag, w⟩
  rcases sky with ⟨h1, h2, h3, oe, vs, he, hz, hd, h4⟩ | fl | hh
  · exact .inl ⟨h1, h2, h3, oe, vs, he, hz.zc, hd, h4⟩
  · exact .inr (.inl (flyingZ_imp (fun _ z => L2N.Zn.zc z) fl))
  · obtain ⟨h1, h2, h3, h4⟩ := hh
    exact .inr (.inr ⟨h1, h2, h3, tracedZ_imp (fun _ z => L2N.Zn.zc z) h4⟩)
theorem takesN0 {X : Cx} : L2N.Takes X (fun _ _ _ _ => False) := fun _ _ h => by
  obtain ⟨_, _, _, _, _, _, _, _, _, _, _, _, _, _, _, _, z⟩ := h
  exact z.elim
/-- a call in the suite, the error handed on -/
theorem pe_cas {X : Cx} {P : Program} {w : World} {K : PySem.W.Frag} {mg : Str → Option Value} {base : Heap} {k : Nat} {x : Str} {p pos : Pos} {e : Expr} {es : List Expr} {t : TA} {a : Addr} {oe : Obj} {c : Value} {d : Option Addr} (hX : Sx X P w K mg base) (hr : RoomH k X.A) (hz : L2N.Zn c d oe)
    (hot : Hot1 X.A (a, oe)) (hq : (a, oe) ∈ X.pn) (hg : Gl X x) (ha : PA X (e :: es) t) (hdb : (x == ("__debug__" : Str)) = false := by decide)
    (he : starEach (e :: es) X.env = (false, eval e X.env) :: starEach es X.env := by rfl) (hpl : (backTo pos (starEach es X.env)).any (·.1) = false := by rfl) : PE X (.Call (.Name x p) (e :: es) [] pos) (tCH P w K mg base x k a c d t) :=
  pe_cah (q := (a, oe)) hX hr hot hq hz hg ha hdb he hpl
theorem w_thru {t u : TS} {D : Ends} {σ : L2.St} {H : Hp} (q : t { D with nx := u D } σ H) : tThru t u D σ H := q
end Mn

/-! ### more of texts -/
namespace Mn
open PySem PySem.Spec PyProof.Rows L2
section
variable {X : Cx}
theorem mt_rpartition : MtR X "str.rpartition" (fun x xs H Q => ∃ a b, x = .str a ∧ xs = [.str b] ∧ (b.length == 0) = false ∧ a.length ≤ sizeLine ∧
    ∀ p, H p = none → Q (.ref p) (upd H p (.tup [.str (Txt.rpartition a b).1, .str (Txt.rpartition a b).2.1, .str (Txt.rpartition a b).2.2]))) := by
  intro pins s σ H x xs v us Q I rx rs h
  obtain ⟨a, b, rfl, rfl, hb, hz, h⟩ := h
  obtain ⟨t, rfl⟩ := rx
  match us, rs with
  | [_], .cons r1 .nil =>
    obtain ⟨u, rfl⟩ := r1
    refine call_meets F.slot_str_rpartition (typeIs_str _ _ _) F.entry_str_rpartition (F.args_str_rpartition_2 _ _) (meets_str_rpartition a b t u hb hz) ?_
    unfold Txt.rpartition at h
    cases e : Builtin.Str.lastOccurrence a b 0 a.length with
    | none => rw [e] at h; exact laid_parts I h
    | some i => rw [e] at h; exact laid_parts I h
end
/-! ### for c in text; while -/
section
variable {σ : L2.St} {H : Hp} {D : Ends} {g : TG} {tb : TS} {te : TE}
theorem w_iStr {R : It → Hp → Prop} (q : te σ H fun v H1 => ∃ x, v = .str x ∧ R (Its x) H1) : iStr te σ H R := q
theorem w_forS {x : Str} (Pv : Nat → L2.St → Hp → Prop) (h0 : Pv 0 σ H) (hs : ∀ i c σ H, (TL.tl x)[i]? = some c → Pv i σ H → g (.str ⟨#[c]⟩) σ H fun σ2 H2 => tb { D with nx := Pv (i + 1), ct := Pv (i + 1), bk := D.nx } σ2 H2)
    (hd : ∀ σ H, Pv (TL.tl x).length σ H → D.nx σ H) : ∃ x', V.str x = .str x' ∧ ∃ W : Nat → Nat → L2.St → Hp → Prop, (∃ m, W 0 m σ H) ∧ ∀ i m σ H, W i m σ H →
      ((Its x').stop i H ∧ D.nx σ H) ∨ ((Its x').go i H ∧ ∃ N : L2.St → Hp → Prop, (∀ σ' H', N σ' H' → ∃ m', m' < m ∧ W (i + 1) m' σ' H') ∧ ∀ v H', (Its x').yld i H v H' → g v σ H' fun σ2 H2 => tb { D with nx := N, ct := N, bk := D.nx } σ2 H2) := by
  have n : (TL.tl x).length = x.cps.size := Array.length_toList
  refine ⟨x, rfl, fun i m σ H => m = x.cps.size - i ∧ i ≤ x.cps.size ∧ Pv i σ H, ⟨_, rfl, Nat.zero_le _, h0⟩, ?_⟩
  rintro i m σ H ⟨rfl, hi, p⟩
  by_cases lt : i < x.cps.size
  · refine .inr ⟨lt, Pv (i + 1), fun σ' H' p' => ⟨x.cps.size - (i + 1), by omega, rfl, lt, p'⟩, fun v H' y => ?_⟩
    obtain ⟨rfl, c, hc, rfl⟩ := y
    exact hs i c σ _ (by rw [← hc]; exact Array.getElem?_toList) p
  · have e : i = x.cps.size := by omega
    subst e
    exact .inl ⟨Nat.le_refl _, hd σ H (n ▸ p)⟩
end
end Mn
namespace Mn
open PySem PySem.Spec PyProof.Rows L2
section
variable {K : PySem.W.Frag} {σ : L2.St} {H : Hp} {a : Addr} {n : Nat} {t : TG} {u : TGs} {us : TGs} {v : V} {r xs : List V} {Qs : L2.St → Hp → Prop}
theorem w_gtup (h : SqT K H a xs) (l : xs.length = n) (q : us xs σ H Qs) : gTup K n us (.ref a) σ H Qs := ⟨_, _, rfl, h, l, q⟩
theorem w_gcons (q : t v σ H fun σ' H' => u r σ' H' Qs) : gCons t u (v :: r) σ H Qs := ⟨_, _, rfl, q⟩
theorem w_gnil (q : Qs σ H) : gNil [] σ H Qs := ⟨rfl, q⟩
end
end Mn

/-! ### a list == [], text * int, int.bit_length -/
namespace Mn
open PySem PySem.Spec PyProof.Rows L2 TL
section
variable {X : Cx} {H : Hp} {Q : VK} {a b : Addr} {xs : List V} {x : Str} {n : Int} {k : Nat}
theorem op_eqE (hu : X.A.units + 64 < cLine) : OpR X (compareOp .Eq) rEqE := by
  intro pins s σ H x y v u Q I rx ry h
  obtain ⟨a, b, xs, rfl, rfl, h1, h2, q⟩ := h
  obtain rfl : v = Value.ref a := rx
  obtain rfl : u = Value.ref b := ry
  obtain ⟨is1, r1, ⟨o1, n1, g1, c1, _, d1⟩, _⟩ := I.list (SqL.of h1)
  obtain ⟨is2, r2, ⟨o2, n2, g2, c2, _, d2⟩, _⟩ := I.list (SqL.of h2)
  have e2 : is2 = [] := by cases r2; rfl
  subst e2
  have l1 : s.heap.IsList a is1.toArray := ⟨o1, g1, c1, n1, d1⟩
  have l2 : s.heap.IsList b #[] := ⟨o2, g2, c2, n2, d2⟩
  cases r1 with
  | nil => exact SeqAt.eq_listAt (e := fun _ => true) l1 l2 rfl (by omega) (fun j h => absurd h (Nat.not_lt_zero j)) ⟨.bl true, H, I, rfl, q⟩
  | cons r rs => exact SeqAt.eq_list_lengthsAt l1 l2 rfl (by omega) ⟨.bl false, H, I, rfl, q⟩
theorem op_neE (hu : X.A.units + 64 < cLine) : OpR X (compareOp .NotEq) rNeE := by
  intro pins s σ H x y v u Q I rx ry h
  obtain ⟨a, b, xs, rfl, rfl, h1, h2, q⟩ := h
  obtain rfl : v = Value.ref a := rx
  obtain rfl : u = Value.ref b := ry
  obtain ⟨is1, r1, ⟨o1, n1, g1, c1, _, d1⟩, _⟩ := I.list (SqL.of h1)
  obtain ⟨is2, r2, ⟨o2, n2, g2, c2, _, d2⟩, _⟩ := I.list (SqL.of h2)
  have e2 : is2 = [] := by cases r2; rfl
  subst e2
  have l1 : s.heap.IsList a is1.toArray := ⟨o1, g1, c1, n1, d1⟩
  have l2 : s.heap.IsList b #[] := ⟨o2, g2, c2, n2, d2⟩
  cases r1 with
  | nil => exact SeqAt.RcNeAt.lists (e := fun _ => true) l1 l2 rfl (by omega) (fun j h => absurd h (Nat.not_lt_zero j)) _ _ _ _ ⟨.bl false, H, I, rfl, q⟩
  | cons r rs => exact SeqAt.RcNeAt.lists_lengths l1 l2 rfl (by omega) _ _ _ _ ⟨.bl true, H, I, rfl, q⟩
theorem w_eqE (h1 : H a = some (.lst xs)) (h2 : H b = some (.lst [])) (q : Q (.bl xs.isEmpty) H) : rEqE (.ref a) (.ref b) H Q := ⟨_, _, _, rfl, rfl, h1, h2, q⟩
theorem w_neE (h1 : H a = some (.lst xs)) (h2 : H b = some (.lst [])) (q : Q (.bl (!xs.isEmpty)) H) : rNeE (.ref a) (.ref b) H Q := ⟨_, _, _, rfl, rfl, h1, h2, q⟩
def rMulS : R2 := fun x y H Q => ∃ (z : Str) (n : Nat), x = .str z ∧ y = .int (n : Int) ∧ z.length ≤ 1000 ∧ n ≤ 1000 ∧ Q (.str (Txt.mul z n)) H
theorem op_mul_str : OpR X (binaryOp .Mult) rMulS := by
  intro pins s σ H x y v u Q I rx ry h
  obtain ⟨z, n, rfl, rfl, lz, ln, q⟩ := h
  obtain ⟨t, rfl⟩ := rx
  obtain ⟨t', rfl⟩ := ry
  refine SB.mul ⟨?_, fun h1 h2 => ?_, fun h1 h2 => ?_⟩ fun t' k => ⟨.str _, H, I.tok _, ⟨_, rfl⟩, q⟩
  · rw [decide_eq_false (by omega), decide_eq_false (by omega)]
    rfl
  · have : (2 : Int) ^ 63 - 1 = 9223372036854775807 := by decide
    rw [this]
    have h3 : (1000 : Int) ≤ 9223372036854775807 / (n : Int) := by
      rw [Int.le_ediv_iff_mul_le (by omega)]
      omega
    omega
  · have hz := PySem.sizeLine_eq
    unfold Builtin.Str.tooLong
    have : z.length * ((n : Int)).toNat ≤ 1000 * 1000 := Nat.mul_le_mul lz (by omega)
    exact decide_eq_false (by omega)
theorem w_mulS (lz : x.length ≤ 1000) (lk : k ≤ 1000) (q : Q (.str (Txt.mul x k)) H) : rMulS (.str x) (.int (k : Int)) H Q := ⟨_, _, rfl, rfl, lz, lk, q⟩
theorem foldl_cat (l : List Nat) : ∀ (k : Nat) (acc : Array Nat), ((List.replicate k l.toArray).foldl (· ++ ·) acc).toList = acc.toList ++ (List.replicate k l).flatten
  | 0, acc => by simp
  | k + 1, acc => by
    rw [List.replicate_succ, List.foldl_cons, foldl_cat l k, List.replicate_succ, List.flatten_cons, Array.toList_append, List.append_assoc]
theorem tl_mul (z : Str) (n : Nat) : tl (Txt.mul z n) = (List.replicate n (tl z)).flatten := by
  unfold Txt.mul
  by_cases h : n = 0
  · subst h
    rfl
  · rw [if_neg (by omega)]
    split
    · rename_i c
      rw [Bool.or_eq_true, beq_iff_eq, beq_iff_eq] at c
      rcases c with c | c
      · have : n = 1 := by omega
        subst this
        simp [tl]
      · have e : tl z = [] := by rw [len_tl] at c; exact List.length_eq_zero_iff.mp c
        rw [e]
        simp
    · have := foldl_cat (tl z) n #[]
      rw [Int.toNat_natCast]
      simp only [Array.toArray_toList] at this
      rw [show tl ⟨List.foldl (· ++ ·) #[] (List.replicate n z.cps)⟩ = (List.foldl (· ++ ·) #[] (List.replicate n z.cps)).toList from rfl, this]
      simp
theorem tl_mul1 (c n : Nat) : tl (Txt.mul ⟨#[c]⟩ n) = List.replicate n c := by
  rw [tl_mul]
  induction n with
  | zero => rfl
  | succ n ih =>
    rw [List.replicate_succ, List.flatten_cons, ih, List.replicate_succ]
    rfl
theorem tl_mul2 (c n : Nat) : tl (Txt.mul ⟨#[c, c]⟩ n) = List.replicate (2 * n) c := by
  rw [tl_mul]
  induction n with
  | zero => rfl
  | succ n ih =>
    rw [List.replicate_succ, List.flatten_cons, ih, show 2 * (n + 1) = 2 * n + 1 + 1 by omega, List.replicate_succ, List.replicate_succ]
    rfl
def bitLen (n : Nat) : Nat := if n = 0 then 0 else n.log2 + 1
theorem mt_bitlen : MtR X "int.bit_length" (fun x xs H Q => ∃ n : Nat, x = .int (n : Int) ∧ xs = [] ∧ Q (.int (bitLen n : Int)) H) := by
  intro pins s σ H x xs v us Q I rx rs h
  obtain ⟨n, rfl, rfl, q⟩ := h
  obtain ⟨t, rfl⟩ := rx
  cases rs
  refine call_int_bit_length ?_
  have e : Builtin.Int.intBits (n : Int) = bitLen n := by
    unfold Builtin.Int.intBits bitLen
    by_cases h : n = 0
    · subst h; rfl
    · rw [if_neg h, if_neg (by simpa using h), Int.natAbs_natCast]
  rw [e]
  exact ⟨.int _, H, I.tok _, ⟨_, rfl⟩, q⟩
end
end Mn
namespace Mn
open PySem PySem.Spec PyProof.Rows L2
section
variable {σ : L2.St} {H : Hp} {Q : VK} {D : Ends} {td ty tv : TE} {a : Addr} {v y : V} {o : Option V} {kvs : List (Key × V)} {k : Key}
theorem neN {H : Hp} {a b : Addr} {o : HO} (h : H b = none) (h' : H a = some o) : a ≠ b := ne_of_none h' h
theorem w_dput (q : tv σ H fun v H1 => td σ H1 fun x H2 => ty σ H2 fun y H3 => ∃ a H4, x = .ref a ∧ DPut H3 a y v H4 ∧ D.nx σ H4) : sDPut td ty tv D σ H := q
theorem w_dput1 {R : Hp → Prop} (h : H a = some (.dK kvs)) (e : y = kV k) (l : kvs.length < sizeLine) (q : R (upd H a (.dK (putK kvs k v)))) : ∃ a' H4, V.ref a = .ref a' ∧ DPut H a' y v H4 ∧ R H4 := by
  subst e
  exact ⟨_, _, rfl, DPut.k h l, q⟩
theorem w_dget (q : td σ H fun x H1 => ty σ H1 fun y H2 => ∃ a v, x = .ref a ∧ DGet H2 a y (some v) ∧ Q v H2) : tDGet td ty σ H Q := q
theorem w_din (q : ty σ H fun y H1 => td σ H1 fun x H2 => ∃ a o, x = .ref a ∧ DGet H2 a y o ∧ Q (.bl o.isSome) H2) : tDIn ty td σ H Q := q
theorem w_dnin (q : ty σ H fun y H1 => td σ H1 fun x H2 => ∃ a o, x = .ref a ∧ DGet H2 a y o ∧ Q (.bl (!o.isSome)) H2) : tDNotIn ty td σ H Q := q
theorem w_dget1 {R : Option V → Prop} (h : H a = some (.dK kvs)) (e : y = kV k) (q : R (valV kvs k)) : ∃ a' o, V.ref a = .ref a' ∧ DGet H a' y o ∧ R o := by
  subst e
  exact ⟨_, _, rfl, DGet.k h, q⟩
theorem w_dget2 {R : V → Prop} (h : H a = some (.dK kvs)) (e : y = kV k) (hv : valV kvs k = some v) (q : R v) : ∃ a' v', V.ref a = .ref a' ∧ DGet H a' y (some v') ∧ R v' := by
  subst e
  exact ⟨_, _, rfl, by rw [← hv]; exact DGet.k h, q⟩
theorem w_dnew (q : ∀ p, H p = none → Q (.ref p) (upd H p (.dK []))) : tDNewK σ H Q := q
end
end Mn
namespace Mn
open PySem PySem.Spec PyProof.Rows L2
/-- a def by its body, whatever it lets out -/
theorem okN {CX : CXT} {P : Program} {w : World} {K : PySem.W.Frag} {mg : Str → Option Value} {base : Heap} {x qual : Str} {st : Stmt} {f : Addr} {fd : FuncData} {N ps : List Str} {k : Nat} {sp : Sp} (F : Fun K x qual st f fd)
    (S : FnScope N ps (defScope st)) (len : ∀ vs H Q E, sp vs H Q E → vs.length = ps.length)
    (body : ∀ (cdv : Value) (A : Around) (outer : List Env) (s : Shared) (H : Hp) (vs : List V) (Q : VK) (E : XK),
      Room k (A.deeper (envOfC qual (defScope st) s.heap.objs.size f cdv)) → sp vs H Q E →
        ∃ t, PSs (cxOf CX P w K mg base N qual (defScope st) f cdv A outer s H E) (defBody st) t ∧
          t { nx := fun _ H' => Q .non H', rt := Q } (start N vs) H) : FnOk P w K mg base CX (k + 1) f fd ps sp := by
  obtain ⟨_, _, _, _, _, _, c, _, _, rfl, lk, hc⟩ := F.ex
  exact fn_of lk hc S len fun A o s H vs Q E r h => body c A o s H vs Q E r h
end Mn
namespace Mn
open PySem PySem.Spec PyProof.Rows L2
section
variable {σ : L2.St} {H : Hp} {Q : VK} {D : Ends} {g : TG} {tb : TS}
theorem w_forR2 {lo hi : Int} (Pv : Nat → L2.St → Hp → Prop) (b : -(2 ^ 62) ≤ lo ∧ lo < 2 ^ 62 ∧ -(2 ^ 62) ≤ hi ∧ hi < 2 ^ 62) (h0 : Pv 0 σ H)
    (hs : ∀ i σ H, i < (hi - lo).toNat → Pv i σ H → g (.int (lo + i)) σ H fun σ2 H2 => tb { D with nx := Pv (i + 1), ct := Pv (i + 1), bk := D.nx } σ2 H2) (hd : ∀ σ H, Pv (hi - lo).toNat σ H → D.nx σ H) :
    ∃ i j : Int, [V.int lo, V.int hi] = [V.int i, V.int j] ∧ (-(2 ^ 62) ≤ i ∧ i < 2 ^ 62 ∧ -(2 ^ 62) ≤ j ∧ j < 2 ^ 62) ∧ ∃ W : Nat → Nat → L2.St → Hp → Prop, (∃ m, W 0 m σ H) ∧ ∀ k m σ H, W k m σ H →
      ((Itr i (j - i).toNat).stop k H ∧ D.nx σ H) ∨ ((Itr i (j - i).toNat).go k H ∧ ∃ N : L2.St → Hp → Prop, (∀ σ' H', N σ' H' → ∃ m', m' < m ∧ W (k + 1) m' σ' H') ∧ ∀ x H', (Itr i (j - i).toNat).yld k H x H' → g x σ H' fun σ2 H2 => tb { D with nx := N, ct := N, bk := D.nx } σ2 H2) :=
  ⟨lo, hi, rfl, b, for_range Pv h0 hs hd⟩
theorem cutV_to (xs : List V) (n : Nat) : cutV xs none (some (n : Int)) = xs.take n := by
  unfold cutV
  rw [HT.sIx_none, HT.sIx_nat, List.drop_zero, Nat.sub_zero]
  by_cases h : n ≤ xs.length
  · rw [Nat.min_eq_left h]
  · rw [Nat.min_eq_right (by omega), List.take_of_length_le (Nat.le_refl _), List.take_of_length_le (by omega)]
theorem cutV_from (xs : List V) (n : Nat) : cutV xs (some (n : Int)) none = xs.drop n := by
  unfold cutV
  rw [HT.sIx_none, HT.sIx_nat]
  by_cases h : n ≤ xs.length
  · rw [Nat.min_eq_left h, List.take_of_length_le (by rw [List.length_drop]; exact Nat.le_refl _)]
  · rw [Nat.min_eq_right (by omega), List.drop_of_length_le (Nat.le_refl _), List.drop_of_length_le (by omega), List.take_nil]
theorem at_last {α : Type} {xs : List α} {v : α} (h0 : 0 < xs.length) (h : xs[xs.length - 1]? = some v) : atI xs (-1) = some v := by
  have hne : xs ≠ [] := List.length_pos_iff.mp h0
  rw [← List.dropLast_concat_getLast hne, atI_last]
  rw [← h, ← List.getLast?_eq_getElem?, List.getLast?_eq_some_getLast hne]
end
end Mn

namespace Mn
open PySem L2
def top (i : Nat) : Stmt := PySem.Challenge.pw_minders_k06_the_first_row_misread.main.body.getD i (.Pass ⟨0, 0, 0, 0⟩)
/-- the built-ins that the text names -/
structure Bt (mg : Str → Option Value) : Prop where
  len : mg "len" = none
  int : mg "int" = none
  bool : mg "bool" = none
  list : mg "list" = none
  str : mg "str" = none
  divmod : mg "divmod" = none
  range : mg "range" = none
  isinstance : mg "isinstance" = none
  ValueError : mg "ValueError" = none
  KeyError : mg "KeyError" = none
abbrev s_fit_name : Stmt := top 12
theorem sc_fit_name : FnScope ["text"] ["text"] (defScope s_fit_name) := ⟨rfl, rfl, rfl, by decide +kernel, rfl, by decide +kernel, by decide +kernel⟩
abbrev s_number_in : Stmt := top 14
theorem sc_number_in : FnScope ["text", "most", "value"] ["text", "most"] (defScope s_number_in) := ⟨rfl, rfl, rfl, by decide +kernel, rfl, by decide +kernel, by decide +kernel⟩
abbrev s_Shape_init : Stmt := inClass (top 16) 0
theorem sc_Shape_init : FnScope ["self", "name", "keep"] ["self", "name", "keep"] (defScope s_Shape_init) := ⟨rfl, rfl, rfl, by decide +kernel, rfl, by decide +kernel, by decide +kernel⟩
abbrev s_Shape_leaf : Stmt := inClass (top 16) 1
theorem sc_Shape_leaf : FnScope ["self"] ["self"] (defScope s_Shape_leaf) := ⟨rfl, rfl, rfl, by decide +kernel, rfl, by decide +kernel, by decide +kernel⟩
abbrev s_Leaf_init : Stmt := inClass (top 17) 0
theorem sc_Leaf_init : FnScope ["self", "name", "keep", "grace", "slow"] ["self", "name", "keep", "grace", "slow"] (defScope s_Leaf_init) := ⟨rfl, rfl, rfl, by decide +kernel, rfl, by decide +kernel, by decide +kernel⟩
abbrev s_Leaf_leaf : Stmt := inClass (top 17) 1
theorem sc_Leaf_leaf : FnScope ["self"] ["self"] (defScope s_Leaf_leaf) := ⟨rfl, rfl, rfl, by decide +kernel, rfl, by decide +kernel, by decide +kernel⟩
abbrev s_Leaf_work : Stmt := inClass (top 17) 3
theorem sc_Leaf_work : FnScope ["self"] ["self"] (defScope s_Leaf_work) := ⟨rfl, rfl, rfl, by decide +kernel, rfl, by decide +kernel, by decide +kernel⟩
abbrev s_Leaf_words : Stmt := inClass (top 17) 4
theorem sc_Leaf_words : FnScope ["self"] ["self"] (defScope s_Leaf_words) := ⟨rfl, rfl, rfl, by decide +kernel, rfl, by decide +kernel, by decide +kernel⟩
abbrev s_Steady_init : Stmt := inClass (top 18) 0
theorem sc_Steady_init : FnScope ["self", "name", "keep", "many", "grace", "slow"] ["self", "name", "keep", "many", "grace", "slow"] (defScope s_Steady_init) := ⟨rfl, rfl, rfl, by decide +kernel, rfl, by decide +kernel, by decide +kernel⟩
abbrev s_Steady_work : Stmt := inClass (top 18) 2
theorem sc_Steady_work : FnScope ["self"] ["self"] (defScope s_Steady_work) := ⟨rfl, rfl, rfl, by decide +kernel, rfl, by decide +kernel, by decide +kernel⟩
abbrev s_Faller_init : Stmt := inClass (top 19) 0
theorem sc_Faller_init : FnScope ["self", "name", "keep", "many", "grace", "slow"] ["self", "name", "keep", "many", "grace", "slow"] (defScope s_Faller_init) := ⟨rfl, rfl, rfl, by decide +kernel, rfl, by decide +kernel, by decide +kernel⟩
abbrev s_Faller_work : Stmt := inClass (top 19) 2
theorem sc_Faller_work : FnScope ["self"] ["self"] (defScope s_Faller_work) := ⟨rfl, rfl, rfl, by decide +kernel, rfl, by decide +kernel, by decide +kernel⟩
abbrev s_Minder_init : Stmt := inClass (top 20) 0
theorem sc_Minder_init : FnScope ["self", "name", "keep", "most", "span"] ["self", "name", "keep", "most", "span"] (defScope s_Minder_init) := ⟨rfl, rfl, rfl, by decide +kernel, rfl, by decide +kernel, by decide +kernel⟩
abbrev s_Minder_way : Stmt := inClass (top 20) 1
theorem sc_Minder_way : FnScope ["self"] ["self"] (defScope s_Minder_way) := ⟨rfl, rfl, rfl, by decide +kernel, rfl, by decide +kernel, by decide +kernel⟩
abbrev s_Minder_words : Stmt := inClass (top 20) 3
theorem sc_Minder_words : FnScope ["self"] ["self"] (defScope s_Minder_words) := ⟨rfl, rfl, rfl, by decide +kernel, rfl, by decide +kernel, by decide +kernel⟩
abbrev s_AllMinder_way : Stmt := inClass (top 21) 0
theorem sc_AllMinder_way : FnScope ["self"] ["self"] (defScope s_AllMinder_way) := ⟨rfl, rfl, rfl, by decide +kernel, rfl, by decide +kernel, by decide +kernel⟩
abbrev s_RestMinder_way : Stmt := inClass (top 22) 0
theorem sc_RestMinder_way : FnScope ["self"] ["self"] (defScope s_RestMinder_way) := ⟨rfl, rfl, rfl, by decide +kernel, rfl, by decide +kernel, by decide +kernel⟩
abbrev s_Tree_init : Stmt := inClass (top 27) 0
theorem sc_Tree_init : FnScope ["self"] ["self"] (defScope s_Tree_init) := ⟨rfl, rfl, rfl, by decide +kernel, rfl, by decide +kernel, by decide +kernel⟩
abbrev s_Tree_add : Stmt := inClass (top 27) 1
theorem sc_Tree_add : FnScope ["self", "shape", "elder", "at"] ["self", "shape", "elder"] (defScope s_Tree_add) := ⟨rfl, rfl, rfl, by decide +kernel, rfl, by decide +kernel, by decide +kernel⟩
abbrev s_Tree_depth : Stmt := inClass (top 27) 5
theorem sc_Tree_depth : FnScope ["self", "at", "steps"] ["self", "at"] (defScope s_Tree_depth) := ⟨rfl, rfl, rfl, by decide +kernel, rfl, by decide +kernel, by decide +kernel⟩
abbrev s_leaf_by : Stmt := top 28
theorem sc_leaf_by : FnScope ["words", "grace", "slow"] ["words"] (defScope s_leaf_by) := ⟨rfl, rfl, rfl, by decide +kernel, rfl, by decide +kernel, by decide +kernel⟩
abbrev s_minder_by : Stmt := top 29
theorem sc_minder_by : FnScope ["words", "most", "span"] ["words"] (defScope s_minder_by) := ⟨rfl, rfl, rfl, by decide +kernel, rfl, by decide +kernel, by decide +kernel⟩
abbrev s_shape_by : Stmt := top 30
theorem sc_shape_by : FnScope ["words", "shape"] ["words"] (defScope s_shape_by) := ⟨rfl, rfl, rfl, by decide +kernel, rfl, by decide +kernel, by decide +kernel⟩
abbrev s_elder_at : Stmt := top 31
theorem sc_elder_at : FnScope ["tree", "deep", "at"] ["tree", "deep"] (defScope s_elder_at) := ⟨rfl, rfl, rfl, by decide +kernel, rfl, by decide +kernel, by decide +kernel⟩
abbrev s_read : Stmt := top 32
theorem sc_read : FnScope ["text", "tree", "rows", "k", "words", "blanks", "shape", "elder", "deep", "odd", "word"] ["text"] (defScope s_read) := ⟨rfl, rfl, rfl, by decide +kernel, rfl, by decide +kernel, by decide +kernel⟩
abbrev s_written : Stmt := top 33
theorem sc_written : FnScope ["tree", "rows", "at", "shape"] ["tree"] (defScope s_written) := ⟨rfl, rfl, rfl, by decide +kernel, rfl, by decide +kernel, by decide +kernel⟩
abbrev s_law_cell_at : Stmt := top 35
theorem sc_law_cell_at : FnScope ["_law_script", "_law_k"] ["_law_script", "_law_k"] (defScope s_law_cell_at) := ⟨rfl, rfl, rfl, by decide +kernel, rfl, by decide +kernel, by decide +kernel⟩
abbrev s_law_name : Stmt := top 36
theorem sc_law_name : FnScope ["_law_k", "_law_mark", "_law_signs", "_law_two"] ["_law_k", "_law_mark"] (defScope s_law_name) := ⟨rfl, rfl, rfl, by decide +kernel, rfl, by decide +kernel, by decide +kernel⟩
abbrev s_law_minder_words : Stmt := top 37
theorem sc_law_minder_words : FnScope ["_law_cell", "_law_other", "_law_keep", "_law_way", "_law_most"] ["_law_cell", "_law_other"] (defScope s_law_minder_words) := ⟨rfl, rfl, rfl, by decide +kernel, rfl, by decide +kernel, by decide +kernel⟩
abbrev s_law_leaf_words : Stmt := top 38
theorem sc_law_leaf_words : FnScope ["_law_cell", "_law_other", "_law_keep", "_law_work", "_law_numbers", "_law_words"] ["_law_cell", "_law_other"] (defScope s_law_leaf_words) := ⟨rfl, rfl, rfl, by decide +kernel, rfl, by decide +kernel, by decide +kernel⟩
abbrev s_law_tree : Stmt := top 39
theorem sc_law_tree : FnScope ["_law_script", "_law_first", "_law_count", "_law_mark", "_law_depths", "_law_elders", "_law_words", "_law_path", "_law_k", "_law_cell", "_law_other", "_law_names"] ["_law_script", "_law_first", "_law_count", "_law_mark"] (defScope s_law_tree) := ⟨rfl, rfl, rfl, by decide +kernel, rfl, by decide +kernel, by decide +kernel⟩
abbrev s_law_kinds : Stmt := top 40
theorem sc_law_kinds : FnScope ["_law_error", "_law_kinds_here"] ["_law_error"] (defScope s_law_kinds) := ⟨rfl, rfl, rfl, by decide +kernel, rfl, by decide +kernel, by decide +kernel⟩
abbrev s_law_odd : Stmt := top 41
theorem sc_law_odd : FnScope ["_law_way", "_law_name_here", "_law_deep", "_law_rows", "_law_more"] ["_law_way", "_law_name_here", "_law_deep"] (defScope s_law_odd) := ⟨rfl, rfl, rfl, by decide +kernel, rfl, by decide +kernel, by decide +kernel⟩
abbrev s_law_refused : Stmt := top 42
theorem sc_law_refused : FnScope ["_law_text", "_law_error"] ["_law_text"] (defScope s_law_refused) := ⟨rfl, rfl, rfl, by decide +kernel, rfl, by decide +kernel, by decide +kernel⟩
abbrev s_law_steep : Stmt := top 43
theorem sc_law_steep : FnScope ["_law_rows", "_law_k"] [] (defScope s_law_steep) := ⟨rfl, rfl, rfl, by decide +kernel, rfl, by decide +kernel, by decide +kernel⟩
abbrev s_law_special : Stmt := top 44
theorem sc_law_special : FnScope ["_law_way", "_law_good", "_law_count", "_law_other", "_law_steep_here", "_law_first", "_law_many"] ["_law_way", "_law_good", "_law_count", "_law_other"] (defScope s_law_special) := ⟨rfl, rfl, rfl, by decide +kernel, rfl, by decide +kernel, by decide +kernel⟩
abbrev s_law_put_in : Stmt := top 45
theorem sc_law_put_in : FnScope ["_law_rows", "_law_odd_here", "_law_at", "_law_other", "_law_bad"] ["_law_rows", "_law_odd_here", "_law_at", "_law_other"] (defScope s_law_put_in) := ⟨rfl, rfl, rfl, by decide +kernel, rfl, by decide +kernel, by decide +kernel⟩
abbrev s_law : Stmt := top 46
theorem sc_law : FnScope ["_law_script", "_law_count", "_law_depths", "_law_elders", "_law_words", "_law_names", "_law_rows", "_law_k", "_law_good", "_law_many", "_law_cell", "_law_other", "_law_at", "_law_deep", "_law_odd_here", "_law_way"] ["_law_script"] (defScope s_law) := ⟨rfl, rfl, rfl, by decide +kernel, rfl, by decide +kernel, by decide +kernel⟩
abbrev s_BadRow_init : Stmt := inClass (top 4) 0
theorem sc_BadRow_init : FnScope ["self", "row"] ["self", "row"] (defScope s_BadRow_init) := ⟨rfl, rfl, rfl, by decide +kernel, rfl, by decide +kernel, by decide +kernel⟩
end Mn

/-! ### texts: stripped signs, numbers -/
namespace Mn
open PySem PySem.Spec PyProof.Rows L2 TL
open PySem.Builtin PySem.Builtin.Str
theorem mem_tl {x : Str} {c : Nat} (h : c ∈ tl x) : ∃ k, k < x.length ∧ x.cps.getD k 0 = c := by
  obtain ⟨k, hk, e⟩ := List.getElem_of_mem h
  refine ⟨k, by rw [len_tl]; exact hk, ?_⟩
  rw [← getD_list]
  simp [List.getD, List.getElem?_eq_getElem hk, e]
theorem getD_mem {x : Str} {k : Nat} (h : k < x.length) : x.cps.getD k 0 ∈ tl x := by
  rw [len_tl] at h
  rw [← getD_list]
  simp [List.getD, List.getElem?_eq_getElem h]
theorem lo_all {g : Nat → Bool} {x : Str} (h : ∀ c ∈ tl x, g c = true) : stripLo g true x = x.length := by
  obtain ⟨h1, _, h3⟩ := lo_facts g x
  rcases h3 with h3 | h3
  · exact h3
  · by_cases hl : stripLo g true x < x.length
    · rw [h _ (getD_mem hl)] at h3
      cases h3
    · omega
theorem strip_all {g : Nat → Bool} {x : Str} {r : Bool} (h : ∀ c ∈ tl x, g c = true) : Txt.stripBy g true r x = "" := by
  refine ext_tl ?_
  rw [stripBy_eq, tl_strSub, lo_all h, List.drop_eq_nil_of_le (by rw [len_tl]; exact Nat.le_refl _), List.take_nil]
  rfl
theorem strip_all_of {g : Nat → Bool} {x : Str} (h : Txt.stripBy g true true x = "") : ∀ c ∈ tl x, g c = true := by
  have e := congrArg tl h
  rw [stripBy_eq, tl_strSub] at e
  obtain ⟨h1, h2, h3⟩ := lo_facts g x
  obtain ⟨k1, k2, k3, k4⟩ := hi_facts g x _ h1
  have e' := congrArg List.length e
  rw [List.length_take, List.length_drop, ← len_tl] at e'
  have e0 : (tl "").length = 0 := rfl
  rw [e0] at e'
  intro c hc
  obtain ⟨k, hk, rfl⟩ := mem_tl hc
  by_cases hl : k < stripLo g true x
  · exact h2 k hl
  · exact k3 k (by omega) hk
theorem strip_chars {x y : Str} : Txt.stripChars x y = "" ↔ ∀ c ∈ tl x, y.cps.contains c = true := ⟨strip_all_of, strip_all⟩
theorem digit_has (c : Nat) : ("0123456789" : Str).cps.contains c = true ↔ 48 ≤ c ∧ c ≤ 57 := by
  show (Array.contains #[48, 49, 50, 51, 52, 53, 54, 55, 56, 57] c) = true ↔ _
  simp only [Array.contains_eq_mem, decide_eq_true_eq, List.mem_toArray, List.mem_cons, List.not_mem_nil, or_false]
  omega
theorem starts_one (x : Str) (c : Nat) : Txt.startswith x ⟨#[c]⟩ = decide ((tl x).head? = some c) := by
  unfold Txt.startswith subAt
  rw [Bool.eq_iff_iff]
  simp only [Bool.and_eq_true, decide_eq_true_eq, beq_iff_eq]
  rw [len_tl x]
  show 0 + 1 ≤ (tl x).length ∧ x.cps.extract 0 (0 + 1) = #[c] ↔ _
  rw [← Array.toList_inj]
  simp only [Array.toList_extract]
  show 0 + 1 ≤ (tl x).length ∧ (tl x).extract 0 (0 + 1) = [c] ↔ _
  cases tl x with
  | nil => simp
  | cons a r => simp [List.extract_eq_drop_take]
def figs (l : List Nat) : Bool := l.all fun c => decide (48 ≤ c) && decide (c ≤ 57)
theorem figs_iff {l : List Nat} : figs l = true ↔ NumText.AllDigits l := by
  unfold figs NumText.AllDigits
  rw [List.all_eq_true]
  exact ⟨fun h c hc => by have := h c hc; simpa using this, fun h c hc => by simpa using h c hc⟩
theorem strip_figs {x : Str} : Txt.stripChars x "0123456789" = "" ↔ figs (tl x) = true := by
  rw [strip_chars, figs_iff]
  exact ⟨fun h c hc => (digit_has c).mp (h c hc), fun h c hc => (digit_has c).mpr (h c hc)⟩
def numOk (l : List Nat) : Bool := decide (l ≠ []) && figs l && !(decide (1 < l.length) && decide (l.head? = some 48))
/-- the number that a text tells: figures alone, no nought ahead of others -/
def numOf (x : Str) : Option Int := if numOk (tl x) = true then some ((NumText.digitsVal (tl x) : Nat) : Int) else none
theorem eq_nil_tl {x : Str} : x = "" ↔ tl x = [] := ⟨fun h => by rw [h]; rfl, fun h => ext_tl h⟩
theorem numOf_none {x : Str} (h : numOk (tl x) = false) : numOf x = none := by
  unfold numOf
  rw [h]
  exact if_neg Bool.false_ne_true
theorem intText_figs {x : Str} (h : figs (tl x) = true) (h1 : tl x ≠ []) (h2 : x.length ≤ 640) : intText? x = some ((NumText.digitsVal (tl x) : Nat) : Int) := intText_digits (figs_iff.mp h) h1 (by omega)
theorem numL_head (n : Nat) (h : 0 < n) : (numL n).head? ≠ some 48 := by
  induction n using Nat.strongRecOn with
  | _ n ih =>
    by_cases h9 : n < 10
    · rw [numL_lt h9]
      intro e
      have := Option.some.inj e
      omega
    · rw [numL_step (by omega)]
      have i := ih (n / 10) (by omega) (by omega)
      have ne := numL_ne (n / 10)
      cases hc : numL (n / 10) with
      | nil => exact absurd hc ne
      | cons a r =>
        rw [hc] at i
        exact i
theorem numOk_numL (n : Nat) : numOk (numL n) = true := by
  unfold numOk
  rw [decide_eq_true (numL_ne n), figs_iff.mpr (numL_digits n)]
  by_cases h : n = 0
  · subst h
    rw [numL_lt (by decide)]
    rfl
  · rw [decide_eq_false (numL_head n (by omega)), Bool.and_false]
    rfl
theorem numOf_str (n : Nat) : numOf (Str.ofString (toString ((n : Nat) : Int))) = some (n : Int) := by
  unfold numOf
  rw [tl_num, if_pos (numOk_numL n), numL_val]
theorem numOf_sign {x : Str} {c : Nat} (h : c ∈ tl x) (hc : ¬ (48 ≤ c ∧ c ≤ 57)) : numOf x = none := by
  refine numOf_none ?_
  have f : figs (tl x) = false := Bool.eq_false_iff.mpr fun f => hc (figs_iff.mp f c h)
  unfold numOk
  rw [f, Bool.and_false, Bool.false_and]
theorem smol_big {i : Int} (h : i.natAbs < 2 ^ 1900) : Smol i := by
  unfold Smol
  by_cases h0 : i.natAbs = 0
  · rw [h0]; decide
  · have := (Nat.log2_lt h0).mpr h
    omega
theorem tl_cutS (z : Str) (lo hi : Option Int) : tl (cutS z lo hi) = ((tl z).drop (HT.sIx z.length 0 lo)).take (HT.sIx z.length z.length hi - HT.sIx z.length 0 lo) := rfl
theorem tl_cut_to (z : Str) (n : Nat) : tl (cutS z none (some (n : Int))) = (tl z).take n := by
  rw [tl_cutS, HT.sIx_none, HT.sIx_nat, List.drop_zero, Nat.sub_zero, len_tl z]
  by_cases h : n ≤ (tl z).length
  · rw [Nat.min_eq_left h]
  · rw [Nat.min_eq_right (by omega), List.take_of_length_le (Nat.le_refl _), List.take_of_length_le (by omega)]
theorem tl_cut_from (z : Str) (n : Nat) : tl (cutS z (some (n : Int)) none) = (tl z).drop n := by
  rw [tl_cutS, HT.sIx_none, HT.sIx_nat, len_tl z]
  by_cases h : n ≤ (tl z).length
  · rw [Nat.min_eq_left h, List.take_of_length_le (by rw [List.length_drop]; omega)]
  · rw [Nat.min_eq_right (by omega), List.drop_eq_nil_of_le (Nat.le_refl _), List.drop_eq_nil_of_le (by omega), List.take_nil]
theorem tl_cut_mid (z : Str) (n k : Nat) : tl (cutS z (some (n : Int)) (some ((n + k : Nat) : Int))) = ((tl z).drop n).take k := by
  rw [tl_cutS, HT.sIx_nat, HT.sIx_nat, len_tl z]
  by_cases h : n ≤ (tl z).length
  · rw [Nat.min_eq_left h]
    by_cases h2 : n + k ≤ (tl z).length
    · rw [Nat.min_eq_left h2, Nat.add_sub_cancel_left]
    · rw [Nat.min_eq_right (by omega), List.take_of_length_le (by rw [List.length_drop]; omega), List.take_of_length_le (by rw [List.length_drop]; omega)]
  · rw [Nat.min_eq_right (show (tl z).length ≤ n + k by omega), Nat.min_eq_right (show (tl z).length ≤ n by omega), List.drop_eq_nil_of_le (Nat.le_refl _), List.drop_eq_nil_of_le (by omega), List.take_nil, List.take_nil]
end Mn

namespace Mn
open PySem PySem.Spec PyProof.Rows L2 TL
/-! ### errors that bear a field: made, caught by one of several named clauses, asked of their class -/
section
variable {X : Cx} {P : Program} {w : World} {K : PySem.W.Frag} {mg : Str → Option Value} {base : Heap} {k : Nat} {x : Str} {p pos apos : Pos} {e : Expr} {es : List Expr} {ta t : TA}
/-- C.__init__(self, text), C's own being ValueError's -/
theorem pe_vec {pl : Sem Bool} {C : Addr} {mc : Value} (hK : X.K = K) (hg : Gl X x) (hm : X.mg x = some (.ref C)) (rd : ClX.CRead K C mc) (fc : PySem.W.findCls K (.ref C) mc "__init__" = some (.val (.builtin "ValueError.__init__"))) (ha : PA X (e :: es) ta)
    (hdb : (x == ("__debug__" : Str)) = false := by decide) (hst : starEach (e :: es) X.env = (false, eval e X.env) :: starEach es X.env := by rfl) (hpl : (backTo pos (starEach es X.env)).any (·.1) = false := by rfl)
    (ht : eval (.Call (.Attribute (.Name x p) "__init__" apos) (e :: es) [] pos) X.env = (do
      let ov ← eval (.Name x p) X.env
      standAt apos.atName
      let (f, first) ← holding [ov] (getMethod ov "__init__" pl)
      callWith pos f first (backTo pos (starEach (e :: es) X.env)) (backToKw pos (keywordEach [] X.env))) := by rfl) :
    PE X (.Call (.Attribute (.Name x p) "__init__" apos) (e :: es) [] pos) (tVeI K ta) := by
  subst hK
  refine ⟨fun pins s σ H Q I h => ?_⟩
  refine PySem.W.methodCall_KW (pl := pl) (ld_glob I hg hm ?_ hdb) ht
  refine PySem.W.method_cls I.kIn rd.ga (PySem.W.cls_value I.kIn rd.rd fc rfl ?_)
  show wpAny _ _ (callWith pos (Value.builtin "ValueError.__init__") [] (backTo pos (starEach (e :: es) X.env)) []) _ _ _
  refine PyProof.Rows.callWith_method1 (thn (ha.run pos pins _ σ H _ (I.tok _) h) fun us s1 ⟨vs, H1, I1, r1, a, C', ws, ev, hl, T, ea, q⟩ => ?_) hst hpl
  subst ev
  cases r1 with
  | @cons _ u0 _ ur ra rw' =>
    obtain rfl : u0 = Value.ref a := ra
    have hlen : ur.length ≤ sizeLine := by
      rw [← Paired.length rw', sizeLine_eq]
      omega
    exact oinit_ok T I1 ea hlen fun s' J => ⟨.non, H1, J, rfl, q⟩
/-- an own error class with an own __init__ -/
structure OexK (P : Program) (w : World) (K : PySem.W.Frag) (mg : Str → Option Value) (base : Heap) (x : Str) (C : Addr) (k : Nat) (ps : List Str) (sp : Sp) : Prop where
  T : OexC K C
  g : mg x = some (.ref C)
  ex : ∃ (fI : Addr) (fd : FuncData), PySem.W.findIn K (.ref C) "__init__" = some (some (.ref fI)) ∧ PySem.W.typeIn K (.ref fI) = some (.type "function") ∧ FnOk P w K mg base CX0 k fI fd ps sp ∧ Binds K fd ps []
def tMkE (P : Program) (w : World) (K : PySem.W.Frag) (mg : Str → Option Value) (base : Heap) (x : Str) (k : Nat) (t : TA) : L2.St → Hp → XK → Prop := fun σ H Q => ∃ C j ps sp, OexK P w K mg base x C j ps sp ∧ j + 1 ≤ k ∧ tMkO C sp [] t σ H Q
theorem pmk_oexN (hX : Sx X P w K mg base) (hr : Room k X.A) (hg : Gl X x) (ha : PA X (e :: es) t) (hdb : (x == ("__debug__" : Str)) = false := by decide)
    (he : starEach (e :: es) X.env = (false, eval e X.env) :: starEach es X.env := by rfl) (hpl : (backTo pos (starEach es X.env)).any (·.1) = false := by rfl) : L2N.PMk X (.Call (.Name x p) (e :: es) [] pos) (tMkE P w K mg base x k t) := by
  obtain ⟨rfl, rfl, rfl, rfl, rfl⟩ := hX
  intro pins s σ H Q I h
  obtain ⟨C, j, ps, sp, O, hj, h⟩ := h
  obtain ⟨fI, fd, iC, tI, F1, hb⟩ := O.ex
  have T := O.T
  obtain ⟨nm, q, N, bs, bm, sn, sub, ab, col, dd, k0, k1, k2, k3, k5, hC, hbm⟩ := T.cls
  refine wpAny_Call_Name_kw (ld_glob I hg O.g ?_ hdb)
  refine PySem.W.callWith_K (h₀ := X.base) I.ok.mod.kin T.kC (thn (ha.run pos pins s σ H _ I h) fun us s1 ⟨vs, H1, I1, r1, hz, q1⟩ => ⟨I1.kIn, ?_⟩) he hpl
  show wpAny _ _ (call (.ref C) us) _ _ _
  obtain ⟨hp, g, dr, tk, os⟩ := s1
  have hsz : hp.objs.size ≤ hp.objs.size + 1 := Nat.le_succ _
  have hn : H1 (hp.objs.size + 1) = none := I1.hok.fresh hsz
  have hq := q1 (hp.objs.size + 1) hn
  rw [List.append_nil] at hq
  have kk : ∀ b o, hp.get? b = some o → ((hp.push (PySem.W.kdv_tup us)).push (PySem.HandSPX.excO C hp.objs.size)).get? b = some o := fun b o e => Heap.get?_push_of_some _ (Heap.get?_push_of_some _ e)
  have hget : ((hp.push (PySem.W.kdv_tup us)).push (PySem.HandSPX.excO C hp.objs.size)).get? (hp.objs.size + 1) = some (PySem.HandSPX.excO C hp.objs.size) := by heap_get
  have I2 : Inv X pins σ (upd H1 (hp.objs.size + 1) (exo (hp.objs.size + 1) C none)) ⟨(hp.push (PySem.W.kdv_tup us)).push (PySem.HandSPX.excO C hp.objs.size), g, dr, tk, os⟩ :=
    I1.laid (t' := tk) (a := hp.objs.size + 1) (o := exo (hp.objs.size + 1) C none) (h' := (hp.push (PySem.W.kdv_tup us)).push (PySem.HandSPX.excO C hp.objs.size)) kk hsz (exo_ok hget)
  have r2 : Vals (V.ref (hp.objs.size + 1) :: vs) (Value.ref (hp.objs.size + 1) :: us) := .cons rfl r1
  have hl : (Value.ref (hp.objs.size + 1) :: us).length = ps.length := by
    have e := r2.length
    rw [F1.len _ _ _ _ hq] at e
    exact e.symm
  have hus : us.length ≤ sizeLine := by
    rw [← Paired.length r1, sizeLine_eq]
    omega
  have b2 := hb _ (Value.ref (hp.objs.size + 1) :: us) I2.kIn (by rw [List.append_nil]; exact hl)
  rw [List.append_nil] at b2
  refine wpAny_call (PySem.HandSPX.call_own F.excBase_ValueError (fun Y => PySem.HandSPX.refsVE_contains Y bm hbm) (I1.kIn _ _ hC) (PySem.W.looks_findIn I1.kIn iC) (fun self => PySem.W.bind_fn I1.kIn self tI) hus
    (codeAny_mono (F1.run _ X.stack _ _ ⟨Value.ref (hp.objs.size + 1) :: us, []⟩ (Value.ref (hp.objs.size + 1) :: us) _ _ (fun _ _ _ => False) ((hr.mono hj).make C us []) (I2.env0.make C us []) b2 r2 hq) fun r s' hq' => ?_))
  cases r with
  | error er => exact hq'.elim
  | ok fl =>
    cases fl with
    | ret u =>
      obtain ⟨v, H2, os2, bare2, un2, hok2, rv, ev, d, fs, ea, ed, hd1, q2⟩ := hq'
      subst ev
      obtain ⟨h2, g2, d2, t2, os'⟩ := s'
      obtain ⟨t0, G, J, kG, ge, hoe, na⟩ := mk_end0 (d2 := d2) (t2 := t2) I1 hsz kk un2 hok2 os2 bare2 ea ed hd1
      exact ⟨rv, hp.objs.size + 1, _, _, ⟨G, g2, d2, t2, os'⟩, _, .ref C, some d, rfl, J, kG, ge, hoe, ⟨rfl, rfl, fun vs hv => by cases hv; rfl⟩, rfl, rfl, na, rfl, bare2, raises_own T.exC T.tyC, q2⟩
    | next => exact hq'.elim
    | brk => exact hq'.elim
    | cont => exact hq'.elim
/-- isinstance of an error, with a dict or without -/
def rIsQ (K : PySem.W.Frag) (c : Value) (d : Option Addr) (a : Addr) : List V → Hp → VK → Prop := fun xs H Q => ∃ D, c = .ref D ∧ ExcC K D ∧ (d = none ∨ ∃ dd fs, d = some dd ∧ H dd = some (.xd fs)) ∧ rIsE K D a xs H Q
theorem kIsQ {q : Addr × Obj} {c : Value} {d : Option Addr} (hK : X.K = K) (hq : q ∈ X.pn) (hz : L2N.Zn c d q.2) (hf : ∃ vs, q.2.data = .fields vs) : CallR X (.builtin "isinstance") (rIsQ K c d q.1) := by
  subst hK
  intro pins s σ H xs us Q I r h
  obtain ⟨D, rfl, C, hd, h⟩ := h
  obtain ⟨c, cv, b, rfl, hcv, hk, h⟩ := h
  obtain ⟨vs, hv⟩ := hf
  have g := (I.pin q (List.mem_append_left _ hq)).1
  obtain ⟨od, J⟩ : ∃ od, PySem.W.InstAt s.heap q.1 q.2 D od := by
    obtain ⟨qa, oc, odt, oda, osl⟩ := q
    have h1 := hz.1
    have h2 := hz.2.1
    dsimp only at h1 h2 hv
    subst h1 hv
    rcases hd with rfl | ⟨dd, fs, rfl, hx⟩
    · subst h2
      exact ⟨none, g, rfl, rfl, trivial⟩
    · subst h2
      have ho := I.hok dd _ hx
      obtain ⟨_, ⟨o, _, _, e, _⟩, _⟩ := ho
      exact ⟨some o, g, rfl, rfl, e⟩
  have hcl : (PySem.W.clsIn X.K D).isSome = true := by
    have := C.hd
    unfold PySem.W.hasDictIn at this
    cases e : PySem.W.clsIn X.K D with
    | none => rw [e] at this; cases this
    | some _ => rfl
  match us, r with
  | [u1, u2], .cons r1 (.cons r2 .nil) =>
    obtain rfl : u1 = Value.ref q.1 := r1
    obtain rfl := hcv _ r2
    exact PySem.W.kia_one (PySem.W.kitx_exc hcl C.hg C.hk C.hs C.ha C.hn C.ht C.hm) I.kIn J hk (fun z => nomatch z) fun tk => ⟨.bl b, H, I.kept (t' := tk) fun _ _ z => z, rfl, h⟩
theorem w_isQ {D a : Addr} {d : Option Addr} {v : V} {cv : Value} {b : Bool} {H : Hp} {Q : VK} (C : ExcC K D) (hd : d = none ∨ ∃ dd fs, d = some dd ∧ H dd = some (.xd fs)) (hv : ∀ u, RelV v u → u = cv) (hk : PySem.W.kitOne K (.ref D) cv = some b) (h : Q (.bl b) H) : rIsQ K (.ref D) d a [.ref a, v] H Q := ⟨D, rfl, C, hd, w_isE hv hk h⟩
theorem kOst {o : Expr} {to te : TE} {f : Str} {p' : Pos} (hK : X.K = K) (ho : PE X o to) (he : PE X e te) (hs : swapsWith e (some (.Attribute o f p')) pos.line X.env = pure false := by rfl) : PS X (.Assign [.Attribute o f p'] e pos) (tOst K f to te) := by
  subst hK
  exact ps_ost ho he hs
theorem kXf {a C : Addr} {oe : Obj} {cls : Value} {d : Option Addr} {pn : List (Addr × Obj)} {te : TE} {n : Str} (hK : X.K = K) (T : XfC K C) (hno : PySem.W.findIn K (.ref C) n = some none)
    (hz : Zc cls d oe) (hf : ∃ vs, oe.data = .fields vs) (he : PE (X.suite a ((a, oe) :: pn)) e te) (hb : attributeBase e n X.env (eval e X.env) = eval e X.env := by rfl) :
    PE (X.suite a ((a, oe) :: pn)) (.Attribute e n pos) (tXf a cls d C n te) := by
  subst hK
  exact pe_xf T hno hz hf he hb
/-- what the text must say of a class whose __init__ is ValueError's -/
structure VecK (K : PySem.W.Frag) (mg : Str → Option Value) (x : Str) (C : Addr) (mc : Value) : Prop where
  g : mg x = some (.ref C)
  rd : ClX.CRead K C mc
  fc : PySem.W.findCls K (.ref C) mc "__init__" = some (.val (.builtin "ValueError.__init__"))
section
variable {σ : L2.St} {H : Hp} {D : Ends} {Q : VK} {te to : TE} {f : Str} {a C : Addr} {y : V}
theorem w_vec {vs : List V} (T : OexC K C) (h : H a = some (exo a C none)) (l : vs.length ≤ 1000) (q : Q .non H) : ∃ (a' C : Addr) (ws : List V), V.ref a :: vs = .ref a' :: ws ∧ ws.length ≤ 1000 ∧ OexC K C ∧ H a' = some (exo a' C none) ∧ Q .non H := ⟨a, C, vs, rfl, l, T, h, q⟩
theorem w_veI {ta : TA} (q : ta σ H fun vs H1 => ∃ (a C : Addr) (ws : List V), vs = .ref a :: ws ∧ ws.length ≤ 1000 ∧ OexC K C ∧ H1 a = some (exo a C none) ∧ Q .non H1) : tVeI K ta σ H Q := q
theorem w_ost1 (q : te σ H fun y H1 => to σ H1 fun x H2 => ∃ a C : Addr, x = .ref a ∧ OexC K C ∧ PySem.W.findIn K (.ref C) f = some none ∧
  ((H2 a = some (exo a C none) ∧ ∀ dx, H2 dx = none → dx ≠ a → D.nx σ (upd (upd H2 dx (exd dx [(f, y)])) a (exo a C (some dx)))) ∨
    ∃ (dx : Addr) (fs : List (Str × V)), H2 a = some (exo a C (some dx)) ∧ H2 dx = some (exd dx fs) ∧ fs.length ≤ 900 ∧ D.nx σ (upd H2 dx (exd dx ((f, y) :: fs))))) : tOst K f to te D σ H := q
end
end
end Mn
namespace L2N
open PySem PySem.Spec PyProof.Rows L2
/-! ### several except clauses, each with the name n -/
/-- what the clauses wish, one after the other -/
def wManyA (K : PySem.W.Frag) (Wout : WX) (i : Nat) (D : Ends) : List (Value × (Addr → Value → Option Addr → TS)) → WX
  | [] => Wout
  | (c, ts) :: r => wAs K c i ts (wManyA K Wout i D r) D
inductive HdsA (X : Cx) (n : Str) : List ExceptHandler → List (Value × (Addr → Value → Option Addr → TS)) → Prop
  | nil : HdsA X n [] []
  | cons {x : Str} {c : Value} {ts : Addr → Value → Option Addr → TS} {b₀ : Stmt} {suite : List Stmt} {np pos' : Pos} {hds : List ExceptHandler} {l : List (Value × (Addr → Value → Option Addr → TS))} (hc : Names X x c)
      (hsu : ∀ (a : Addr) (oe : Obj) (cls : Value) (d : Option Addr) (pn : List (Addr × Obj)), Zn cls d oe → (∃ vs, oe.data = .fields vs) → PSs (X.suite a ((a, oe) :: pn)) (b₀ :: suite) (ts a cls d)) (r : HdsA X n hds l) :
      HdsA X n (.ExceptHandler (some (.Name x np)) (some n) (b₀ :: suite) pos' :: hds) ((c, ts) :: l)
section
variable {X : Cx} {n : Str} {i : Nat} {body : List Stmt} {h₀ : ExceptHandler} {hds : List ExceptHandler} {l : List (Value × (Addr → Value → Option Addr → TS))} {pos : Pos} {tb : WX → TS} {Wout : WX}
theorem ps_try_manyA (hs : X.stack = X.env :: X.outer) (hf : X.env.frame = some X.env.locals) (hN : X.N.Nodup) (hi : X.N[i]? = some n) (hln : X.env.kindOf n = some .local) (tk : Takes X Wout)
    (hb : ∀ (W : WX) (pn : List (Addr × Obj)) (xe : Value → Shared → Prop), Takes (X.tr pn xe) W → PassesOwn (model X.prog X.w) X.A X.env xe → PSs (X.tr pn xe) body (tb W))
    (hh : HdsA X n (h₀ :: hds) l) : PS X (.Try body (h₀ :: hds) [] [] pos) (fun D σ H => tb (wManyA X.K Wout i D l) D σ H) := by
  refine ⟨fun pins s σ H D I h => ?_⟩
  have ok := I.ok
  have hfr : X.A.frames = some (X.env :: X.outer) := by rw [ok.frames, hs]
  have hloc : Loc X.env.scope n := .inl hln
  refine wpAny_Try_except ?_
  refine wpAny_mono ((hb (wManyA X.K Wout i D l) (X.pn ++ pins) (fun e s₁ => wpAny (model X.prog X.w) X.A (noteFrame e X.env) (fun _ s₂ => wpAny (model X.prog X.w) X.A (setFlight e none) (fun _ s₃ =>
    wpAny (model X.prog X.w) X.A (handleBy e X.env (h₀ :: hds)) (SP X pins D) X.xe s₃) X.xe s₂) X.xe s₁) (fun u s' xx => ?_) PassesOwn.looking).run [] s σ H D (I.toTry _) h) (fun f s1 hsp => ?_) (fun e s1 he => he)
  · obtain ⟨a, B, sI, pins', σ', H', cls, d, rfl, J', nb, up, sky, na, os, ag, w⟩ := xx
    have J : Inv X pins σ' H' sI := J'.ofTry ok
    have sky' : Sky B (X.env :: X.outer) a (Zn cls d) X.env.locals s'.heap := by rw [← hs]; exact sky
    show wpAny (model X.prog X.w) X.A (noteFrame (.ref a) X.env) _ _ _
    refine Sky.land Zn.steady hfr hf sky' fun h3 fl3 up3 => ?_
    have J3 : Inv X pins σ' H' { s' with heap := h3 } := J.landed nb fl3.1 (up.trans up3) os ag
    obtain ⟨oe3, vs3, he3, hz3, hd3⟩ := fl3.there
    have nfr : a ∉ frs (X.env :: X.outer) := fun hm => by
      obtain ⟨_, o', e', hnf⟩ := fl3.2.2.1.mem hm
      rw [he3] at e'
      cases e'
      exact hnf _ hd3
    have nL : a ≠ X.env.locals := fun z => nfr (List.mem_filterMap.mpr ⟨X.env, List.mem_cons_self, by rw [hf, z]⟩)
    have nF : a ∉ X.fs := fun hm => by
      obtain ⟨e, he, q⟩ := List.mem_filterMap.mp hm
      exact nfr (List.mem_filterMap.mpr ⟨e, List.mem_cons_of_mem _ he, q⟩)
    have S3 := J3.suite he3 hd3 na nL nF
    have go : ∀ {hds' : List ExceptHandler} {l' : List (Value × (Addr → Value → Option Addr → TS))}, HdsA X n hds' l' → wManyA X.K Wout i D l' cls d σ' H' →
        wpAny (model X.prog X.w) X.A (handleBy (.ref a) X.env hds') (SP X pins D) X.xe { s' with heap := h3 } := by
      intro hds' l' hk
      induction hk with
      | nil =>
        intro w
        refine wpAny_handleBy_nil ?_
        obtain ⟨k1, k2, k3, oe, vs, T, oT, ts', he, hz, hd, h1, hr⟩ := id fl3
        unfold PySem.passOn
        refine wpAny_bind (wpAny_field he hd h1 ?_)
        rw [if_neg (show ¬ ((Value.ref T == Value.none) = true) from by simp)]
        have fin : wpAny (model X.prog X.w) X.A (setFlight (.ref a) X.env.frame) (fun _ s4 => wpAny (model X.prog X.w) X.A (throw (.ref a) : Sem Flow) (SP X pins D) X.xe s4) X.xe { s' with heap := h3 } := by
          rw [hf]
          refine HandSPX.setFlight_upZ fl3 fun h4 hh4 up4 => wpAny_throw (tk _ _ ?_)
          exact ⟨a, B, sI, pins, σ', H', cls, d, rfl, J, nb, (up.trans up3).trans up4, .inr (.inr (by rw [hs]; exact hh4)), na, os, ag, w⟩
        first
          | exact wpAny_bind (wpAny_pure (wpAny_bind fin))
          | exact wpAny_bind fin
      | @cons x c ts b₀ suite np pos' hds2 l2 hc hsu r ih =>
        intro w
        obtain ⟨b, hb1, hyes, hno⟩ := w
        refine wpAny_handleBy_cons (codeAny_handlers_test ?_) (by intro q; cases q)
        have LT : PySem.W.Looks (model X.prog X.w) h3 (typeOf (.ref a)) cls := fun A Q E s k q => wpAny_typeOf_ref (k _ _ he3) (by rw [hz3.1]; exact q)
        have LM := PySem.W.exm_one (M := model X.prog X.w) (J3.kIn) LT hb1
        have test : ∀ {Q : Value → Shared → Prop} {E : Value → Shared → Prop}, Q c { s' with heap := h3 } → wpAny (model X.prog X.w) (X.A.mark (some (.ref a))) (eval (.Name x np) X.env) Q E { s' with heap := h3 } := fun {Q E} q => by
          obtain ⟨hg, hdbg, hm | ⟨hm, hv, hnn⟩⟩ := hc
          · exact ld_glob (X := X.suite a ((a, oe3) :: (X.pn ++ pins))) S3 hg hm q hdbg
          · exact ld_blt (X := X.suite a ((a, oe3) :: (X.pn ++ pins))) S3 hg hm hv q hnn hdbg
        refine test (LM.here ?_)
        cases b with
        | true =>
          refine codeAny_handlers_suite_as ?_
          refine HandSPX.lands_againZ fl3 fun h4 fl4 up4 => ?_
          have J4 : Inv X pins σ' H' { s' with heap := h4 } := J.landed nb fl4.1 ((up.trans up3).trans up4) os ag
          obtain ⟨oe4, vs4, he4, hz4, hd4⟩ := fl4.there
          refine store_ok (X := X.suite a ((a, oe4) :: (X.pn ++ pins))) (v := .ref a) (J4.suite he4 hd4 na nL nF) hN hi hloc rfl (fun s5 S5 => ?_) (.inr hln)
          refine wpAny_mono ((hsu a oe4 cls d (X.pn ++ pins) hz4 ⟨_, hd4⟩).run [] s5 _ H' _ S5 (hyes rfl a na)) (fun f s6 hsp => ?_) (fun _ _ z => False.elim z)
          have end_ : ∀ {σ6 : St} {H6 : Hp} {Q : Shared → Prop}, Inv (X.suite a ((a, oe4) :: (X.pn ++ pins))) [] σ6 H6 s6 → (∀ s7, Inv X pins (σ6.set i none) H6 s7 → Q s7) →
              wpAny (model X.prog X.w) X.A (do bindName X.env n .none; unbindBehindTheSuite X.env n pos') (fun _ s7 => Q s7) X.xe s6 := fun {σ6 H6 Q} S6 hq => gone_ok (S6.unsuite ok) hN hi hln hq
          cases f with
          | next =>
            obtain ⟨σ6, H6, S6, q6⟩ := hsp
            exact end_ S6 fun s7 J7 => ⟨_, _, J7, q6⟩
          | brk =>
            obtain ⟨σ6, H6, S6, q6⟩ := hsp
            exact end_ S6 fun s7 J7 => ⟨_, _, J7, q6⟩
          | cont =>
            obtain ⟨σ6, H6, S6, q6⟩ := hsp
            exact end_ S6 fun s7 J7 => ⟨_, _, J7, q6⟩
          | ret u =>
            obtain ⟨v6, σ6, H6, S6, r6, q6⟩ := hsp
            exact end_ S6 fun s7 J7 => ⟨_, _, _, J7, r6, q6⟩
        | false =>
          show wpAny _ X.A (handleBy (.ref a) X.env hds2) _ _ _
          exact ih (hno rfl)
    exact go hh w
  · cases f with
    | next =>
      obtain ⟨σ', H', J', q⟩ := hsp
      exact wpAny_execs_nil ⟨σ', H', J'.ofTry ok, q⟩
    | brk =>
      obtain ⟨σ', H', J', q⟩ := hsp
      exact ⟨σ', H', J'.ofTry ok, q⟩
    | cont =>
      obtain ⟨σ', H', J', q⟩ := hsp
      exact ⟨σ', H', J'.ofTry ok, q⟩
    | ret u =>
      obtain ⟨v, σ', H', J', r, q⟩ := hsp
      exact ⟨v, σ', H', J'.ofTry ok, r, q⟩
end
end L2N

/-! ### tactics: "rd" reads on as far as it goes; "hp", "ne", "sq", "st", "same", "sz" close what is asked of heaps and sizes -/
local macro_rules | `(tactic| walk_at "sz") => `(tactic| first
  | assumption
  | decide
  | (show _ ≤ PySem.sizeLine; decide)
  | (have sl' := PySem.sizeLine_eq; (try simp only [List.length_map, List.length_append, List.length_cons, List.length_nil, List.length_singleton, List.length_drop, List.length_take]); omega))
local macro_rules | `(tactic| walk_at "ne1") => `(tactic| first
  | assumption
  | (apply Ne.symm; assumption)
  | exact L2.ne_of_none (by assumption) (by assumption)
  | exact (L2.ne_of_none (by assumption) (by assumption)).symm)
local macro_rules | `(tactic| walk_at "hp") => `(tactic| first
  | assumption
  | exact L2.upd_same
  | (rw [L2.upd_ne (by walk_at "ne")]; walk_at "hp")
  | exact (by assumption : L2.Same _ _) _ _ (by assumption)
  | exact (by assumption : L2.Same _ _) _ _ ((by assumption : L2.Same _ _) _ _ (by assumption)))
local macro_rules | `(tactic| walk_at "ne") => `(tactic| first
  | walk_at "ne1"
  | exact Mn.neN (by assumption) (by walk_at "hp")
  | exact (Mn.neN (by assumption) (by walk_at "hp")).symm
  | exact L2.ne_of_none (by walk_at "hp") (by assumption)
  | exact (L2.ne_of_none (by walk_at "hp") (by assumption)).symm)
local macro_rules | `(tactic| walk_at "same") => `(tactic| first
  | assumption
  | exact L2.Same.refl _
  | exact L2.Same.trans (by assumption) (by assumption)
  | (refine' Mn.same_upd (by walk_at "same") (by assumption))
  | (refine' Mn.same_mut (by walk_at "same") (by assumption)))
local macro_rules | `(tactic| walk_at "sq") => `(tactic| first
  | assumption
  | exact L2.SqL.of L2.upd_same
  | exact L2.SqL.of (by walk_at "hp")
  | (refine' L2.Same.seq ?sq_s ?sq_h; (case sq_h => assumption); (case sq_s => walk_at "same")))
local macro_rules | `(tactic| walk_at "st") => `(tactic| first
  | assumption
  | exact L2.SqT.of L2.upd_same
  | exact L2.SqT.of (by walk_at "hp")
  | (refine' Mn.sqT_same ?sq_s ?sq_h; (case sq_h => assumption); (case sq_s => walk_at "same")))
local macro_rules | `(tactic| walk_at "cls") => `(tactic| first | assumption | exact Mn.ClsF.cl (by assumption))
local macro_rules | `(tactic| walk_at "noattr") => `(tactic| exact Mn.ClsF.no (by assumption) _ (by decide))
local macro_rules | `(tactic| walk_at "v2") => `(tactic| first
  | ((with_reducible refine' Mn.w_lenL ?h ?_); (case h => walk_at "sq"))
  | ((with_reducible refine' Mn.w_lenT ?h ?_); (case h => walk_at "st"))
  | ((with_reducible refine' Mn.w_lenS ?h ?_); (case h => walk_at "sz"))
  | ((with_reducible refine' Mn.w_addS ?h ?_); (case h => walk_at "sz"))
  | with_reducible refine Mn.w_intB ?_
  | with_reducible refine Mn.w_max ?_
  | with_reducible refine Mn.w_min ?_
  | with_reducible refine Mn.w_isN ?_
  | with_reducible refine Mn.w_notN ?_
  | with_reducible refine Mn.w_inS ?_
  | with_reducible refine Mn.w_ninS ?_
  | with_reducible refine Mn.w_bm ?_
  | with_reducible refine Mn.w_bm0 ?_
  | with_reducible refine Mn.w_tyS ?_
  | with_reducible refine Mn.w_tyI ?_
  | ((with_reducible refine' Mn.w_tyL ?h ?_); (case h => walk_at "sq"))
  | ((with_reducible refine' Mn.w_app ?h ?hs ?_); (case h => walk_at "hp"); (case hs => walk_at "sz"))
  | with_reducible refine Mn.w_lst ?_
  | with_reducible refine Mn.w_tup ?_
  | with_reducible refine Mn.w_sl ?_
  | with_reducible refine Mn.w_part ?_
  | with_reducible refine Mn.w_part1 ?_
  | with_reducible refine Mn.w_nopart ?_
  | with_reducible refine Mn.w_m1 ?_
  | with_reducible refine Mn.w_m0 ?_
  | with_reducible refine Mn.w_isS ?_
  | with_reducible refine Mn.w_fld ?_
  | ((with_reducible refine' Mn.w_fld1 ?h ?c ?n ?l ?_); (case h => walk_at "hp"); (case c => walk_at "cls"); (case n => walk_at "noattr"); (case l => rfl))
  | ((with_reducible refine' Mn.w_sfld1 ?h ?c ?n ?l ?_); (case h => walk_at "hp"); (case c => walk_at "cls"); (case n => walk_at "noattr"); (case l => exact Mn.ltb rfl))
  | with_reducible refine Mn.w_ma ?_
  | with_reducible refine Mn.w_isBl ?_
  | ((with_reducible refine' Mn.w_gtup ?h ?l ?_); (case h => walk_at "st"); (case l => rfl))
  | with_reducible refine Mn.w_gcons ?_
  | with_reducible refine Mn.w_dput ?_
  | ((with_reducible refine' Mn.w_eqE ?h1 ?h2 ?_); (case h1 => walk_at "hp"); (case h2 => walk_at "hp"))
  | ((with_reducible refine' Mn.w_neE ?h1 ?h2 ?_); (case h1 => walk_at "hp"); (case h2 => walk_at "hp"))
  | with_reducible refine Mn.w_dget ?_
  | with_reducible refine Mn.w_din ?_
  | with_reducible refine Mn.w_dnin ?_
  | with_reducible refine Mn.w_gnil ?_
  | ((with_reducible refine' Mn.w_aug ?h ?_); (case h => rfl))
  | with_reducible refine Mn.w_ipI ?_
  | with_reducible refine Mn.w_sub ?_
  | with_reducible refine Mn.w_sfld ?_
  | with_reducible refine Mn.w_for ?_
  | with_reducible refine Mn.w_iList ?_
  | with_reducible refine Mn.w_iRng ?_
  | with_reducible refine Mn.w_iRng2 ?_
  | with_reducible refine Mn.w_lc ?_
  | with_reducible refine Mn.w_yes ?_
  | ((with_reducible refine' Mn.w_wip ?h ?_); (case h => rfl))
  | ((with_reducible refine' Mn.w_eqLI ?h1 ?h2 ?_); (case h1 => walk_at "sq"); (case h2 => walk_at "sq"))
  | ((with_reducible refine' Mn.w_neLI ?h1 ?h2 ?_); (case h1 => walk_at "sq"); (case h2 => walk_at "sq"))
  | with_reducible refine L2.iteT ?_
  | with_reducible refine L2.iteF ?_
  | ((with_reducible refine' Mn.w_I ?c ?_); (case c => first | (show (0 : Int) < _; decide) | exact ⟨by decide, by decide⟩ | exact ⟨by decide, by decide, by decide⟩)))
local macro_rules | `(tactic| walk_at "v1") => `(tactic| first
  | ((with_reducible refine' Mn.w_var ?hv ?_); (case hv => rfl))
  | with_reducible refine Mn.w_c ?_
  | with_reducible refine Mn.w_seq ?_
  | with_reducible refine Mn.w_asg ?_
  | ((with_reducible refine' Mn.w_name2 ?hn ?_); (case hn => first | (simp only [L2.start, L2.wipe, List.map_cons, List.map_nil, List.length_cons, List.length_nil, List.replicate_succ, List.replicate_zero, List.cons_append, List.nil_append, List.set_cons_succ, List.set_cons_zero, Nat.reduceSub, Nat.reduceAdd]; exact rfl) | exact rfl))
  | with_reducible refine Mn.w_op ?_
  | with_reducible refine Mn.w_I0 ?_
  | with_reducible refine Mn.w_cons ?_
  | with_reducible refine Mn.w_nil ?_
  | with_reducible refine Mn.w_cb ?_
  | with_reducible refine Mn.w_if ?_
  | with_reducible refine Mn.w_test ?_
  | with_reducible refine Mn.w_bl ?_
  | ((with_reducible refine' Mn.w_eq ?hs ?_); (case hs => rfl))
  | ((with_reducible refine' Mn.w_ne ?hs ?_); (case hs => rfl))
  | with_reducible refine Mn.w_drop ?_
  | with_reducible refine Mn.w_ret ?_
  | with_reducible refine Mn.w_and ?_
  | with_reducible refine Mn.w_or ?_
  | with_reducible refine Mn.w_not ?_
  | with_reducible refine Mn.w_B ?_
  | with_reducible refine Mn.w_un ?_
  | with_reducible refine Mn.w_U ?_
  | with_reducible refine Mn.w_andV ?_
  | with_reducible refine Mn.w_orV ?_
  | with_reducible refine Mn.w_notV ?_
  | with_reducible refine Mn.w_chain ?_
  | with_reducible refine Mn.w_next ?_
  | with_reducible refine Mn.w_retN ?_
  | with_reducible refine Mn.w_cont ?_
  | with_reducible refine Mn.w_nx ?_
  | with_reducible refine Mn.w_rt ?_
  | with_reducible refine Mn.w_ct ?_
  | with_reducible refine Mn.w_bk ?_)
local macro_rules | `(tactic| walk_at "if") => `(tactic| first
  | (refine' Mn.w_ite ?_ ?_ <;> (intro c))
  | (refine' Mn.w_iteN ?_ ?_ <;> (intro c))
  | (refine' Mn.w_iteB ?_ ?_ <;> (intro c)))
local macro_rules | `(tactic| walk_at "rd") => `(tactic| repeat (first | walk_at "v1" | walk_at "v2"))

namespace Mn
open PySem L2 TL
section
variable {P : Program} {w : World} {K : PySem.W.Frag} {mg : Str → Option Value} {base : Heap}
/-- number_in: the number told, within the bound; else NoNumber (its class at CN) -/
def spNum (CN : Addr) : Sp := fun vs H Q E => ∃ (x : Str) (most : Int), vs = [.str x, .int most] ∧ x.length ≤ 640 ∧ (∀ v, numOf x = some v → v ≤ most → Q (.int v) H) ∧ ((∀ v, numOf x = some v → ¬ v ≤ most) → E (.ref CN) none H)
theorem ok_number {CN f : Addr} {fd : FuncData} (F : FunS K "number_in" "number_in" s_number_in [.int 1000000] f fd) (T : Bt mg) (e_NoNumber : ErrK K mg "NoNumber" CN) : FnOk P w K mg base (CXN P w) 1 f fd ["text", "most"] (spNum CN) := by
  refine F.ok sc_number_in (fun vs H Q E h => ?_) (fun cdv A outer s H vs Q E hr h => ?_)
  · obtain ⟨x, most, rfl, _⟩ := h
    rfl
  obtain ⟨x, most, rfl, hl, q, qe⟩ := h
  have hz := PySem.sizeLine_eq
  refine ⟨_, (pss_cons (ps_if (PW.pt (pw_or (pt_cmpR op_eq (pv 0) pe_str (nomark _)) (pw_or (pt_cmpR op_ne (kBm (K := K) rfl PySem.F.plainAttrs_str PySem.F.slot_str_strip PySem.F.type_str_strip mt_stripChars (pv 0) (pa_cons pe_str pa_nil)) pe_str (nomark _)) (pw_or1 (PW.pt (pw_and (pt_cmpR op_gt (pe_callB call_lenS (by rfl) T.len (by decide +kernel) (pa_cons (pv 0) pa_nil)) pe_int (nomark _)) (pw_and1 (pt_val (pe_m1 PySem.F.slot_str_startswith PySem.F.type_str_startswith mt_startswith (pv 0) pe_str))))))))) (pss_one (L2N.ps_raise rfl (L2N.takes_of rfl rfl rfl rfl) (L2N.pmk_own PySem.F.excBase_ValueError e_NoNumber.xf e_NoNumber.g e_NoNumber.k (raises_own e_NoNumber.b e_NoNumber.t) rfl))) pss_nil)
    (pss_cons (ps_try_thru (pss_one (ps_set (i := 2) sc_number_in.nd rfl (Or.inl rfl) (pe_callTy call_intS (by rfl) T.int (by decide +kernel) (pa_cons (pv 0) pa_nil)))) (pss_one (ps_if (pt_cmpR op_gt (pv 2) (pv 1) (nomark _)) (pss_one (L2N.ps_raise rfl (L2N.takes_of rfl rfl rfl rfl) (L2N.pmk_own PySem.F.excBase_ValueError e_NoNumber.xf e_NoNumber.g e_NoNumber.k (raises_own e_NoNumber.b e_NoNumber.t) rfl))) pss_nil)))
    (pss_one (ps_ret (pv 2))))), ?_⟩
  walk_at "rd"
  have no : numOk (tl x) = false → E (.ref CN) none H := fun h => qe fun v e => by rw [numOf_none h] at e; cases e
  walk_at "if"
  · rename_i c
    walk_at "rd"
    refine no ?_
    rw [V.str.inj c]
    rfl
  rename_i c
  have c : tl x ≠ [] := fun e => c (congrArg V.str (eq_nil_tl.mpr e))
  walk_at "rd"
  refine ⟨x, _, rfl, rfl, by omega, ?_⟩
  walk_at "rd"
  walk_at "if"
  · rename_i c2
    walk_at "rd"
    refine no ?_
    have f : figs (tl x) = false := Bool.eq_false_iff.mpr fun f => by
      have c3 := c2
      rw [strip_figs.mpr f] at c3
      exact c3 rfl
    unfold numOk
    rw [f, Bool.and_false, Bool.false_and]
  rename_i c2
  have f : figs (tl x) = true := strip_figs.mp (V.str.inj c2)
  have lx : x.length = (tl x).length := len_tl x
  -- the number told
  have fin : numOk (tl x) = true → (∀ v, (numOf x = some v) ↔ v = ((NumText.digitsVal (tl x) : Nat) : Int)) := fun h v => by
    unfold numOf
    rw [if_pos h]
    exact ⟨fun e => (Option.some.inj e).symm, fun e => congrArg some e.symm⟩
  have hi := intText_figs f c hl
  generalize ((NumText.digitsVal (tl x) : Nat) : Int) = n at fin hi
  walk_at "rd"
  walk_at "if"
  all_goals rename_i c3
  all_goals walk_at "rd"
  · refine ⟨x, _, rfl, rfl, ?_⟩
    have es : Txt.startswith x "0" = decide ((tl x).head? = some 48) := starts_one x 48
    rw [es]
    walk_at "rd"
    walk_at "if"
    all_goals rename_i c4
    all_goals walk_at "rd"
    · refine no ?_
      unfold numOk
      rw [c4, f, decide_eq_true (show 1 < (tl x).length by omega), decide_eq_true c]
      rfl
    have ok : numOk (tl x) = true := by
      unfold numOk
      rw [f, decide_eq_true c, decide_eq_false c4, Bool.and_false]
      rfl
    refine w_thru ?_
    walk_at "rd"
    refine ⟨x, n, rfl, hi, hl, ?_⟩
    walk_at "rd"
    walk_at "if"
    all_goals rename_i c5
    all_goals walk_at "rd"
    · exact qe fun v e => by rw [(fin ok v).mp e]; omega
    · exact q n ((fin ok n).mpr rfl) (by omega)
  · have ok : numOk (tl x) = true := by
      unfold numOk
      rw [f, decide_eq_true c, decide_eq_false (show ¬ 1 < (tl x).length by omega), Bool.false_and]
      rfl
    refine w_thru ?_
    walk_at "rd"
    refine ⟨x, n, rfl, hi, hl, ?_⟩
    walk_at "rd"
    walk_at "if"
    all_goals rename_i c5
    all_goals walk_at "rd"
    · exact qe fun v e => by rw [(fin ok v).mp e]; omega
    · exact q n ((fin ok n).mpr rfl) (by omega)
end
end Mn

namespace Mn
open PySem L2 TL
open PySem.Builtin PySem.Builtin.Str
def alnum (c : Nat) : Bool := (decide (97 ≤ c) && decide (c ≤ 122)) || (decide (48 ≤ c) && decide (c ≤ 57))
def fitL (l : List Nat) : Bool := decide (1 ≤ l.length) && decide (l.length ≤ 12) && l.all alnum
abbrev signs36 : Str := "abcdefghijklmnopqrstuvwxyz0123456789"
theorem sign_has (c : Nat) : signs36.cps.contains c = alnum c := by
  show (Array.contains #[97, 98, 99, 100, 101, 102, 103, 104, 105, 106, 107, 108, 109, 110, 111, 112, 113, 114, 115, 116, 117, 118, 119, 120, 121, 122, 48, 49, 50, 51, 52, 53, 54, 55, 56, 57] c) = _
  rw [Bool.eq_iff_iff]
  unfold alnum
  simp only [Array.contains_eq_mem, decide_eq_true_eq, List.mem_toArray, List.mem_cons, List.not_mem_nil, or_false, Bool.or_eq_true, Bool.and_eq_true]
  omega
section
variable {P : Program} {w : World} {K : PySem.W.Frag} {mg : Str → Option Value} {base : Heap}
def spFit : Sp := fun vs H Q _ => ∃ x : Str, vs = [.str x] ∧ x.length ≤ 1000 ∧ Q (.bl (fitL (tl x))) H
theorem ok_fit {f : Addr} {fd : FuncData} {tk : Tok} (F : Fun K "fit_name" "fit_name" s_fit_name f fd) (T : Bt mg) (hg : mg "SIGNS" = some (.str signs36 tk)) : FnOk P w K mg base CX0 1 f fd ["text"] spFit := by
  refine F.ok sc_fit_name (fun vs H Q E h => ?_) (fun cdv A outer s H vs Q E hr h => ?_)
  · obtain ⟨x, rfl, _⟩ := h
    rfl
  obtain ⟨x, rfl, hl, q⟩ := h
  have hz := PySem.sizeLine_eq
  have lx := len_tl x
  refine ⟨_, (pss_one (ps_ret (pe_and (pe_chain op_le op_le pe_int (pe_callB call_lenS (by rfl) T.len (by decide +kernel) (pa_cons (pv 0) pa_nil)) pe_int) (pe_one (pe_cmpR op_eq (kBm (K := K) rfl PySem.F.plainAttrs_str PySem.F.slot_str_strip PySem.F.type_str_strip mt_stripChars (pv 0) (pa_cons (pe_gv (mg := mg) rfl rfl) pa_nil)) pe_str (nomark _)))))), ?_⟩
  have fin : ∀ b : Bool, b = fitL (tl x) → Q (.bl b) H := fun b e => by rw [e]; exact q
  walk_at "rd"
  walk_at "if"
  · rename_i c1
    walk_at "rd"
    by_cases c2 : (x.length : Int) ≤ 12
    · rw [decide_eq_true c2]
      walk_at "rd"
      refine w_gv (v := .str signs36) hg ⟨_, rfl⟩ ?_
      walk_at "rd"
      refine ⟨x, _, rfl, rfl, by omega, ?_⟩
      walk_at "rd"
      refine fin _ ?_
      unfold fitL
      rw [decide_eq_true (show 1 ≤ (tl x).length by omega), decide_eq_true (show (tl x).length ≤ 12 by omega), Bool.true_and, Bool.true_and, Bool.eq_iff_iff, decide_eq_true_eq, List.all_eq_true]
      have e : (V.str (Txt.stripChars x signs36) = V.str "") ↔ Txt.stripChars x signs36 = "" := ⟨fun h => V.str.inj h, fun h => congrArg V.str h⟩
      rw [e, strip_chars]
      exact ⟨fun h c hc => by rw [← sign_has]; exact h c hc, fun h c hc => by rw [sign_has]; exact h c hc⟩
    · rw [decide_eq_false c2]
      walk_at "rd"
      refine fin _ ?_
      unfold fitL
      rw [decide_eq_false (show ¬ (tl x).length ≤ 12 by omega), Bool.and_false, Bool.false_and]
  · rename_i c1
    walk_at "rd"
    refine fin _ ?_
    unfold fitL
    rw [decide_eq_false (show ¬ 1 ≤ (tl x).length by omega), Bool.false_and, Bool.false_and]
end
end Mn

namespace Mn
open PySem L2
section
variable {P : Program} {w : World} {K : PySem.W.Frag} {mg : Str → Option Value} {base : Heap}
/-! ### what shapes bear -/
def shF (n k : Str) : List (Str × V) := [("name", .str n), ("keep", .str k)]
def minF (n k : Str) (m s : Int) : List (Str × V) := [("name", .str n), ("keep", .str k), ("most", .int m), ("span", .int s)]
abbrev minN : List Str := ["name", "keep", "most", "span"]
def spShape : Sp := fun vs H Q _ => ∃ (p C dx : Addr) (n k : Str) (fl : List Str), vs = [.ref p, .str n, .str k] ∧ H p = some (.ins C dx []) ∧ Cls K C ∧ NoAttr K C "name" ∧ NoAttr K C "keep" ∧ Q .non (upd H p (.ins C dx (shF n k)))
theorem ok_Shape_init {f : Addr} {fd : FuncData} (F : Fun K "__init__" "Shape.__init__" s_Shape_init f fd) : FnOk P w K mg base CX0 1 f fd ["self", "name", "keep"] (spShape (K := K)) := by
  refine F.ok sc_Shape_init (fun vs H Q E h => ?_) (fun cdv A outer s H vs Q E hr h => ?_)
  · obtain ⟨p, C, dx, n, k, fl, rfl, _⟩ := h
    rfl
  obtain ⟨p, C, dx, n, k, fl, rfl, hp, c, n1, n2, q⟩ := h
  refine ⟨_, (pss_cons (kSFld (K := K) rfl (pv 0) (pv 1))
    (pss_one (kSFld (K := K) rfl (pv 0) (pv 2)))), ?_⟩
  walk_at "rd"
  refine w_sfld1 hp c n1 (ltb rfl) ?_
  walk_at "rd"
  refine w_sfld1 upd_same c n2 (ltb rfl) ?_
  rw [upd_upd]
  exact q
def spMinder (K : PySem.W.Frag) (C : Addr) : Sp := fun vs H Q _ => ∃ (p dx : Addr) (n k : Str) (m s : Int), vs = [.ref p, .str n, .str k, .int m, .int s] ∧ H p = some (.ins C dx []) ∧ Q .non (upd H p (.ins C dx (minF n k m s)))
theorem ok_Minder_init {C f : Addr} {fd : FuncData} (F : FunS K "__init__" "Minder.__init__" s_Minder_init [.int 1, .int 1] f fd) (cM : ClsF K C minN) (CS : CMt P w K mg base CX0 "Shape" "__init__" 1 ["self", "name", "keep"] [] (spShape (K := K))) :
    FnOk P w K mg base CX0 2 f fd ["self", "name", "keep", "most", "span"] (spMinder K C) := by
  refine F.ok sc_Minder_init (fun vs H Q E h => ?_) (fun cdv A outer s H vs Q E hr h => ?_)
  · obtain ⟨p, dx, n, k, m, s, rfl, _⟩ := h
    rfl
  obtain ⟨p, dx, n, k, m, s, rfl, hp, q⟩ := h
  refine ⟨_, (pss_cons (ps_expr (pe_cma (P := P) (w := w) (K := K) (mg := mg) (base := base) ⟨rfl, rfl, rfl, rfl, rfl⟩ hr rfl (pa_cons (pv 0) (pa_cons (pv 1) (pa_cons (pv 2) pa_nil)))))
    (pss_cons (kSFld (K := K) rfl (pv 0) (pv 3))
    (pss_one (kSFld (K := K) rfl (pv 0) (pv 4))))), ?_⟩
  walk_at "rd"
  refine w_cma CS (by decide) ?_
  walk_at "rd"
  refine ⟨p, C, dx, n, k, [], rfl, hp, cM.cl, cM.no _ (by decide), cM.no _ (by decide), ?_⟩
  walk_at "rd"
  rw [upd_upd, upd_upd]
  exact q
/-- a method that answers a written text | a truth value -/
def spSay (C : Addr) (wd : Str) : Sp := fun vs H Q _ => ∃ (p dx : Addr) (fs : List (Str × V)), vs = [.ref p] ∧ H p = some (.ins C dx fs) ∧ Q (.str wd) H
def spTruth (C : Addr) (b : Bool) : Sp := fun vs H Q _ => ∃ (p dx : Addr) (fs : List (Str × V)), vs = [.ref p] ∧ H p = some (.ins C dx fs) ∧ Q (.bl b) H
theorem ok_Shape_leaf {C f : Addr} {fd : FuncData} (F : Fun K "leaf" "Shape.leaf" s_Shape_leaf f fd) : FnOk P w K mg base CX0 1 f fd ["self"] (spTruth C false) := by
  refine F.ok sc_Shape_leaf (fun vs H Q E h => ?_) (fun cdv A outer s H vs Q E hr h => ?_)
  · obtain ⟨p, dx, fs, rfl, _⟩ := h
    rfl
  obtain ⟨p, dx, fs, rfl, hp, q⟩ := h
  refine ⟨_, (pss_one (ps_ret pe_bl)), ?_⟩
  walk_at "rd"
  exact q
theorem ok_Minder_way {C f : Addr} {fd : FuncData} (F : Fun K "way" "Minder.way" s_Minder_way f fd) : FnOk P w K mg base CX0 1 f fd ["self"] (spSay C "one") := by
  refine F.ok sc_Minder_way (fun vs H Q E h => ?_) (fun cdv A outer s H vs Q E hr h => ?_)
  · obtain ⟨p, dx, fs, rfl, _⟩ := h
    rfl
  obtain ⟨p, dx, fs, rfl, hp, q⟩ := h
  refine ⟨_, (pss_one (ps_ret pe_str)), ?_⟩
  walk_at "rd"
  exact q
def minWords (k wd : Str) (m s : Int) : List Str := ["minder", k, wd, toString m, toString s]
def spMinWords (C : Addr) (wd : Str) : Sp := fun vs H Q _ => ∃ (p dx : Addr) (n k : Str) (m s : Int), vs = [.ref p] ∧ H p = some (.ins C dx (minF n k m s)) ∧ Smol m ∧ Smol s ∧
  ∀ r, H r = none → Q (.ref r) (upd H r (.lst ((minWords k wd m s).map V.str)))
theorem ok_Minder_words {C f : Addr} {fd : FuncData} {wd : Str} (F : Fun K "words" "Minder.words" s_Minder_words f fd) (T : Bt mg) (cM : ClsF K C minN) (MW : Mth P w K mg base CX0 C "way" 1 ["self"] [] (spSay C wd)) :
    FnOk P w K mg base CX0 2 f fd ["self"] (spMinWords C wd) := by
  refine F.ok sc_Minder_words (fun vs H Q E h => ?_) (fun cdv A outer s H vs Q E hr h => ?_)
  · obtain ⟨p, dx, n, k, m, s, rfl, _⟩ := h
    rfl
  obtain ⟨p, dx, n, k, m, s, rfl, hp, hm, hs, q⟩ := h
  refine ⟨_, (pss_one (ps_ret (pe_lst (pa_cons pe_str (pa_cons (kFld (K := K) rfl (pv 0)) (pa_cons (pe_ma0 (P := P) (w := w) (K := K) (mg := mg) (base := base) ⟨rfl, rfl, rfl, rfl, rfl⟩ hr (pv 0)) (pa_cons (pe_callTy call_strI (by rfl) T.str (by decide +kernel) (pa_cons (kFld (K := K) rfl (pv 0)) pa_nil)) (pa_cons (pe_callTy call_strI (by rfl) T.str (by decide +kernel) (pa_cons (kFld (K := K) rfl (pv 0)) pa_nil)) pa_nil)))))))), ?_⟩
  unfold minF at hp
  walk_at "rd"
  refine w_ma1 hp cM.cl (by rfl) MW (by decide) ?_
  walk_at "rd"
  refine ⟨p, dx, _, rfl, hp, ?_⟩
  walk_at "rd"
  refine w_strI hm ?_
  walk_at "rd"
  refine w_strI hs ?_
  walk_at "rd"
  exact ⟨by walk_at "sz", fun r hr => q r hr⟩
end
end Mn

namespace Mn
open PySem L2
section
variable {P : Program} {w : World} {K : PySem.W.Frag} {mg : Str → Option Value} {base : Heap}
theorem ok_AllMinder_way {C f : Addr} {fd : FuncData} (F : Fun K "way" "AllMinder.way" s_AllMinder_way f fd) : FnOk P w K mg base CX0 1 f fd ["self"] (spSay C "all") := by
  refine F.ok sc_AllMinder_way (fun vs H Q E h => ?_) (fun cdv A outer s H vs Q E hr h => ?_)
  · obtain ⟨p, dx, fs, rfl, _⟩ := h
    rfl
  obtain ⟨p, dx, fs, rfl, hp, q⟩ := h
  refine ⟨_, (pss_one (ps_ret pe_str)), ?_⟩
  walk_at "rd"
  exact q
theorem ok_RestMinder_way {C f : Addr} {fd : FuncData} (F : Fun K "way" "RestMinder.way" s_RestMinder_way f fd) : FnOk P w K mg base CX0 1 f fd ["self"] (spSay C "rest") := by
  refine F.ok sc_RestMinder_way (fun vs H Q E h => ?_) (fun cdv A outer s H vs Q E hr h => ?_)
  · obtain ⟨p, dx, fs, rfl, _⟩ := h
    rfl
  obtain ⟨p, dx, fs, rfl, hp, q⟩ := h
  refine ⟨_, (pss_one (ps_ret pe_str)), ?_⟩
  walk_at "rd"
  exact q
end
end Mn

namespace Mn
open PySem L2
section
variable {P : Program} {w : World} {K : PySem.W.Frag} {mg : Str → Option Value} {base : Heap}
theorem ClsF.sub {C : Addr} {fs gs : List Str} (c : ClsF K C fs) (h : ∀ f ∈ gs, f ∈ fs) : ClsF K C gs := ⟨c.cl, fun f hf => c.no f (h f hf)⟩
/-! ### what leaves bear -/
def leafF (n k : Str) (g s : Int) : List (Str × V) := [("name", .str n), ("keep", .str k), ("grace", .int g), ("slow", .int s)]
def manyF (n k : Str) (g s m : Int) : List (Str × V) := [("name", .str n), ("keep", .str k), ("grace", .int g), ("slow", .int s), ("many", .int m)]
abbrev leafN : List Str := ["name", "keep", "grace", "slow"]
abbrev manyN : List Str := ["name", "keep", "grace", "slow", "many"]
/-- the shape of a kind: 0 Leaf, 1 Steady, 2 Faller, 3 Minder -/
def fieldsOf (kind : Int) (n k : Str) (g s m : Int) : List (Str × V) := if kind = 0 then leafF n k g s else if kind = 3 then minF n k g s else manyF n k g s m
def workOf (kind m : Int) : List Str := if kind = 0 then ["idle"] else [if kind = 1 then "steady" else "falls", toString m]
def wordsOf (kind : Int) (k : Str) (g s m : Int) : List Str := if kind = 3 then ["minder", k, "one", toString g, toString s] else (["leaf", k, toString g, toString s] : List Str) ++ workOf kind m
def again (k x : Str) : Bool := decide (k = "always") || (decide (k = "fallen") && (decide (x = "fallen") || decide (x = "gave up")))
def endOf (kind m st : Int) : Str := if kind = 0 then "" else if st = m then (if kind = 1 then "done" else "fallen") else ""
def spLeaf (K : PySem.W.Frag) : Sp := fun vs H Q _ => ∃ (p C dx : Addr) (n k : Str) (g s : Int), vs = [.ref p, .str n, .str k, .int g, .int s] ∧ H p = some (.ins C dx []) ∧ ClsF K C leafN ∧ Q .non (upd H p (.ins C dx (leafF n k g s)))
theorem ok_Leaf_init {f : Addr} {fd : FuncData} (F : FunS K "__init__" "Leaf.__init__" s_Leaf_init [.int 0, .int 0] f fd) (CS : CMt P w K mg base CX0 "Shape" "__init__" 1 ["self", "name", "keep"] [] (spShape (K := K))) :
    FnOk P w K mg base CX0 2 f fd ["self", "name", "keep", "grace", "slow"] (spLeaf K) := by
  refine F.ok sc_Leaf_init (fun vs H Q E h => ?_) (fun cdv A outer s H vs Q E hr h => ?_)
  · obtain ⟨p, C, dx, n, k, g, sl, rfl, _⟩ := h
    rfl
  obtain ⟨p, C, dx, n, k, g, sl, rfl, hp, cL, q⟩ := h
  refine ⟨_, (pss_cons (ps_expr (pe_cma (P := P) (w := w) (K := K) (mg := mg) (base := base) ⟨rfl, rfl, rfl, rfl, rfl⟩ hr rfl (pa_cons (pv 0) (pa_cons (pv 1) (pa_cons (pv 2) pa_nil)))))
    (pss_cons (kSFld (K := K) rfl (pv 0) (pv 3))
    (pss_one (kSFld (K := K) rfl (pv 0) (pv 4))))), ?_⟩
  walk_at "rd"
  refine w_cma CS (by decide) ?_
  walk_at "rd"
  refine ⟨p, C, dx, n, k, [], rfl, hp, cL.cl, cL.no _ (by decide), cL.no _ (by decide), ?_⟩
  walk_at "rd"
  rw [upd_upd, upd_upd]
  exact q
def spMany (K : PySem.W.Frag) (C : Addr) : Sp := fun vs H Q _ => ∃ (p dx : Addr) (n k : Str) (m g s : Int), vs = [.ref p, .str n, .str k, .int m, .int g, .int s] ∧ H p = some (.ins C dx []) ∧ Q .non (upd H p (.ins C dx (manyF n k g s m)))
theorem ok_Steady_init {C f : Addr} {fd : FuncData} (F : FunS K "__init__" "Steady.__init__" s_Steady_init [.int 0, .int 0] f fd) (cM : ClsF K C manyN) (CS : CMt P w K mg base CX0 "Leaf" "__init__" 2 ["self", "name", "keep", "grace", "slow"] [] (spLeaf K)) :
    FnOk P w K mg base CX0 3 f fd ["self", "name", "keep", "many", "grace", "slow"] (spMany K C) := by
  refine F.ok sc_Steady_init (fun vs H Q E h => ?_) (fun cdv A outer s H vs Q E hr h => ?_)
  · obtain ⟨p, dx, n, k, m, g, sl, rfl, _⟩ := h
    rfl
  obtain ⟨p, dx, n, k, m, g, sl, rfl, hp, q⟩ := h
  refine ⟨_, (pss_cons (ps_expr (pe_cma (P := P) (w := w) (K := K) (mg := mg) (base := base) ⟨rfl, rfl, rfl, rfl, rfl⟩ hr rfl (pa_cons (pv 0) (pa_cons (pv 1) (pa_cons (pv 2) (pa_cons (pv 4) (pa_cons (pv 5) pa_nil)))))))
    (pss_one (kSFld (K := K) rfl (pv 0) (pv 3)))), ?_⟩
  walk_at "rd"
  refine w_cma CS (by decide) ?_
  walk_at "rd"
  refine ⟨p, C, dx, n, k, g, sl, rfl, hp, cM.sub (by decide), ?_⟩
  walk_at "rd"
  rw [upd_upd]
  exact q
theorem ok_Faller_init {C f : Addr} {fd : FuncData} (F : FunS K "__init__" "Faller.__init__" s_Faller_init [.int 0, .int 0] f fd) (cM : ClsF K C manyN) (CS : CMt P w K mg base CX0 "Leaf" "__init__" 2 ["self", "name", "keep", "grace", "slow"] [] (spLeaf K)) :
    FnOk P w K mg base CX0 3 f fd ["self", "name", "keep", "many", "grace", "slow"] (spMany K C) := by
  refine F.ok sc_Faller_init (fun vs H Q E h => ?_) (fun cdv A outer s H vs Q E hr h => ?_)
  · obtain ⟨p, dx, n, k, m, g, sl, rfl, _⟩ := h
    rfl
  obtain ⟨p, dx, n, k, m, g, sl, rfl, hp, q⟩ := h
  refine ⟨_, (pss_cons (ps_expr (pe_cma (P := P) (w := w) (K := K) (mg := mg) (base := base) ⟨rfl, rfl, rfl, rfl, rfl⟩ hr rfl (pa_cons (pv 0) (pa_cons (pv 1) (pa_cons (pv 2) (pa_cons (pv 4) (pa_cons (pv 5) pa_nil)))))))
    (pss_one (kSFld (K := K) rfl (pv 0) (pv 3)))), ?_⟩
  walk_at "rd"
  refine w_cma CS (by decide) ?_
  walk_at "rd"
  refine ⟨p, C, dx, n, k, g, sl, rfl, hp, cM.sub (by decide), ?_⟩
  walk_at "rd"
  rw [upd_upd]
  exact q
theorem ok_Leaf_leaf {C f : Addr} {fd : FuncData} (F : Fun K "leaf" "Leaf.leaf" s_Leaf_leaf f fd) : FnOk P w K mg base CX0 1 f fd ["self"] (spTruth C true) := by
  refine F.ok sc_Leaf_leaf (fun vs H Q E h => ?_) (fun cdv A outer s H vs Q E hr h => ?_)
  · obtain ⟨p, dx, fs, rfl, _⟩ := h
    rfl
  obtain ⟨p, dx, fs, rfl, hp, q⟩ := h
  refine ⟨_, (pss_one (ps_ret pe_bl)), ?_⟩
  walk_at "rd"
  exact q
end
end Mn

namespace Mn
open PySem L2
section
variable {P : Program} {w : World} {K : PySem.W.Frag} {mg : Str → Option Value} {base : Heap}
/-! ### their words -/
def spWork (C : Addr) (kind : Int) : Sp := fun vs H Q _ => ∃ (p dx : Addr) (n k : Str) (g s m : Int), vs = [.ref p] ∧ H p = some (.ins C dx (fieldsOf kind n k g s m)) ∧ Smol m ∧ ∀ r, H r = none → Q (.ref r) (upd H r (.lst ((workOf kind m).map V.str)))
theorem ok_Leaf_work {C f : Addr} {fd : FuncData} (F : Fun K "work" "Leaf.work" s_Leaf_work f fd) : FnOk P w K mg base CX0 1 f fd ["self"] (spWork C 0) := by
  refine F.ok sc_Leaf_work (fun vs H Q E h => ?_) (fun cdv A outer s H vs Q E hr h => ?_)
  · obtain ⟨p, dx, n, k, g, sl, m, rfl, _⟩ := h
    rfl
  obtain ⟨p, dx, n, k, g, sl, m, rfl, hp, hm, q⟩ := h
  refine ⟨_, (pss_one (ps_ret (pe_lst (pa_cons pe_str pa_nil)))), ?_⟩
  walk_at "rd"
  exact ⟨by walk_at "sz", fun r hr => q r hr⟩
theorem ok_Steady_work {C f : Addr} {fd : FuncData} (F : Fun K "work" "Steady.work" s_Steady_work f fd) (T : Bt mg) (cM : ClsF K C manyN) : FnOk P w K mg base CX0 1 f fd ["self"] (spWork C 1) := by
  refine F.ok sc_Steady_work (fun vs H Q E h => ?_) (fun cdv A outer s H vs Q E hr h => ?_)
  · obtain ⟨p, dx, n, k, g, sl, m, rfl, _⟩ := h
    rfl
  obtain ⟨p, dx, n, k, g, sl, m, rfl, hp, hm, q⟩ := h
  refine ⟨_, (pss_one (ps_ret (pe_lst (pa_cons pe_str (pa_cons (pe_callTy call_strI (by rfl) T.str (by decide +kernel) (pa_cons (kFld (K := K) rfl (pv 0)) pa_nil)) pa_nil))))), ?_⟩
  walk_at "rd"
  refine w_strI hm ?_
  walk_at "rd"
  exact ⟨by walk_at "sz", fun r hr => q r hr⟩
theorem ok_Faller_work {C f : Addr} {fd : FuncData} (F : Fun K "work" "Faller.work" s_Faller_work f fd) (T : Bt mg) (cM : ClsF K C manyN) : FnOk P w K mg base CX0 1 f fd ["self"] (spWork C 2) := by
  refine F.ok sc_Faller_work (fun vs H Q E h => ?_) (fun cdv A outer s H vs Q E hr h => ?_)
  · obtain ⟨p, dx, n, k, g, sl, m, rfl, _⟩ := h
    rfl
  obtain ⟨p, dx, n, k, g, sl, m, rfl, hp, hm, q⟩ := h
  refine ⟨_, (pss_one (ps_ret (pe_lst (pa_cons pe_str (pa_cons (pe_callTy call_strI (by rfl) T.str (by decide +kernel) (pa_cons (kFld (K := K) rfl (pv 0)) pa_nil)) pa_nil))))), ?_⟩
  walk_at "rd"
  refine w_strI hm ?_
  walk_at "rd"
  exact ⟨by walk_at "sz", fun r hr => q r hr⟩
def spWords (C : Addr) (kind : Int) : Sp := fun vs H Q _ => ∃ (p dx : Addr) (n k : Str) (g s m : Int), vs = [.ref p] ∧ H p = some (.ins C dx (fieldsOf kind n k g s m)) ∧ Smol g ∧ Smol s ∧ Smol m ∧
  ∀ r H', H r = none → Same H H' → H' r = some (.lst ((wordsOf kind k g s m).map V.str)) → Q (.ref r) H'
theorem leafLook {kind : Int} (h : ¬ kind = 3) (n k : Str) (g s m : Int) : (fieldsOf kind n k g s m).lookup ("keep" : Str) = some (.str k) ∧ (fieldsOf kind n k g s m).lookup ("grace" : Str) = some (.int g) ∧ (fieldsOf kind n k g s m).lookup ("slow" : Str) = some (.int s) ∧ (fieldsOf kind n k g s m).lookup ("work" : Str) = none := by
  unfold fieldsOf
  rw [if_neg h]
  split
  · exact ⟨rfl, rfl, rfl, rfl⟩
  · exact ⟨rfl, rfl, rfl, rfl⟩
theorem ok_Leaf_words {C f : Addr} {fd : FuncData} {kind : Int} (F : Fun K "words" "Leaf.words" s_Leaf_words f fd) (T : Bt mg) (cM : ClsF K C leafN) (hk : ¬ kind = 3) (MW : Mth P w K mg base CX0 C "work" 1 ["self"] [] (spWork C kind)) : FnOk P w K mg base CX0 2 f fd ["self"] (spWords C kind) := by
  refine F.ok sc_Leaf_words (fun vs H Q E h => ?_) (fun cdv A outer s H vs Q E hr h => ?_)
  · obtain ⟨p, dx, n, k, g, sl, m, rfl, _⟩ := h
    rfl
  obtain ⟨p, dx, n, k, g, sl, m, rfl, hp, hg, hs, hm, q⟩ := h
  obtain ⟨l1, l2, l3, l4⟩ := leafLook hk n k g sl m
  refine ⟨_, (pss_one (ps_ret (pe_op op_cat (pe_lst (pa_cons pe_str (pa_cons (kFld (K := K) rfl (pv 0)) (pa_cons (pe_callTy call_strI (by rfl) T.str (by decide +kernel) (pa_cons (kFld (K := K) rfl (pv 0)) pa_nil)) (pa_cons (pe_callTy call_strI (by rfl) T.str (by decide +kernel) (pa_cons (kFld (K := K) rfl (pv 0)) pa_nil)) pa_nil))))) (pe_ma0 (P := P) (w := w) (K := K) (mg := mg) (base := base) ⟨rfl, rfl, rfl, rfl, rfl⟩ hr (pv 0))))), ?_⟩
  walk_at "rd"
  refine w_fld1 hp cM.cl (cM.no _ (by decide)) l1 ?_
  walk_at "rd"
  refine w_fld1 hp cM.cl (cM.no _ (by decide)) l2 ?_
  walk_at "rd"
  refine w_strI hg ?_
  walk_at "rd"
  refine w_fld1 hp cM.cl (cM.no _ (by decide)) l3 ?_
  walk_at "rd"
  refine w_strI hs ?_
  walk_at "rd"
  refine ⟨by walk_at "sz", fun a ha => ?_⟩
  walk_at "rd"
  have s1 : Same H (upd H a (.lst [V.str "leaf", .str k, .str (Str.ofString (toString g)), .str (Str.ofString (toString sl))])) := same_upd (Same.refl _) ha
  have e1 : upd H a (.lst [V.str "leaf", .str k, .str (Str.ofString (toString g)), .str (Str.ofString (toString sl))]) a = _ := upd_same
  generalize upd H a (.lst [V.str "leaf", .str k, .str (Str.ofString (toString g)), .str (Str.ofString (toString sl))]) = H1 at s1 e1
  refine w_ma1 (s1 _ _ hp) cM.cl l4 MW (by decide) ?_
  walk_at "rd"
  refine ⟨p, dx, n, k, g, sl, m, rfl, s1 _ _ hp, hm, fun b hb => ?_⟩
  walk_at "rd"
  have e2 : upd H1 b (.lst ((workOf kind m).map V.str)) a = _ := (upd_ne (ne_of_none e1 hb)).trans e1
  have s2 := same_upd (o := .lst ((workOf kind m).map V.str)) s1 hb
  have lw : (workOf kind m).length ≤ 2 := by
    unfold workOf
    split
    · exact Nat.le_succ 1
    · exact Nat.le_refl 2
  refine w_cat e2 upd_same (by have := sizeLine_eq; rw [List.length_map]; simp only [List.length_cons, List.length_nil]; omega) fun r hr' => ?_
  walk_at "rd"
  refine q r _ (s2.free hr') (same_upd s2 hr') ?_
  rw [upd_same, wordsOf, if_neg hk, List.map_append]
  rfl
theorem ok_Minder_words4 {C f : Addr} {fd : FuncData} (F : Fun K "words" "Minder.words" s_Minder_words f fd) (T : Bt mg) (cM : ClsF K C minN) (MW : Mth P w K mg base CX0 C "way" 1 ["self"] [] (spSay C "one")) :
    FnOk P w K mg base CX0 2 f fd ["self"] (spWords C 3) := by
  refine F.ok sc_Minder_words (fun vs H Q E h => ?_) (fun cdv A outer s H vs Q E hr h => ?_)
  · obtain ⟨p, dx, n, k, g, sl, m, rfl, _⟩ := h
    rfl
  obtain ⟨p, dx, n, k, g, sl, m, rfl, hp, hg, hs, hm, q⟩ := h
  refine ⟨_, (pss_one (ps_ret (pe_lst (pa_cons pe_str (pa_cons (kFld (K := K) rfl (pv 0)) (pa_cons (pe_ma0 (P := P) (w := w) (K := K) (mg := mg) (base := base) ⟨rfl, rfl, rfl, rfl, rfl⟩ hr (pv 0)) (pa_cons (pe_callTy call_strI (by rfl) T.str (by decide +kernel) (pa_cons (kFld (K := K) rfl (pv 0)) pa_nil)) (pa_cons (pe_callTy call_strI (by rfl) T.str (by decide +kernel) (pa_cons (kFld (K := K) rfl (pv 0)) pa_nil)) pa_nil)))))))), ?_⟩
  walk_at "rd"
  refine w_ma1 hp cM.cl (by rfl) MW (by decide) ?_
  walk_at "rd"
  refine ⟨p, dx, _, rfl, hp, ?_⟩
  walk_at "rd"
  refine w_strI hg ?_
  walk_at "rd"
  refine w_strI hs ?_
  walk_at "rd"
  refine ⟨by walk_at "sz", fun r hr => q r _ hr (same_upd (Same.refl _) hr) ?_⟩
  rw [upd_same]
  rfl
end
end Mn

namespace Mn
open PySem PySem.Spec PyProof.Rows L2 TL
/-! ### shapes of all kinds: 0 Leaf, 1 Steady, 2 Faller, 3 Minder, 4 AllMinder, 5 RestMinder -/
structure Shp where
  kind : Nat
  name : Str
  keep : Str
  a : Int
  b : Int
  m : Int
deriving Inhabited
def fldS (s : Shp) : List (Str × V) := if s.kind < 3 then fieldsOf s.kind s.name s.keep s.a s.b s.m else minF s.name s.keep s.a s.b
def attrS (k : Nat) : List Str := if k = 0 then leafN else if k < 3 then manyN else minN
def wayS (k : Nat) : Str := if k = 3 then "one" else if k = 4 then "all" else "rest"
def shW (s : Shp) : List Str := if s.kind < 3 then wordsOf s.kind s.keep s.a s.b s.m else minWords s.keep (wayS s.kind) s.a s.b
abbrev keeps3 : List Str := ["always", "fallen", "never"]
structure OkS (s : Shp) : Prop where
  kd : s.kind < 6
  kp : s.keep ∈ keeps3
  nm : fitL (tl s.name) = true
  a0 : 0 ≤ s.a ∧ s.a ≤ 1000000
  b0 : 0 ≤ s.b ∧ s.b ≤ 1000000
  m0 : 0 ≤ s.m ∧ s.m ≤ 1000000
  mz : s.kind ≠ 1 → s.kind ≠ 2 → s.m = 0
  b1 : 3 ≤ s.kind → 1 ≤ s.b
theorem attr_name (k : Nat) : ("name" : Str) ∈ attrS k := by
  unfold attrS
  split
  · decide
  · split <;> decide
theorem fld_name (s : Shp) : (fldS s).lookup ("name" : Str) = some (.str s.name) := by
  unfold fldS fieldsOf
  split
  · split
    · rfl
    · split <;> rfl
  · rfl
theorem fld_leaf (s : Shp) : (fldS s).lookup ("leaf" : Str) = none := by
  unfold fldS fieldsOf
  split
  · split
    · rfl
    · split <;> rfl
  · rfl
theorem fld_words (s : Shp) : (fldS s).lookup ("words" : Str) = none := by
  unfold fldS fieldsOf
  split
  · split
    · rfl
    · split <;> rfl
  · rfl
section
variable {P : Program} {w : World} {K : PySem.W.Frag} {mg : Str → Option Value} {base : Heap}
/-- the six classes, by kind -/
structure KdC (K : PySem.W.Frag) (cls : Nat → Addr) : Prop where
  cf : ∀ k, k < 6 → ClsF K (cls k) (attrS k)
structure KdL (P : Program) (w : World) (K : PySem.W.Frag) (mg : Str → Option Value) (base : Heap) (cls : Nat → Addr) : Prop where
  leaf : ∀ k, k < 6 → Mth P w K mg base CX0 (cls k) "leaf" 1 ["self"] [] (spTruth (cls k) (decide (k < 3)))
theorem smol_mil {i : Int} (h : 0 ≤ i ∧ i ≤ 1000000) : Smol i := smol_of (by omega)
theorem Mth.imp {C : Addr} {m : Str} {k : Nat} {ps : List Str} {dvs : List V} {sp sp' : Sp} (M : Mth P w K mg base CX0 C m k ps dvs sp) (h : ∀ vs H Q E, sp' vs H Q E → sp vs H Q E) : Mth P w K mg base CX0 C m k ps dvs sp' := by
  obtain ⟨f, fd, ds, F, r⟩ := M.ex
  exact ⟨f, fd, ds, F.imp h, r⟩
end
end Mn

namespace Mn
open PySem PySem.Spec PyProof.Rows L2 TL
section
variable {P : Program} {w : World} {K : PySem.W.Frag} {mg : Str → Option Value} {base : Heap}
def spWd (C : Addr) (k : Nat) : Sp := fun vs H Q _ => ∃ (p dx : Addr) (s : Shp), vs = [.ref p] ∧ H p = some (.ins C dx (fldS s)) ∧ s.kind = k ∧ OkS s ∧ ∀ r H', H r = none → Same H H' → H' r = some (.lst ((shW s).map V.str)) → Q (.ref r) H'
structure KdW (P : Program) (w : World) (K : PySem.W.Frag) (mg : Str → Option Value) (base : Heap) (cls : Nat → Addr) : Prop where
  words : ∀ k, k < 6 → Mth P w K mg base CX0 (cls k) "words" 2 ["self"] [] (spWd (cls k) k)
theorem wd_leaf {C : Addr} {k : Nat} (hk : k < 3) {vs : List V} {H : Hp} {Q : VK} {E : XK} (h : spWd C k vs H Q E) : spWords C (k : Int) vs H Q E := by
  obtain ⟨p, dx, s, rfl, hp, rfl, ok, q⟩ := h
  unfold fldS at hp
  rw [if_pos hk] at hp
  refine ⟨p, dx, _, _, _, _, _, rfl, hp, smol_mil ok.a0, smol_mil ok.b0, smol_mil ok.m0, fun r H' h1 h2 h3 => q r H' h1 h2 ?_⟩
  unfold shW
  rw [if_pos hk]
  exact h3
theorem wd_min {C : Addr} {k : Nat} (hk : ¬ k < 3) {vs : List V} {H : Hp} {Q : VK} {E : XK} (h : spWd C k vs H Q E) : spMinWords C (wayS k) vs H Q E := by
  obtain ⟨p, dx, s, rfl, hp, rfl, ok, q⟩ := h
  unfold fldS at hp
  rw [if_neg hk] at hp
  refine ⟨p, dx, _, _, _, _, rfl, hp, smol_mil ok.a0, smol_mil ok.b0, fun r h1 => q r _ h1 (same_new h1 _) ?_⟩
  unfold shW
  rw [if_neg hk, upd_same]
end
end Mn

namespace Mn
open PySem PySem.Spec PyProof.Rows L2 TL
/-! ### trees -/
structure TreeD where
  shs : List Shp
  eld : List Int
  dps : List Nat
def TreeD.n (D : TreeD) : Nat := D.shs.length
def TreeD.e (D : TreeD) (i : Nat) : Int := D.eld.getD i (-1)
def TreeD.sh (D : TreeD) (i : Nat) : Shp := D.shs.getD i default
def TreeD.dp (D : TreeD) (i : Nat) : Nat := D.dps.getD i 0
def yngOf (eld : List Int) (i : Nat) : List Nat := (List.range eld.length).filter fun j => decide (eld.getD j (-1) = (i : Int))
def kvsOf (shs : List Shp) : List (Key × V) := shs.zipIdx.map fun p => (Sum.inr p.1.name, V.int (p.2 : Nat))
def TreeD.add (D : TreeD) (s : Shp) (e : Int) : TreeD := ⟨D.shs ++ [s], D.eld ++ [e], D.dps ++ [if e < 0 then 0 else D.dp e.toNat + 1]⟩
def TreeD.nil : TreeD := ⟨[], [], []⟩
structure TreeD.WF (D : TreeD) : Prop where
  le : D.eld.length = D.n
  ld : D.dps.length = D.n
  el : ∀ i, i < D.n → (D.e i = -1 ∧ i = 0) ∨ (0 ≤ D.e i ∧ D.e i < i)
  dp : ∀ i, i < D.n → D.dp i = if D.e i < 0 then 0 else D.dp (D.e i).toNat + 1
  nm : (D.shs.map Shp.name).Nodup
  sz : D.n ≤ 64
  ok : ∀ s ∈ D.shs, OkS s
  mi : ∀ i, i < D.n → 0 ≤ D.e i → 3 ≤ (D.sh (D.e i).toNat).kind
  d8 : ∀ i, i < D.n → D.dp i ≤ 8
  top : 0 < D.n → 3 ≤ (D.sh 0).kind
theorem yng_lt {eld : List Int} {i j : Nat} (h : j ∈ yngOf eld i) : j < eld.length ∧ eld.getD j (-1) = (i : Int) := by
  unfold yngOf at h
  rw [List.mem_filter, List.mem_range, decide_eq_true_eq] at h
  exact h
theorem yng_add (eld : List Int) (e : Int) (i : Nat) : yngOf (eld ++ [e]) i = yngOf eld i ++ (if e = (i : Int) then [eld.length] else []) := by
  unfold yngOf
  rw [List.length_append, List.length_singleton, List.range_succ, List.filter_append]
  congr 1
  · refine List.filter_congr fun j hj => ?_
    rw [List.mem_range] at hj
    refine decide_eq_decide.mpr ?_
    rw [List.getD_eq_getElem?_getD, List.getD_eq_getElem?_getD, List.getElem?_append_left hj]
  · simp [List.getD, List.filter_cons]
theorem kvs_add (shs : List Shp) (s : Shp) : kvsOf (shs ++ [s]) = kvsOf shs ++ [(Sum.inr s.name, V.int (shs.length : Nat))] := by
  unfold kvsOf
  rw [List.zipIdx_append, List.map_append]
  simp
theorem kvs_len (shs : List Shp) : (kvsOf shs).length = shs.length := by
  unfold kvsOf
  rw [List.length_map, List.length_zipIdx]
theorem kvs_none {shs : List Shp} {x : Str} (h : x ∉ shs.map Shp.name) : valV (kvsOf shs) (Sum.inr x) = none := by
  unfold valV kvsOf
  rw [Option.map_eq_none_iff, List.find?_eq_none]
  intro p hp
  obtain ⟨q, hq, rfl⟩ := List.mem_map.mp hp
  rw [decide_eq_true_eq]
  intro e
  have e := Sum.inr.inj e
  refine h ?_
  rw [← e]
  exact List.mem_map_of_mem (List.mem_zipIdx hq |>.2.2 ▸ List.getElem_mem _)
theorem kvs_at_aux : ∀ (shs : List Shp) (n i : Nat) (s : Shp), (shs.map Shp.name).Nodup → shs[i]? = some s → valV ((shs.zipIdx n).map fun p => ((Sum.inr p.1.name, V.int (p.2 : Nat)) : Key × V)) (Sum.inr s.name) = some (.int ((n + i : Nat) : Int))
  | [], _, _, _, _, h => by cases h
  | a :: r, n, 0, s, _, h => by
    obtain rfl := Option.some.inj h
    unfold valV
    rw [List.zipIdx_cons, List.map_cons, List.find?_cons_of_pos (by simp)]
    rfl
  | a :: r, n, i + 1, s, nd, h => by
    have h : r[i]? = some s := h
    rw [List.map_cons, List.nodup_cons] at nd
    have ne : a.name ≠ s.name := fun e => nd.1 (by rw [e]; exact List.mem_map_of_mem (List.mem_of_getElem? h))
    have := kvs_at_aux r (n + 1) i s nd.2 h
    unfold valV at this ⊢
    rw [List.zipIdx_cons, List.map_cons, List.find?_cons_of_neg (by simpa using ne)]
    rw [this, show n + 1 + i = n + (i + 1) by omega]
theorem kvs_at {shs : List Shp} (nd : (shs.map Shp.name).Nodup) {i : Nat} {s : Shp} (h : shs[i]? = some s) : valV (kvsOf shs) (Sum.inr s.name) = some (.int (i : Nat)) := by
  have := kvs_at_aux shs 0 i s nd h
  rw [Nat.zero_add] at this
  exact this
theorem kvs_put {shs : List Shp} {s : Shp} (h : s.name ∉ shs.map Shp.name) : putK (kvsOf shs) (Sum.inr s.name) (V.int (shs.length : Nat)) = kvsOf (shs ++ [s]) := by
  rw [kvs_add]
  unfold putK
  rw [if_neg ?_]
  intro z
  rw [List.any_eq_true] at z
  obtain ⟨p, hp, e⟩ := z
  have := kvs_none h
  unfold valV at this
  rw [Option.map_eq_none_iff, List.find?_eq_none] at this
  exact this p hp e
/-- a tree's addresses -/
structure TA where
  t : Addr
  dx : Addr
  sh : Addr
  el : Addr
  yg : Addr
  kn : Addr
  ys : List Addr
  ps : List Addr
def TA.foot (A : TA) : List Addr := A.t :: A.sh :: A.el :: A.yg :: A.kn :: A.ys
abbrev treeN : List Str := ["shapes", "elders", "young", "known"]
def treeF (A : TA) : List (Str × V) := [("shapes", .ref A.sh), ("elders", .ref A.el), ("young", .ref A.yg), ("known", .ref A.kn)]
def ShAt (cls : Nat → Addr) (H : Hp) (p : Addr) (s : Shp) : Prop := ∃ dx, H p = some (.ins (cls s.kind) dx (fldS s))
structure TR (CT : Addr) (cls : Nat → Addr) (A : TA) (D : TreeD) (H : Hp) : Prop where
  ht : H A.t = some (.ins CT A.dx (treeF A))
  hsh : H A.sh = some (.lst (A.ps.map V.ref))
  lps : A.ps.length = D.n
  hps : ∀ i p, A.ps[i]? = some p → ShAt cls H p (D.sh i)
  hel : H A.el = some (.lst (D.eld.map V.int))
  hyg : H A.yg = some (.lst (A.ys.map V.ref))
  lys : A.ys.length = D.n
  hys : ∀ i y, A.ys[i]? = some y → H y = some (.lst ((yngOf D.eld i).map fun j : Nat => V.int j))
  hkn : H A.kn = some (.dK (kvsOf D.shs))
structure TRm (CT : Addr) (cls : Nat → Addr) (A : TA) (D : TreeD) (H : Hp) : Prop extends TR CT cls A D H where
  nd : (A.sh :: A.el :: A.yg :: A.ys).Nodup
/-- what is outside keeps -/
def Out (F : List Addr) (H H' : Hp) : Prop := ∀ b u, b ∉ F → H b = some u → H' b = some u
def New (F F' : List Addr) (H : Hp) : Prop := ∀ b, b ∈ F' → b ∈ F ∨ H b = none
theorem updN {H : Hp} {p a : Addr} {o : HO} (h : upd H p o a = none) : H a = none := by
  by_cases e : a = p
  · subst e
    rw [upd_same] at h
    cases h
  · rw [upd_ne e] at h
    exact h
section
variable {P : Program} {w : World} {K : PySem.W.Frag} {mg : Str → Option Value} {base : Heap}
def spTInit (CT : Addr) (cls : Nat → Addr) : Sp := fun vs H Q _ => ∃ (p dx : Addr), vs = [.ref p] ∧ H p = some (.ins CT dx []) ∧ ∀ A H', A.t = p → TRm CT cls A .nil H' → Out [p] H H' → New [p] A.foot H → Q .non H'
theorem ok_Tree_init {CT : Addr} {cls : Nat → Addr} {f : Addr} {fd : FuncData} (F : Fun K "__init__" "Tree.__init__" s_Tree_init f fd) (cT : ClsF K CT treeN) : FnOk P w K mg base CX0 1 f fd ["self"] (spTInit CT cls) := by
  refine F.ok sc_Tree_init (fun vs H Q E h => ?_) (fun cdv A outer s H vs Q E hr h => ?_)
  · obtain ⟨p, dx, rfl, _⟩ := h
    rfl
  obtain ⟨p, dx, rfl, hp, q⟩ := h
  refine ⟨_, (pss_cons (kSFld (K := K) rfl (pv 0) (pe_lst pa_nil))
    (pss_cons (kSFld (K := K) rfl (pv 0) (pe_lst pa_nil))
    (pss_cons (kSFld (K := K) rfl (pv 0) (pe_lst pa_nil))
    (pss_one (kSFld (K := K) rfl (pv 0) pe_dnewK))))), ?_⟩
  walk_at "rd"
  refine ⟨Nat.zero_le _, fun sh hsh => ?_⟩
  walk_at "rd"
  refine ⟨Nat.zero_le _, fun el hel => ?_⟩
  walk_at "rd"
  refine ⟨Nat.zero_le _, fun yg hyg => ?_⟩
  walk_at "rd"
  refine w_dnew fun kn hkn => ?_
  walk_at "rd"
  have q1 : sh ≠ p := (neN hsh hp).symm
  have q2 : el ≠ p := (neN (updN (updN hel)) hp).symm
  have q3 : yg ≠ p := (neN (updN (updN (updN (updN hyg)))) hp).symm
  have n1 : sh ≠ el := by walk_at "ne"
  have n2 : sh ≠ yg := by walk_at "ne"
  have n3 : el ≠ yg := by walk_at "ne"
  have n4 : sh ≠ kn := by walk_at "ne"
  have n5 : el ≠ kn := by walk_at "ne"
  have n6 : yg ≠ kn := by walk_at "ne"
  have f1 : H el = none := updN (updN hel)
  have f2 : H yg = none := updN (updN (updN (updN hyg)))
  have f3 : H kn = none := updN (updN (updN (updN (updN (updN hkn)))))
  refine q ⟨p, dx, sh, el, yg, kn, [], []⟩ _ rfl ⟨⟨?_, ?_, rfl, (fun i y h => by cases h), ?_, ?_, rfl, (fun i y h => by cases h), ?_⟩, ?_⟩ (fun b u hb hu => ?_) (fun b hb => ?_)
  · walk_at "hp"
  · dsimp only [TreeD.nil, List.map]
    walk_at "hp"
  · dsimp only [TreeD.nil, List.map]
    walk_at "hp"
  · dsimp only [TreeD.nil, List.map]
    walk_at "hp"
  · walk_at "hp"
  · simp [n1, n2, n3]
  · have hb : b ≠ p := fun e => hb (by rw [e]; exact List.mem_cons_self)
    walk_at "hp"
  · simp only [TA.foot, List.mem_cons, List.not_mem_nil, or_false] at hb
    rcases hb with rfl | rfl | rfl | rfl | rfl
    · exact .inl List.mem_cons_self
    · exact .inr hsh
    · exact .inr f1
    · exact .inr f2
    · exact .inr f3
def spAdd (CT : Addr) (cls : Nat → Addr) : Sp := fun vs H Q _ => ∃ (A : TA) (D : TreeD) (p : Addr) (s : Shp) (e : Int), vs = [.ref A.t, .ref p, .int e] ∧ TRm CT cls A D H ∧ D.WF ∧ ShAt cls H p s ∧ s.kind < 6 ∧ s.name ∉ D.shs.map Shp.name ∧ (e = -1 ∨ (0 ≤ e ∧ e < D.n)) ∧
  ∀ A' H', A'.t = A.t → TRm CT cls A' (D.add s e) H' → Out A.foot H H' → New A.foot A'.foot H → Q (.int (D.n : Int)) H'
theorem ok_add {CT : Addr} {cls : Nat → Addr} {f : Addr} {fd : FuncData} (F : Fun K "add" "Tree.add" s_Tree_add f fd) (T : Bt mg) (cT : ClsF K CT treeN) (kc : KdC K cls) : FnOk P w K mg base CX0 1 f fd ["self", "shape", "elder"] (spAdd CT cls) := by
  refine F.ok sc_Tree_add (fun vs H Q E h => ?_) (fun cdv A outer s H vs Q E hr h => ?_)
  · obtain ⟨A, D, p, s, e, rfl, _⟩ := h
    rfl
  obtain ⟨A, D, p, s, e, rfl, R, W, ⟨dxp, hp⟩, hk, hn, he, q⟩ := h
  have hu := hu_of hr
  have ht := R.ht
  have hsh := R.hsh
  have hel := R.hel
  have hyg := R.hyg
  have hkn := R.hkn
  have nd := R.nd
  have cp := kc.cf s.kind hk
  unfold treeF at ht
  have hsz := W.sz
  have lps := R.lps
  have lys := R.lys
  have le := W.le
  have n_t_sh : A.t ≠ A.sh := ne_of ht hsh (by intro z; cases z)
  have n_t_el : A.t ≠ A.el := ne_of ht hel (by intro z; cases z)
  have n_t_yg : A.t ≠ A.yg := ne_of ht hyg (by intro z; cases z)
  have n_t_kn : A.t ≠ A.kn := ne_of ht hkn (by intro z; cases z)
  have n_p_sh : p ≠ A.sh := ne_of hp hsh (by intro z; cases z)
  have n_p_el : p ≠ A.el := ne_of hp hel (by intro z; cases z)
  have n_p_yg : p ≠ A.yg := ne_of hp hyg (by intro z; cases z)
  have n_p_kn : p ≠ A.kn := ne_of hp hkn (by intro z; cases z)
  have n_sh_kn : A.sh ≠ A.kn := ne_of hsh hkn (by intro z; cases z)
  have n_el_kn : A.el ≠ A.kn := ne_of hel hkn (by intro z; cases z)
  have n_yg_kn : A.yg ≠ A.kn := ne_of hyg hkn (by intro z; cases z)
  simp only [List.nodup_cons, List.mem_cons, not_or] at nd
  obtain ⟨⟨n_sh_el, n_sh_yg, n_sh_ys⟩, ⟨n_el_yg, n_el_ys⟩, n_yg_ys, n_ys⟩ := nd
  refine ⟨_, (pss_cons (ps_set (i := 3) sc_Tree_add.nd rfl (Or.inl rfl) (pe_callB (kLenL (K := K) rfl) (by rfl) T.len (by decide +kernel) (pa_cons (kFld (K := K) rfl (pv 0)) pa_nil)))
    (pss_cons (ps_expr (kBm (K := K) rfl PySem.F.plainAttrs_list PySem.F.slot_list_append PySem.F.type_list_append mt_append (kFld (K := K) rfl (pv 0)) (pa_cons (pv 1) pa_nil)))
    (pss_cons (ps_expr (kBm (K := K) rfl PySem.F.plainAttrs_list PySem.F.slot_list_append PySem.F.type_list_append mt_append (kFld (K := K) rfl (pv 0)) (pa_cons (pv 2) pa_nil)))
    (pss_cons (ps_expr (kBm (K := K) rfl PySem.F.plainAttrs_list PySem.F.slot_list_append PySem.F.type_list_append mt_append (kFld (K := K) rfl (pv 0)) (pa_cons (pe_lst pa_nil) pa_nil)))
    (pss_cons (ps_dput hu (kFld (K := K) rfl (pv 0)) (kFld (K := K) rfl (pv 1)) (pv 3) rfl)
    (C8.pss_cut (ps_if (pt_cmpR op_ge (pv 2) pe_int (nomark _)) (pss_one (ps_expr (kBm (K := K) rfl PySem.F.plainAttrs_list PySem.F.slot_list_append PySem.F.type_list_append mt_append (pe_ix (kIxL (K := K) rfl) (kFld (K := K) rfl (pv 0)) (pv 2) (fun _ _ => rfl)) (pa_cons (pv 3) pa_nil)))) pss_nil)
    (pss_one (ps_ret (pv 3))))))))), ?_⟩
  walk_at "rd"
  refine ⟨Nat.zero_le _, fun y hy => ?_⟩
  have fy : H y = none := updN (updN hy)
  have n_t_y : A.t ≠ y := by walk_at "ne"
  have n_p_y : p ≠ y := by walk_at "ne"
  have n_sh_y : A.sh ≠ y := by walk_at "ne"
  have n_el_y : A.el ≠ y := by walk_at "ne"
  have n_yg_y : A.yg ≠ y := by walk_at "ne"
  have n_kn_y : A.kn ≠ y := by walk_at "ne"
  have n_ys_y : ∀ z ∈ A.ys, z ≠ y := fun z hz => by
    obtain ⟨i, hi, e⟩ := List.getElem_of_mem hz
    exact neN fy (R.hys i z (by rw [List.getElem?_eq_getElem hi, e]))
  walk_at "rd"
  refine w_fld1 (by walk_at "hp") cp.cl (cp.no _ (attr_name _)) (fld_name s) ?_
  refine w_dput1 (k := Sum.inr s.name) (by walk_at "hp") rfl (by rw [kvs_len]; show D.n < _; have := PySem.sizeLine_eq; omega) ?_
  have el0 : (A.ps.map V.ref).length = D.shs.length := by rw [List.length_map, lps]; rfl
  rw [el0, kvs_put hn]
  have nsz : ∀ z o, H z = some o → o ≠ .lst (A.ps.map V.ref) → o ≠ .lst (D.eld.map V.int) → o ≠ .lst (A.ys.map V.ref) → (∀ kv, o ≠ .dK kv) → upd (upd (upd (upd (upd H A.sh (.lst (A.ps.map V.ref ++ [V.ref p]))) A.el (.lst (D.eld.map V.int ++ [V.int e]))) y (.lst [])) A.yg (.lst (A.ys.map V.ref ++ [V.ref y]))) A.kn (.dK (kvsOf (D.shs ++ [s]))) z = some o := fun z o hz o1 o2 o3 o4 => by
    have a1 : z ≠ A.sh := ne_of hz hsh o1
    have a2 : z ≠ A.el := ne_of hz hel o2
    have a3 : z ≠ A.yg := ne_of hz hyg o3
    have a4 : z ≠ A.kn := ne_of hz hkn (o4 _)
    have a5 : z ≠ y := neN fy hz
    walk_at "hp"
  have h1 := nsz _ _ ht (by intro z; cases z) (by intro z; cases z) (by intro z; cases z) (by intro kv z; cases z)
  have h8 : ∀ q s', ShAt cls H q s' → _ := fun q s' h => show ShAt cls _ q s' from ⟨h.choose, nsz _ _ h.choose_spec (by intro z; cases z) (by intro z; cases z) (by intro z; cases z) (by intro kv z; cases z)⟩
  have h10 : Out A.foot H (upd (upd (upd (upd (upd H A.sh (.lst (A.ps.map V.ref ++ [V.ref p]))) A.el (.lst (D.eld.map V.int ++ [V.int e]))) y (.lst [])) A.yg (.lst (A.ys.map V.ref ++ [V.ref y]))) A.kn (.dK (kvsOf (D.shs ++ [s])))) := fun b u hb hu => by
    simp only [TA.foot, List.mem_cons, not_or] at hb
    obtain ⟨_, b1, b2, b3, b4, _⟩ := hb
    have b5 : b ≠ y := neN fy hu
    walk_at "hp"
  have h6 : ∀ i z, A.ys[i]? = some z → upd (upd (upd (upd (upd H A.sh (.lst (A.ps.map V.ref ++ [V.ref p]))) A.el (.lst (D.eld.map V.int ++ [V.int e]))) y (.lst [])) A.yg (.lst (A.ys.map V.ref ++ [V.ref y]))) A.kn (.dK (kvsOf (D.shs ++ [s]))) z = some (.lst ((yngOf D.eld i).map fun j : Nat => V.int j)) := fun i z hz => by
    have mz := List.mem_of_getElem? hz
    have hz := R.hys i z hz
    have a1 : z ≠ A.sh := fun e => n_sh_ys (e ▸ mz)
    have a2 : z ≠ A.el := fun e => n_el_ys (e ▸ mz)
    have a3 : z ≠ A.yg := fun e => n_yg_ys (e ▸ mz)
    have a4 : z ≠ A.kn := ne_of hz hkn (by intro z; cases z)
    have a5 : z ≠ y := neN fy hz
    walk_at "hp"
  have h2 : upd (upd (upd (upd (upd H A.sh (.lst (A.ps.map V.ref ++ [V.ref p]))) A.el (.lst (D.eld.map V.int ++ [V.int e]))) y (.lst [])) A.yg (.lst (A.ys.map V.ref ++ [V.ref y]))) A.kn (.dK (kvsOf (D.shs ++ [s]))) A.sh = some (.lst (A.ps.map V.ref ++ [V.ref p])) := by walk_at "hp"
  have h3 : upd (upd (upd (upd (upd H A.sh (.lst (A.ps.map V.ref ++ [V.ref p]))) A.el (.lst (D.eld.map V.int ++ [V.int e]))) y (.lst [])) A.yg (.lst (A.ys.map V.ref ++ [V.ref y]))) A.kn (.dK (kvsOf (D.shs ++ [s]))) A.el = some (.lst (D.eld.map V.int ++ [V.int e])) := by walk_at "hp"
  have h4 : upd (upd (upd (upd (upd H A.sh (.lst (A.ps.map V.ref ++ [V.ref p]))) A.el (.lst (D.eld.map V.int ++ [V.int e]))) y (.lst [])) A.yg (.lst (A.ys.map V.ref ++ [V.ref y]))) A.kn (.dK (kvsOf (D.shs ++ [s]))) A.yg = some (.lst (A.ys.map V.ref ++ [V.ref y])) := by walk_at "hp"
  have h7 : upd (upd (upd (upd (upd H A.sh (.lst (A.ps.map V.ref ++ [V.ref p]))) A.el (.lst (D.eld.map V.int ++ [V.int e]))) y (.lst [])) A.yg (.lst (A.ys.map V.ref ++ [V.ref y]))) A.kn (.dK (kvsOf (D.shs ++ [s]))) y = some (.lst []) := by walk_at "hp"
  have h5 : upd (upd (upd (upd (upd H A.sh (.lst (A.ps.map V.ref ++ [V.ref p]))) A.el (.lst (D.eld.map V.int ++ [V.int e]))) y (.lst [])) A.yg (.lst (A.ys.map V.ref ++ [V.ref y]))) A.kn (.dK (kvsOf (D.shs ++ [s]))) A.kn = some (.dK (kvsOf (D.shs ++ [s]))) := by walk_at "hp"
  generalize upd (upd (upd (upd (upd H A.sh (.lst (A.ps.map V.ref ++ [V.ref p]))) A.el (.lst (D.eld.map V.int ++ [V.int e]))) y (.lst [])) A.yg (.lst (A.ys.map V.ref ++ [V.ref y]))) A.kn (.dK (kvsOf (D.shs ++ [s]))) = Hm at h1 h2 h3 h4 h5 h6 h7 h8 h10 ⊢
  -- behind the branch
  have fin : ∀ H', (∀ b u, b ∉ A.ys → Hm b = some u → H' b = some u) → (∀ i z, A.ys[i]? = some z → H' z = some (.lst ((yngOf (D.eld ++ [e]) i).map fun j : Nat => V.int j))) → Q (.int (D.n : Int)) H' := fun H' hk hy' => by
    have ly : y ∉ A.ys := fun m => n_ys_y y m rfl
    have nq : ∀ q s', ShAt cls H q s' → q ∉ A.ys := fun q s' h m => by
      obtain ⟨i, hi, e⟩ := List.getElem_of_mem m
      have := R.hys i q (by rw [List.getElem?_eq_getElem hi, e])
      rw [h.choose_spec] at this
      cases this
    have nt : A.t ∉ A.ys := fun m => by
      obtain ⟨i, hi, e⟩ := List.getElem_of_mem m
      have := R.hys i _ (by rw [List.getElem?_eq_getElem hi, e])
      rw [ht] at this
      cases this
    have nkn : A.kn ∉ A.ys := fun m => by
      obtain ⟨i, hi, e⟩ := List.getElem_of_mem m
      have := R.hys i _ (by rw [List.getElem?_eq_getElem hi, e])
      rw [hkn] at this
      cases this
    refine q ⟨A.t, A.dx, A.sh, A.el, A.yg, A.kn, A.ys ++ [y], A.ps ++ [p]⟩ H' rfl ⟨⟨hk _ _ nt h1, ?_, ?_, fun i q' hq => ?_, ?_, ?_, ?_, fun i z hz => ?_, hk _ _ nkn h5⟩, ?_⟩ (fun b u hb hu => ?_) (fun b hb => ?_)
    · rw [List.map_append]
      exact hk _ _ n_sh_ys h2
    · show (A.ps ++ [p]).length = (D.shs ++ [s]).length
      rw [List.length_append, List.length_append, lps]
      rfl
    · have hq : (A.ps ++ [p])[i]? = some q' := hq
      show ShAt cls H' q' ((D.shs ++ [s]).getD i default)
      by_cases hi : i < A.ps.length
      · rw [List.getElem?_append_left hi] at hq
        have a := h8 _ _ (R.hps i q' hq)
        rw [List.getD_eq_getElem?_getD, List.getElem?_append_left (by rw [lps] at hi; exact hi), ← List.getD_eq_getElem?_getD]
        exact ⟨a.choose, hk _ _ (nq _ _ (R.hps i q' hq)) a.choose_spec⟩
      · have hi2 : i = A.ps.length := by
          have := (List.getElem?_eq_some_iff.mp hq).choose
          rw [List.length_append, List.length_singleton] at this
          omega
        subst hi2
        rw [List.getElem?_append_right (Nat.le_refl _), Nat.sub_self] at hq
        obtain rfl : p = q' := Option.some.inj hq
        have a := h8 p s ⟨_, hp⟩
        have e2 : (D.shs ++ [s]).getD A.ps.length default = s := by
          rw [List.getD_eq_getElem?_getD, List.getElem?_append_right (by rw [lps]; exact Nat.le_refl _), show A.ps.length - D.shs.length = 0 by rw [lps]; exact Nat.sub_self _]
          rfl
        rw [e2]
        exact ⟨a.choose, hk _ _ (nq _ _ ⟨_, hp⟩) a.choose_spec⟩
    · show H' A.el = some (.lst ((D.eld ++ [e]).map V.int))
      rw [List.map_append]
      exact hk _ _ n_el_ys h3
    · rw [List.map_append]
      exact hk _ _ n_yg_ys h4
    · show (A.ys ++ [y]).length = (D.shs ++ [s]).length
      rw [List.length_append, List.length_append, lys]
      rfl
    · have hz : (A.ys ++ [y])[i]? = some z := hz
      by_cases hi : i < A.ys.length
      · rw [List.getElem?_append_left hi] at hz
        exact hy' i z hz
      · have hi2 : i = A.ys.length := by
          have := (List.getElem?_eq_some_iff.mp hz).choose
          rw [List.length_append, List.length_singleton] at this
          omega
        subst hi2
        rw [List.getElem?_append_right (Nat.le_refl _), Nat.sub_self] at hz
        obtain rfl : y = z := Option.some.inj hz
        have e3 : yngOf (D.eld ++ [e]) A.ys.length = [] := by
          rw [yng_add, if_neg (by rw [lys]; omega), List.append_nil, List.eq_nil_iff_forall_not_mem]
          intro j hj
          obtain ⟨a1, a2⟩ := yng_lt hj
          have := W.el j (by omega)
          unfold TreeD.e at this
          rw [a2, lys] at this
          omega
        show H' y = some (.lst ((yngOf (D.eld ++ [e]) A.ys.length).map fun j : Nat => V.int j))
        rw [e3]
        exact hk _ _ ly h7
    · have n_y_sh := n_sh_y.symm
      have n_y_el := n_el_y.symm
      simp only [List.nodup_cons, List.mem_cons, not_or, List.mem_append, List.not_mem_nil, or_false, List.nodup_append]
      refine ⟨⟨n_sh_el, n_sh_yg, n_sh_ys, n_sh_y⟩, ⟨n_el_yg, n_el_ys, n_el_y⟩, ⟨n_yg_ys, n_yg_y⟩, n_ys, by simp, fun a ha b hb => ?_⟩
      subst hb
      exact n_ys_y a ha
    · have m : b ∉ A.ys := fun m => hb (by simp only [TA.foot, List.mem_cons]; exact .inr (.inr (.inr (.inr (.inr m)))))
      exact hk b u m (h10 b u hb hu)
    · simp only [TA.foot, List.mem_cons, List.mem_append, List.not_mem_nil, or_false] at hb ⊢
      rcases hb with h | h | h | h | h | h | h
      · exact .inl (.inl h)
      · exact .inl (.inr (.inl h))
      · exact .inl (.inr (.inr (.inl h)))
      · exact .inl (.inr (.inr (.inr (.inl h))))
      · exact .inl (.inr (.inr (.inr (.inr (.inl h)))))
      · exact .inl (.inr (.inr (.inr (.inr (.inr h)))))
      · exact .inr (h ▸ fy)
  refine w_cut (fun σ H' => ∃ n : Nat, σ = [some (.ref A.t), some (.ref p), some (.int e), some (.int (n : Int))] ∧ n = D.n ∧ (∀ b u, b ∉ A.ys → Hm b = some u → H' b = some u) ∧ (∀ i z, A.ys[i]? = some z → H' z = some (.lst ((yngOf (D.eld ++ [e]) i).map fun j : Nat => V.int j)))) ?_ (fun σ H' hm => ?_)
  · walk_at "rd"
    walk_at "if"
    all_goals rename_i c
    all_goals walk_at "rd"
    · have he : 0 ≤ e ∧ e < D.n := by omega
      obtain ⟨i, rfl⟩ : ∃ i : Nat, e = (i : Int) := ⟨e.toNat, by omega⟩
      have hi : i < A.ys.length := by omega
      have hz : A.ys[i]? = some A.ys[i] := List.getElem?_eq_getElem hi
      generalize A.ys[i] = z at hz
      have mz := List.mem_of_getElem? hz
      refine w_ixL (v := .ref z) (SqL.of h4) (at_nat (i := i) rfl (by rw [List.getElem?_append_left (by rw [List.length_map]; exact hi), List.getElem?_map, hz]; rfl)) ?_
      refine w_tyL (SqL.of (h6 i z hz)) ?_
      walk_at "rd"
      have hyl : ((yngOf D.eld i).map fun j : Nat => V.int j).length < PySem.sizeLine := by
        have a1 : (yngOf D.eld i).length ≤ D.eld.length := by
          unfold yngOf
          exact Nat.le_trans (List.length_filter_le _ _) (by rw [List.length_range]; exact Nat.le_refl _)
        have := PySem.sizeLine_eq
        rw [List.length_map]
        omega
      refine w_app (h6 i z hz) hyl ?_
      walk_at "rd"
      refine ⟨_, rfl, rfl, fun b u hb hu => ?_, fun k z' hk' => ?_⟩
      · have : b ≠ z := fun e => hb (e ▸ mz)
        walk_at "hp"
      · rw [yng_add]
        by_cases e : z' = z
        · subst e
          have : k = i := by
            have hi2 : k < A.ys.length := (List.getElem?_eq_some_iff.mp hk').choose
            exact (List.getElem?_inj hi2 n_ys).mp (hk'.trans hz.symm)
          subst this
          rw [upd_same, if_pos rfl, List.map_append, le]
          rfl
        · have : ¬ ((i : Int) = (k : Int)) := fun h => by
            have h : i = k := by omega
            subst h
            exact e (Option.some.inj (hk'.symm.trans hz))
          rw [upd_ne e, if_neg this, List.append_nil]
          exact h6 k z' hk'
    · refine ⟨_, rfl, rfl, fun b u hb hu => hu, fun k z hk' => ?_⟩
      rw [yng_add, if_neg (by omega), List.append_nil]
      exact h6 k z hk'
  · obtain ⟨n, rfl, rfl, hk', hy'⟩ := hm
    walk_at "rd"
    exact fin _ hk' hy'
end
end Mn

namespace Mn
open PySem PySem.Spec PyProof.Rows L2 TL
/-! ### what is read of a tree -/
theorem ShAt.same {cls : Nat → Addr} {H H' : Hp} {p : Addr} {s : Shp} (e : Same H H') (h : ShAt cls H p s) : ShAt cls H' p s := ⟨h.choose, e _ _ h.choose_spec⟩
theorem TR.same {CT : Addr} {cls : Nat → Addr} {A : TA} {D : TreeD} {H H' : Hp} (e : Same H H') (R : TR CT cls A D H) : TR CT cls A D H' :=
  ⟨e _ _ R.ht, e _ _ R.hsh, R.lps, fun i p h => (R.hps i p h).same e, e _ _ R.hel, e _ _ R.hyg, R.lys, fun i y h => e _ _ (R.hys i y h), e _ _ R.hkn⟩
theorem TRm.same {CT : Addr} {cls : Nat → Addr} {A : TA} {D : TreeD} {H H' : Hp} (e : Same H H') (R : TRm CT cls A D H) : TRm CT cls A D H' := { R.toTR.same e with nd := R.nd }
/-- the minder above a row that stands so deep: -1 the top's, -2 none -/
def climb (D : TreeD) (deep : Int) : Nat → Int → Int
  | 0, j => j
  | f + 1, j => if 0 ≤ j ∧ deep ≤ (D.dp j.toNat : Int) then climb D deep f (D.e j.toNat) else j
def elderM (D : TreeD) (deep : Int) : Int :=
  if deep = 0 then (if D.n = 0 then -1 else -2) else if D.n = 0 then -2 else
  if climb D deep (D.n + 1) ((D.n : Int) - 1) < 0 then -2 else
  if (D.dp (climb D deep (D.n + 1) ((D.n : Int) - 1)).toNat : Int) ≠ deep - 1 ∨ (D.sh (climb D deep (D.n + 1) ((D.n : Int) - 1)).toNat).kind < 3 then -2 else climb D deep (D.n + 1) ((D.n : Int) - 1)
theorem TreeD.WF.e_lt {D : TreeD} (W : D.WF) {i : Nat} (h : i < D.n) : -1 ≤ D.e i ∧ D.e i < i := by
  have := W.el i h
  omega
theorem climb_more {D : TreeD} (W : D.WF) (deep : Int) : ∀ (f : Nat) (j : Int), -1 ≤ j → j < D.n → j < (f : Int) → ∀ g, f ≤ g → climb D deep g j = climb D deep f j
  | 0, j, h0, hn, hf, g, hg => by
    have : j = -1 := by omega
    subst this
    cases g with
    | zero => rfl
    | succ g =>
      show climb D deep (g + 1) (-1) = -1
      unfold climb
      exact if_neg (fun z => absurd z.1 (by decide))
  | f + 1, j, h0, hn, hf, g, hg => by
    cases g with
    | zero => omega
    | succ g =>
      rw [climb, climb]
      split
      · rename_i c
        have := W.e_lt (i := j.toNat) (by omega)
        exact climb_more W deep f _ (by omega) (by omega) (by omega) g (by omega)
      · rfl
section
variable {P : Program} {w : World} {K : PySem.W.Frag} {mg : Str → Option Value} {base : Heap}
def spDepth (CT : Addr) (cls : Nat → Addr) : Sp := fun vs H Q _ => ∃ (A : TA) (D : TreeD) (i : Nat), vs = [.ref A.t, .int (i : Int)] ∧ TR CT cls A D H ∧ D.WF ∧ i < D.n ∧ Q (.int (D.dp i : Int)) H
theorem atE {D : TreeD} {i : Nat} (W : D.WF) (h : i < D.n) : (D.eld.map V.int)[i]? = some (.int (D.e i)) := by
  rw [List.getElem?_map, List.getElem?_eq_getElem (by rw [W.le]; exact h)]
  unfold TreeD.e
  rw [List.getD_eq_getElem?_getD, List.getElem?_eq_getElem (by rw [W.le]; exact h)]
  rfl
theorem ok_depth {CT : Addr} {cls : Nat → Addr} {f : Addr} {fd : FuncData} (F : Fun K "depth" "Tree.depth" s_Tree_depth f fd) (cT : ClsF K CT treeN) : FnOk P w K mg base CX0 1 f fd ["self", "at"] (spDepth CT cls) := by
  refine F.ok sc_Tree_depth (fun vs H Q E h => ?_) (fun cdv A outer s H vs Q E hr h => ?_)
  · obtain ⟨A, D, i, rfl, _⟩ := h
    rfl
  obtain ⟨A, D, i, rfl, R, W, hi, q⟩ := h
  have ht := R.ht
  unfold treeF at ht
  have hel := R.hel
  refine ⟨_, (pss_cons (ps_set (i := 2) sc_Tree_depth.nd rfl (Or.inl rfl) pe_int)
    (pss_cons (ps_while PassesOwn.never (pt_cmpR op_ge (pe_ix (kIxL (K := K) rfl) (kFld (K := K) rfl (pv 0)) (pv 1) (fun _ _ => rfl)) pe_int (nomark _)) (pss_cons (ps_set (i := 1) sc_Tree_depth.nd rfl (Or.inl rfl) (pe_ix (kIxL (K := K) rfl) (kFld (K := K) rfl (pv 0)) (pv 1) (fun _ _ => rfl)))
    (pss_one (ps_aug (i := 2) sc_Tree_depth.nd rfl (Or.inl rfl) pe_int ip_add))))
    (pss_one (ps_ret (pv 2))))), ?_⟩
  walk_at "rd"
  refine ⟨fun m σ H' => ∃ j st : Nat, σ = [some (.ref A.t), some (.int (j : Int)), some (.int (st : Int))] ∧ H = H' ∧ j < D.n ∧ st + D.dp j = D.dp i ∧ m = j, ⟨_, i, 0, rfl, rfl, hi, Nat.zero_add _, rfl⟩, fun m σ H' hm => ?_⟩
  obtain ⟨j, st, rfl, rfl, hj, hs, rfl⟩ := hm
  have el := W.el m hj
  have dp := W.dp m hj
  walk_at "rd"
  refine w_ixL (SqL.of hel) (at_nat (i := m) rfl (atE W hj)) ?_
  walk_at "rd"
  walk_at "if"
  · rename_i c
    rw [if_neg (by omega)] at dp
    refine ⟨fun σ H' => ∃ m' : Nat, m' < m ∧ ∃ j st : Nat, σ = [some (.ref A.t), some (.int (j : Int)), some (.int (st : Int))] ∧ H = H' ∧ j < D.n ∧ st + D.dp j = D.dp i ∧ m' = j, fun σ' H' h => h, ?_⟩
    walk_at "rd"
    refine w_ixL (SqL.of hel) (at_nat (i := m) rfl (atE W hj)) ?_
    walk_at "rd"
    refine ⟨(D.e m).toNat, by omega, (D.e m).toNat, st + 1, ?_, rfl, by omega, by omega, rfl⟩
    rw [show (((D.e m).toNat : Nat) : Int) = D.e m by omega]
    rfl
  · rename_i c
    rw [if_pos (by omega)] at dp
    walk_at "rd"
    rw [dp, Nat.add_zero] at hs
    rw [hs]
    exact q
def spElder (CT : Addr) (cls : Nat → Addr) : Sp := fun vs H Q _ => ∃ (A : TA) (D : TreeD) (deep : Int), vs = [.ref A.t, .int deep] ∧ TR CT cls A D H ∧ D.WF ∧ 0 ≤ deep ∧ ∀ H', Same H H' → Q (.int (elderM D deep)) H'
theorem ok_elder {CT : Addr} {cls : Nat → Addr} {f : Addr} {fd : FuncData} (F : Fun K "elder_at" "elder_at" s_elder_at f fd) (T : Bt mg) (cT : ClsF K CT treeN) (kc : KdC K cls) (kl : KdL P w K mg base cls) (MD : Mth P w K mg base CX0 CT "depth" 1 ["self", "at"] [] (spDepth CT cls)) :
    FnOk P w K mg base CX0 2 f fd ["tree", "deep"] (spElder CT cls) := by
  refine F.ok sc_elder_at (fun vs H Q E h => ?_) (fun cdv A outer s H vs Q E hr h => ?_)
  · obtain ⟨A, D, deep, rfl, _⟩ := h
    rfl
  obtain ⟨A, D, deep, rfl, R, W, hd, q⟩ := h
  have ht := R.ht
  unfold treeF at ht
  have hel := R.hel
  have hsh := R.hsh
  have lps := R.lps
  have hsz := W.sz
  refine ⟨_, (pss_cons (ps_if (pt_cmpR op_eq (pv 1) pe_int (nomark _)) (pss_cons (ps_if (pt_cmpR (op_eqE hr.units) (kFld (K := K) rfl (pv 0)) (pe_lst pa_nil) (nomark _)) (pss_one (ps_ret (pe_un un_neg pe_int))) pss_nil)
    (pss_one (ps_ret (pe_un un_neg pe_int)))) pss_nil)
    (pss_cons (ps_if (pt_cmpR (op_eqE hr.units) (kFld (K := K) rfl (pv 0)) (pe_lst pa_nil) (nomark _)) (pss_one (ps_ret (pe_un un_neg pe_int))) pss_nil)
    (pss_cons (ps_set (i := 2) sc_elder_at.nd rfl (Or.inl rfl) (pe_op op_sub (pe_callB (kLenL (K := K) rfl) (by rfl) T.len (by decide +kernel) (pa_cons (kFld (K := K) rfl (pv 0)) pa_nil)) pe_int))
    (C8.pss_cut (ps_while PassesOwn.never (PW.pt (pw_and (pt_cmpR op_ge (pv 2) pe_int (nomark _)) (pw_and1 (pt_cmpR op_ge (pe_ma (P := P) (w := w) (K := K) (mg := mg) (base := base) ⟨rfl, rfl, rfl, rfl, rfl⟩ hr (pv 0) (pa_cons (pv 2) pa_nil)) (pv 1) (nomark _))))) (pss_one (ps_set (i := 2) sc_elder_at.nd rfl (Or.inl rfl) (pe_ix (kIxL (K := K) rfl) (kFld (K := K) rfl (pv 0)) (pv 2) (fun _ _ => rfl)))))
    (pss_cons (ps_if (PW.pt (pw_or (pt_cmpR op_lt (pv 2) pe_int (nomark _)) (pw_or (pt_cmpR op_ne (pe_ma (P := P) (w := w) (K := K) (mg := mg) (base := base) ⟨rfl, rfl, rfl, rfl, rfl⟩ hr (pv 0) (pa_cons (pv 2) pa_nil)) (pe_op op_sub (pv 1) pe_int) (nomark _)) (pw_or1 (pt_val (pe_ma0 (P := P) (w := w) (K := K) (mg := mg) (base := base) ⟨rfl, rfl, rfl, rfl, rfl⟩ hr (pe_ix (kIxL (K := K) rfl) (kFld (K := K) rfl (pv 0)) (pv 2) (fun _ _ => rfl)))))))) (pss_one (ps_ret (pe_un un_neg pe_int))) pss_nil)
    (pss_one (ps_ret (pv 2)))))))), ?_⟩
  have em : (A.ps.map V.ref).isEmpty = decide (D.n = 0) := by
    rw [← lps]
    cases A.ps <;> rfl
  have fin : ∀ v H', v = elderM D deep → Same H H' → Q (.int v) H' := fun v H' e s => by rw [e]; exact q H' s
  walk_at "rd"
  walk_at "if"
  · rename_i c
    have c := V.int.inj c
    subst c
    walk_at "rd"
    refine ⟨Nat.zero_le _, fun b hb => ?_⟩
    have s1 := same_new hb (.lst [])
    walk_at "rd"
    rw [em]
    walk_at "if"
    all_goals rename_i c2
    all_goals walk_at "rd"
    · refine fin _ _ ?_ s1
      unfold elderM
      rw [if_pos rfl, if_pos c2]
    · refine fin _ _ ?_ s1
      unfold elderM
      rw [if_pos rfl, if_neg c2]
  rename_i c
  have c : ¬ deep = 0 := fun e => c (congrArg V.int e)
  walk_at "rd"
  refine ⟨Nat.zero_le _, fun b hb => ?_⟩
  have s1 := same_new hb (.lst [])
  walk_at "rd"
  rw [em]
  have R := R.same s1
  have ht := s1 _ _ ht
  have hel := s1 _ _ hel
  have hsh := s1 _ _ hsh
  generalize upd H b (.lst []) = H1 at s1 R ht hel hsh ⊢
  walk_at "if"
  · rename_i c2
    walk_at "rd"
    refine fin _ _ ?_ s1
    unfold elderM
    rw [if_neg c, if_pos c2]
  rename_i c2
  walk_at "rd"
  rw [List.length_map, lps]
  obtain ⟨n, en⟩ : ∃ n, D.n = n + 1 := ⟨D.n - 1, by omega⟩
  refine w_cut (fun σ H' => ∃ j : Int, σ = [some (.ref A.t), some (.int deep), some (.int j)] ∧ H1 = H' ∧ -1 ≤ j ∧ j < D.n ∧ j = climb D deep (D.n + 1) ((D.n : Int) - 1)) ?_ (fun σ H' hm => ?_)
  · refine ⟨fun m σ H' => ∃ j : Int, σ = [some (.ref A.t), some (.int deep), some (.int j)] ∧ H1 = H' ∧ -1 ≤ j ∧ j < D.n ∧ climb D deep (D.n + 1) j = climb D deep (D.n + 1) ((D.n : Int) - 1) ∧ m = (j + 1).toNat, ⟨_, _, rfl, rfl, by omega, by omega, rfl, rfl⟩, fun m σ H' hm => ?_⟩
    obtain ⟨j, rfl, rfl, j0, jn, ej, rfl⟩ := hm
    walk_at "rd"
    by_cases cj : 0 ≤ j
    · rw [decide_eq_true cj]
      obtain ⟨k, rfl⟩ : ∃ k : Nat, j = (k : Int) := ⟨j.toNat, by omega⟩
      have hk : k < D.n := by omega
      walk_at "rd"
      refine w_ma1 ht cT.cl rfl MD (by decide) ?_
      walk_at "rd"
      refine ⟨A, D, k, rfl, R, W, hk, ?_⟩
      walk_at "rd"
      walk_at "if"
      · rename_i c3
        refine ⟨fun σ H' => ∃ m' : Nat, m' < ((k : Int) + 1).toNat ∧ ∃ j : Int, σ = [some (.ref A.t), some (.int deep), some (.int j)] ∧ H1 = H' ∧ -1 ≤ j ∧ j < D.n ∧ climb D deep (D.n + 1) j = climb D deep (D.n + 1) ((D.n : Int) - 1) ∧ m' = (j + 1).toNat, fun σ' H' h => h, ?_⟩
        walk_at "rd"
        refine w_ixL (SqL.of hel) (at_nat (i := k) rfl (atE W hk)) ?_
        walk_at "rd"
        have := W.e_lt hk
        refine ⟨(D.e k + 1).toNat, by omega, D.e k, rfl, rfl, by omega, by omega, ?_, rfl⟩
        rw [← ej]
        have e2 := climb_more W deep D.n (D.e k) (by omega) (by omega) (by omega) (D.n + 1) (by omega)
        rw [e2]
        show _ = climb D deep (D.n + 1) (k : Int)
        rw [climb, if_pos ⟨by omega, by rw [Int.toNat_natCast]; exact c3⟩, Int.toNat_natCast]
      · rename_i c3
        walk_at "rd"
        refine ⟨k, rfl, rfl, by omega, by omega, ?_⟩
        rw [← ej, climb, if_neg (by rw [Int.toNat_natCast]; exact fun z => c3 z.2)]
    · rw [decide_eq_false cj]
      walk_at "rd"
      refine ⟨j, rfl, rfl, by omega, by omega, ?_⟩
      rw [← ej, climb, if_neg (fun z => cj z.1)]
  obtain ⟨j, rfl, rfl, j0, jn, ej⟩ := hm
  have un : elderM D deep = if j < 0 then -2 else if (D.dp j.toNat : Int) ≠ deep - 1 ∨ (D.sh j.toNat).kind < 3 then -2 else j := by
    rw [ej]
    unfold elderM
    rw [if_neg c, if_neg c2]
  walk_at "rd"
  by_cases cj : j < 0
  · rw [decide_eq_true cj]
    walk_at "rd"
    refine fin _ _ ?_ s1
    rw [un, if_pos cj]
  rw [decide_eq_false cj]
  rw [if_neg cj] at un
  obtain ⟨k, rfl⟩ : ∃ k : Nat, j = (k : Int) := ⟨j.toNat, by omega⟩
  rw [Int.toNat_natCast] at un
  have hk : k < D.n := by omega
  walk_at "rd"
  refine w_ma1 ht cT.cl rfl MD (by decide) ?_
  walk_at "rd"
  refine ⟨A, D, k, rfl, R, W, hk, ?_⟩
  walk_at "rd"
  by_cases cd : (D.dp k : Int) = deep - 1
  case neg =>
    rw [decide_eq_false (fun z => cd (V.int.inj z)), Bool.not_false]
    walk_at "rd"
    refine fin _ _ ?_ s1
    rw [un, if_pos (.inl cd)]
  rw [decide_eq_true (congrArg V.int cd), Bool.not_true]
  walk_at "rd"
  have hp : A.ps[k]? = some A.ps[k] := List.getElem?_eq_getElem (by omega)
  generalize A.ps[k] = p at hp
  have hs := R.hps k p hp
  obtain ⟨dx, hs⟩ := hs
  have ok : OkS (D.sh k) := W.ok _ (by unfold TreeD.sh; rw [List.getD_eq_getElem?_getD, List.getElem?_eq_getElem hk]; exact List.getElem_mem hk)
  refine w_ixL (v := .ref p) (SqL.of hsh) (at_nat (i := k) rfl (by rw [List.getElem?_map, hp]; rfl)) ?_
  refine w_ma1 hs (kc.cf _ ok.kd).cl (fld_leaf _) (kl.leaf _ ok.kd) (by decide) ?_
  walk_at "rd"
  refine ⟨p, dx, _, rfl, hs, ?_⟩
  walk_at "rd"
  walk_at "if"
  all_goals rename_i c3
  all_goals walk_at "rd"
  · refine fin _ _ ?_ s1
    rw [un, if_pos (.inr c3)]
  · refine fin _ _ ?_ s1
    rw [un, if_neg (fun z => z.elim (fun z => z cd) c3)]
end
end Mn

namespace Mn
open PySem PySem.Spec PyProof.Rows L2 TL
/-! ### what a row's words tell -/
def numM (x : Str) : Option Int := match numOf x with
  | some v => if v ≤ 1000000 then some v else none
  | none => none
def wAt (ws : List Str) (i : Nat) : Str := ws.getD i ""
/-- none: NoNumber; some none: None -/
def leafR (ws : List Str) : Option (Option Shp) :=
  match numM (wAt ws 2) with
  | none => none
  | some g => match numM (wAt ws 3) with
    | none => none
    | some s =>
      if wAt ws 4 = "idle" ∧ ws.length = 6 then some (some ⟨0, wAt ws 5, wAt ws 1, g, s, 0⟩)
      else if ws.length = 7 ∧ (wAt ws 4 = "steady" ∨ wAt ws 4 = "falls") then
        match numM (wAt ws 5) with
        | none => none
        | some m => some (some ⟨if wAt ws 4 = "steady" then 1 else 2, wAt ws 6, wAt ws 1, g, s, m⟩)
      else some none
def minderR (ws : List Str) : Option (Option Shp) :=
  match numM (wAt ws 3) with
  | none => none
  | some m => match numM (wAt ws 4) with
    | none => none
    | some s =>
      if s = 0 then some none
      else if wAt ws 2 = "one" then some (some ⟨3, wAt ws 5, wAt ws 1, m, s, 0⟩)
      else if wAt ws 2 = "all" then some (some ⟨4, wAt ws 5, wAt ws 1, m, s, 0⟩)
      else if wAt ws 2 = "rest" then some (some ⟨5, wAt ws 5, wAt ws 1, m, s, 0⟩)
      else some none
def shapeM (ws : List Str) : Option Shp :=
  if ws.length < 6 ∨ wAt ws 1 ∉ keeps3 ∨ fitL (tl (wAt ws (ws.length - 1))) = false then none
  else if wAt ws 0 = "leaf" then (leafR ws).join
  else if wAt ws 0 = "minder" ∧ ws.length = 6 then (minderR ws).join
  else none
def ShV (cls : Nat → Addr) (r : Option Shp) (v : V) (H : Hp) : Prop := match r with
  | none => v = .non
  | some s => ∃ p, v = .ref p ∧ ShAt cls H p s
section
variable {P : Program} {w : World} {K : PySem.W.Frag} {mg : Str → Option Value} {base : Heap}
def spBy (K : PySem.W.Frag) (cls : Nat → Addr) (CN : Addr) (R : List Str → Option (Option Shp)) : Sp := fun vs H Q E => ∃ (a : Addr) (ws : List Str), vs = [.ref a] ∧ SqL K H a (ws.map V.str) ∧ 6 ≤ ws.length ∧ (∀ x ∈ ws, x.length ≤ 640) ∧ (R ws = none → E (.ref CN) none H) ∧
  ∀ r v H', R ws = some r → Same H H' → ShV cls r v H' → Q v H'
theorem wAt_at {ws : List Str} {i : Nat} (h : i < ws.length) : (ws.map V.str)[i]? = some (.str (wAt ws i)) := by
  unfold wAt
  rw [List.getElem?_map, List.getD_eq_getElem?_getD, List.getElem?_eq_getElem h]
  rfl
theorem wAt_mem {ws : List Str} {i : Nat} (h : i < ws.length) : wAt ws i ∈ ws := by
  unfold wAt
  rw [List.getD_eq_getElem?_getD, List.getElem?_eq_getElem h]
  exact List.getElem_mem h
theorem num_yes {x : Str} {v : Int} (h : numOf x = some v) (l : v ≤ 1000000) : numM x = some v := by
  unfold numM
  rw [h]
  exact if_pos l
theorem num_no {x : Str} (h : ∀ v, numOf x = some v → ¬ v ≤ 1000000) : numM x = none := by
  unfold numM
  cases e : numOf x with
  | none => rfl
  | some v => exact if_neg (h v e)
theorem ok_leaf_by {cls : Nat → Addr} {CN f : Addr} {fd : FuncData} (F : Fun K "leaf_by" "leaf_by" s_leaf_by f fd) (T : Bt mg) (kc : KdC K cls) (CM : Cal P w K mg base (CXN P w) "number_in" 1 ["text", "most"] [.int 1000000] (spNum CN))
    (L0 : Mak P w K mg base CX0 "Leaf" (cls 0) 2 ["self", "name", "keep", "grace", "slow"] [] (spLeaf K)) (L1 : Mak P w K mg base CX0 "Steady" (cls 1) 3 ["self", "name", "keep", "many", "grace", "slow"] [] (spMany K (cls 1)))
    (L2 : Mak P w K mg base CX0 "Faller" (cls 2) 3 ["self", "name", "keep", "many", "grace", "slow"] [] (spMany K (cls 2))) : FnOk P w K mg base (CXN P w) 5 f fd ["words"] (spBy K cls CN leafR) := by
  refine okN F sc_leaf_by (fun vs H Q E h => ?_) (fun cdv A outer s H vs Q E hr h => ?_)
  · obtain ⟨a, ws, rfl, _⟩ := h
    rfl
  obtain ⟨a, ws, rfl, hS, l6, hl, qe, q⟩ := h
  have lm := List.length_map (as := ws) V.str
  refine ⟨_, (pss_cons (ps_set (i := 1) sc_leaf_by.nd rfl (Or.inl rfl) (pe_cae (P := P) (w := w) (K := K) (mg := mg) (base := base) ⟨rfl, rfl, rfl, rfl, rfl⟩ hr rfl (L2N.takes_of rfl rfl rfl rfl) (pa_cons (pe_ix (kIxL (K := K) rfl) (pv 0) pe_int (fun _ _ => rfl)) pa_nil)))
    (pss_cons (ps_set (i := 2) sc_leaf_by.nd rfl (Or.inl rfl) (pe_cae (P := P) (w := w) (K := K) (mg := mg) (base := base) ⟨rfl, rfl, rfl, rfl, rfl⟩ hr rfl (L2N.takes_of rfl rfl rfl rfl) (pa_cons (pe_ix (kIxL (K := K) rfl) (pv 0) pe_int (fun _ _ => rfl)) pa_nil)))
    (C8.pss_cut (ps_if (PW.pt (pw_and (pt_cmpR op_eq (pe_ix (kIxL (K := K) rfl) (pv 0) pe_int (fun _ _ => rfl)) pe_str (nomark _)) (pw_and1 (pt_cmpR op_eq (pe_callB (kLenL (K := K) rfl) (by rfl) T.len (by decide +kernel) (pa_cons (pv 0) pa_nil)) pe_int (nomark _))))) (pss_one (ps_ret (pe_mka (P := P) (w := w) (K := K) (mg := mg) (base := base) ⟨rfl, rfl, rfl, rfl, rfl⟩ hr rfl (pa_cons (pe_ix (kIxL (K := K) rfl) (pv 0) pe_int (fun _ _ => rfl)) (pa_cons (pe_ix (kIxL (K := K) rfl) (pv 0) pe_int (fun _ _ => rfl)) (pa_cons (pv 1) (pa_cons (pv 2) pa_nil))))))) pss_nil)
    (C8.pss_cut (ps_if (PW.pt (pw_and (pt_cmpR op_eq (pe_callB (kLenL (K := K) rfl) (by rfl) T.len (by decide +kernel) (pa_cons (pv 0) pa_nil)) pe_int (nomark _)) (pw_and1 (pt_cmpR op_eq (pe_ix (kIxL (K := K) rfl) (pv 0) pe_int (fun _ _ => rfl)) pe_str (nomark _))))) (pss_one (ps_ret (pe_mka (P := P) (w := w) (K := K) (mg := mg) (base := base) ⟨rfl, rfl, rfl, rfl, rfl⟩ hr rfl (pa_cons (pe_ix (kIxL (K := K) rfl) (pv 0) pe_int (fun _ _ => rfl)) (pa_cons (pe_ix (kIxL (K := K) rfl) (pv 0) pe_int (fun _ _ => rfl)) (pa_cons (pe_cae (P := P) (w := w) (K := K) (mg := mg) (base := base) ⟨rfl, rfl, rfl, rfl, rfl⟩ hr rfl (L2N.takes_of rfl rfl rfl rfl) (pa_cons (pe_ix (kIxL (K := K) rfl) (pv 0) pe_int (fun _ _ => rfl)) pa_nil)) (pa_cons (pv 1) (pa_cons (pv 2) pa_nil)))))))) pss_nil)
    (C8.pss_cut (ps_if (PW.pt (pw_and (pt_cmpR op_eq (pe_callB (kLenL (K := K) rfl) (by rfl) T.len (by decide +kernel) (pa_cons (pv 0) pa_nil)) pe_int (nomark _)) (pw_and1 (pt_cmpR op_eq (pe_ix (kIxL (K := K) rfl) (pv 0) pe_int (fun _ _ => rfl)) pe_str (nomark _))))) (pss_one (ps_ret (pe_mka (P := P) (w := w) (K := K) (mg := mg) (base := base) ⟨rfl, rfl, rfl, rfl, rfl⟩ hr rfl (pa_cons (pe_ix (kIxL (K := K) rfl) (pv 0) pe_int (fun _ _ => rfl)) (pa_cons (pe_ix (kIxL (K := K) rfl) (pv 0) pe_int (fun _ _ => rfl)) (pa_cons (pe_cae (P := P) (w := w) (K := K) (mg := mg) (base := base) ⟨rfl, rfl, rfl, rfl, rfl⟩ hr rfl (L2N.takes_of rfl rfl rfl rfl) (pa_cons (pe_ix (kIxL (K := K) rfl) (pv 0) pe_int (fun _ _ => rfl)) pa_nil)) (pa_cons (pv 1) (pa_cons (pv 2) pa_nil)))))))) pss_nil)
    (pss_one (ps_ret pe_non))))))), ?_⟩
  have c0 := kc.cf 0 (by decide)
  walk_at "rd"
  refine w_cae CM (by decide) ?_
  walk_at "rd"
  refine w_ixL hS (at_nat (i := 2) rfl (wAt_at (by omega))) ?_
  walk_at "rd"
  refine ⟨_, _, rfl, hl _ (wAt_mem (by omega)), fun g hg lg => ?_, fun no => ?_⟩
  case refine_2 =>
    refine qe ?_
    unfold leafR
    rw [num_no no]
  have hg := num_yes hg lg
  show gName 1 (V.int g) _ _ _
  walk_at "rd"
  refine w_cae CM (by decide) ?_
  walk_at "rd"
  refine w_ixL hS (at_nat (i := 3) rfl (wAt_at (by omega))) ?_
  walk_at "rd"
  refine ⟨_, _, rfl, hl _ (wAt_mem (by omega)), fun sl hs ls => ?_, fun no => ?_⟩
  case refine_2 =>
    refine qe ?_
    unfold leafR
    rw [hg, num_no no]
  have hs := num_yes hs ls
  show gName 2 (V.int sl) _ _ _
  walk_at "rd"
  have un : leafR ws = if wAt ws 4 = "idle" ∧ ws.length = 6 then some (some ⟨0, wAt ws 5, wAt ws 1, g, sl, 0⟩)
      else if ws.length = 7 ∧ (wAt ws 4 = "steady" ∨ wAt ws 4 = "falls") then
        match numM (wAt ws 5) with
        | none => none
        | some m => some (some ⟨if wAt ws 4 = "steady" then 1 else 2, wAt ws 6, wAt ws 1, g, sl, m⟩)
      else some none := by
    unfold leafR
    rw [hg, hs]
  refine w_cut (fun σ H' => σ = [some (.ref a), some (.int g), some (.int sl)] ∧ H = H' ∧ ¬ (wAt ws 4 = "idle" ∧ ws.length = 6)) ?_ (fun σ H' hm => ?_)
  · walk_at "rd"
    refine w_ixL hS (at_nat (i := 4) rfl (wAt_at (by omega))) ?_
    walk_at "rd"
    by_cases h4 : wAt ws 4 = "idle"
    case neg =>
      rw [decide_eq_false (fun z => h4 (V.str.inj z))]
      walk_at "rd"
      exact ⟨rfl, rfl, fun z => h4 z.1⟩
    rw [decide_eq_true (congrArg V.str h4)]
    walk_at "rd"
    rw [lm]
    by_cases h6 : ws.length = 6
    case neg =>
      rw [decide_eq_false (fun z => h6 (by have := V.int.inj z; omega))]
      walk_at "rd"
      exact ⟨rfl, rfl, fun z => h6 z.2⟩
    rw [decide_eq_true (show V.int (ws.length : Int) = V.int 6 by rw [h6]; rfl)]
    walk_at "rd"
    refine w_mka L0 (by decide) ?_
    walk_at "rd"
    refine w_ixL hS (at_nat (i := 5) rfl (wAt_at (by omega))) ?_
    walk_at "rd"
    refine w_ixL hS (at_nat (i := 1) rfl (wAt_at (by omega))) ?_
    walk_at "rd"
    refine fun x dx hx hdx ne => ⟨x, _, dx, _, _, _, _, rfl, upd_same, c0, rfl, ?_⟩
    refine q (some ⟨0, wAt ws 5, wAt ws 1, g, sl, 0⟩) _ _ (un.trans (if_pos ⟨h4, h6⟩)) (same_mut (same_mut (same_new hdx _) hx) hx) ⟨x, rfl, dx, ?_⟩
    rw [upd_same]
    rfl
  obtain ⟨rfl, rfl, n1⟩ := hm
  refine w_cut (fun σ H' => σ = [some (.ref a), some (.int g), some (.int sl)] ∧ H = H' ∧ ¬ (ws.length = 7 ∧ wAt ws 4 = "steady")) ?_ (fun σ H' hm => ?_)
  · walk_at "rd"
    rw [lm]
    by_cases h7 : ws.length = 7
    case neg =>
      rw [decide_eq_false (fun z => h7 (by have := V.int.inj z; omega))]
      walk_at "rd"
      exact ⟨rfl, rfl, fun z => h7 z.1⟩
    rw [decide_eq_true (show V.int (ws.length : Int) = V.int 7 by rw [h7]; rfl)]
    walk_at "rd"
    refine w_ixL hS (at_nat (i := 4) rfl (wAt_at (by omega))) ?_
    walk_at "rd"
    by_cases h4 : wAt ws 4 = "steady"
    case neg =>
      rw [decide_eq_false (fun z => h4 (V.str.inj z))]
      walk_at "rd"
      exact ⟨rfl, rfl, fun z => h4 z.2⟩
    rw [decide_eq_true (congrArg V.str h4)]
    walk_at "rd"
    refine w_mka L1 (by decide) ?_
    walk_at "rd"
    refine w_ixL hS (at_nat (i := 6) rfl (wAt_at (by omega))) ?_
    walk_at "rd"
    refine w_ixL hS (at_nat (i := 1) rfl (wAt_at (by omega))) ?_
    walk_at "rd"
    refine w_cae CM (by decide) ?_
    walk_at "rd"
    refine w_ixL hS (at_nat (i := 5) rfl (wAt_at (by omega))) ?_
    walk_at "rd"
    refine ⟨_, _, rfl, hl _ (wAt_mem (by omega)), fun m hm lm => ?_, fun no => ?_⟩
    case refine_2 =>
      refine qe ?_
      rw [un, if_neg (fun z => by omega), if_pos ⟨h7, .inl h4⟩, num_no no]
    have hm := num_yes hm lm
    walk_at "rd"
    refine fun x dx hx hdx ne => ⟨x, dx, _, _, _, _, _, rfl, upd_same, rfl, ?_⟩
    refine q (some ⟨1, wAt ws 6, wAt ws 1, g, sl, m⟩) _ _ ?_ (same_mut (same_mut (same_new hdx _) hx) hx) ⟨x, rfl, dx, ?_⟩
    · rw [un, if_neg (fun z => by omega), if_pos ⟨h7, .inl h4⟩, hm, if_pos h4]
    · rw [upd_same]
      rfl
  obtain ⟨rfl, rfl, n2⟩ := hm
  refine w_cut (fun σ H' => σ = [some (.ref a), some (.int g), some (.int sl)] ∧ H = H' ∧ ¬ (ws.length = 7 ∧ wAt ws 4 = "falls")) ?_ (fun σ H' hm => ?_)
  · walk_at "rd"
    rw [lm]
    by_cases h7 : ws.length = 7
    case neg =>
      rw [decide_eq_false (fun z => h7 (by have := V.int.inj z; omega))]
      walk_at "rd"
      exact ⟨rfl, rfl, fun z => h7 z.1⟩
    rw [decide_eq_true (show V.int (ws.length : Int) = V.int 7 by rw [h7]; rfl)]
    walk_at "rd"
    refine w_ixL hS (at_nat (i := 4) rfl (wAt_at (by omega))) ?_
    walk_at "rd"
    by_cases h4 : wAt ws 4 = "falls"
    case neg =>
      rw [decide_eq_false (fun z => h4 (V.str.inj z))]
      walk_at "rd"
      exact ⟨rfl, rfl, fun z => h4 z.2⟩
    rw [decide_eq_true (congrArg V.str h4)]
    walk_at "rd"
    refine w_mka L2 (by decide) ?_
    walk_at "rd"
    refine w_ixL hS (at_nat (i := 6) rfl (wAt_at (by omega))) ?_
    walk_at "rd"
    refine w_ixL hS (at_nat (i := 1) rfl (wAt_at (by omega))) ?_
    walk_at "rd"
    refine w_cae CM (by decide) ?_
    walk_at "rd"
    refine w_ixL hS (at_nat (i := 5) rfl (wAt_at (by omega))) ?_
    walk_at "rd"
    refine ⟨_, _, rfl, hl _ (wAt_mem (by omega)), fun m hm lm => ?_, fun no => ?_⟩
    case refine_2 =>
      refine qe ?_
      rw [un, if_neg (fun z => by omega), if_pos ⟨h7, .inr h4⟩, num_no no]
    have hm := num_yes hm lm
    walk_at "rd"
    refine fun x dx hx hdx ne => ⟨x, dx, _, _, _, _, _, rfl, upd_same, rfl, ?_⟩
    refine q (some ⟨2, wAt ws 6, wAt ws 1, g, sl, m⟩) _ _ ?_ (same_mut (same_mut (same_new hdx _) hx) hx) ⟨x, rfl, dx, ?_⟩
    · rw [un, if_neg (fun z => by omega), if_pos ⟨h7, .inr h4⟩, hm, if_neg (fun z => by rw [z] at h4; exact absurd (congrArg tl h4) (by decide))]
    · rw [upd_same]
      rfl
  obtain ⟨rfl, rfl, n3⟩ := hm
  walk_at "rd"
  refine q none .non _ ?_ (Same.refl _) rfl
  rw [un, if_neg n1, if_neg]
  rintro ⟨h7, h4 | h4⟩
  · exact n2 ⟨h7, h4⟩
  · exact n3 ⟨h7, h4⟩
theorem ok_minder_by {cls : Nat → Addr} {CN f : Addr} {fd : FuncData} (F : Fun K "minder_by" "minder_by" s_minder_by f fd) (T : Bt mg) (kc : KdC K cls) (CM : Cal P w K mg base (CXN P w) "number_in" 1 ["text", "most"] [.int 1000000] (spNum CN))
    (L3 : Mak P w K mg base CX0 "Minder" (cls 3) 2 ["self", "name", "keep", "most", "span"] [] (spMinder K (cls 3))) (L4 : Mak P w K mg base CX0 "AllMinder" (cls 4) 2 ["self", "name", "keep", "most", "span"] [] (spMinder K (cls 4)))
    (L5 : Mak P w K mg base CX0 "RestMinder" (cls 5) 2 ["self", "name", "keep", "most", "span"] [] (spMinder K (cls 5))) : FnOk P w K mg base (CXN P w) 5 f fd ["words"] (spBy K cls CN minderR) := by
  refine okN F sc_minder_by (fun vs H Q E h => ?_) (fun cdv A outer s H vs Q E hr h => ?_)
  · obtain ⟨a, ws, rfl, _⟩ := h
    rfl
  obtain ⟨a, ws, rfl, hS, l6, hl, qe, q⟩ := h
  refine ⟨_, (pss_cons (ps_set (i := 1) sc_minder_by.nd rfl (Or.inl rfl) (pe_cae (P := P) (w := w) (K := K) (mg := mg) (base := base) ⟨rfl, rfl, rfl, rfl, rfl⟩ hr rfl (L2N.takes_of rfl rfl rfl rfl) (pa_cons (pe_ix (kIxL (K := K) rfl) (pv 0) pe_int (fun _ _ => rfl)) pa_nil)))
    (pss_cons (ps_set (i := 2) sc_minder_by.nd rfl (Or.inl rfl) (pe_cae (P := P) (w := w) (K := K) (mg := mg) (base := base) ⟨rfl, rfl, rfl, rfl, rfl⟩ hr rfl (L2N.takes_of rfl rfl rfl rfl) (pa_cons (pe_ix (kIxL (K := K) rfl) (pv 0) pe_int (fun _ _ => rfl)) pa_nil)))
    (pss_cons (ps_if (pt_cmpR op_eq (pv 2) pe_int (nomark _)) (pss_one (ps_ret pe_non)) pss_nil)
    (pss_cons (ps_if (pt_cmpR op_eq (pe_ix (kIxL (K := K) rfl) (pv 0) pe_int (fun _ _ => rfl)) pe_str (nomark _)) (pss_one (ps_ret (pe_mka (P := P) (w := w) (K := K) (mg := mg) (base := base) ⟨rfl, rfl, rfl, rfl, rfl⟩ hr rfl (pa_cons (pe_ix (kIxL (K := K) rfl) (pv 0) pe_int (fun _ _ => rfl)) (pa_cons (pe_ix (kIxL (K := K) rfl) (pv 0) pe_int (fun _ _ => rfl)) (pa_cons (pv 1) (pa_cons (pv 2) pa_nil))))))) pss_nil)
    (pss_cons (ps_if (pt_cmpR op_eq (pe_ix (kIxL (K := K) rfl) (pv 0) pe_int (fun _ _ => rfl)) pe_str (nomark _)) (pss_one (ps_ret (pe_mka (P := P) (w := w) (K := K) (mg := mg) (base := base) ⟨rfl, rfl, rfl, rfl, rfl⟩ hr rfl (pa_cons (pe_ix (kIxL (K := K) rfl) (pv 0) pe_int (fun _ _ => rfl)) (pa_cons (pe_ix (kIxL (K := K) rfl) (pv 0) pe_int (fun _ _ => rfl)) (pa_cons (pv 1) (pa_cons (pv 2) pa_nil))))))) pss_nil)
    (pss_cons (ps_if (pt_cmpR op_eq (pe_ix (kIxL (K := K) rfl) (pv 0) pe_int (fun _ _ => rfl)) pe_str (nomark _)) (pss_one (ps_ret (pe_mka (P := P) (w := w) (K := K) (mg := mg) (base := base) ⟨rfl, rfl, rfl, rfl, rfl⟩ hr rfl (pa_cons (pe_ix (kIxL (K := K) rfl) (pv 0) pe_int (fun _ _ => rfl)) (pa_cons (pe_ix (kIxL (K := K) rfl) (pv 0) pe_int (fun _ _ => rfl)) (pa_cons (pv 1) (pa_cons (pv 2) pa_nil))))))) pss_nil)
    (pss_one (ps_ret pe_non)))))))), ?_⟩
  walk_at "rd"
  refine w_cae CM (by decide) ?_
  walk_at "rd"
  refine w_ixL hS (at_nat (i := 3) rfl (wAt_at (by omega))) ?_
  walk_at "rd"
  refine ⟨_, _, rfl, hl _ (wAt_mem (by omega)), fun m hm lm => ?_, fun no => ?_⟩
  case refine_2 =>
    refine qe ?_
    unfold minderR
    rw [num_no no]
  have hm := num_yes hm lm
  show gName 1 (V.int m) _ _ _
  walk_at "rd"
  refine w_cae CM (by decide) ?_
  walk_at "rd"
  refine w_ixL hS (at_nat (i := 4) rfl (wAt_at (by omega))) ?_
  walk_at "rd"
  refine ⟨_, _, rfl, hl _ (wAt_mem (by omega)), fun sp hs ls => ?_, fun no => ?_⟩
  case refine_2 =>
    refine qe ?_
    unfold minderR
    rw [hm, num_no no]
  have hs := num_yes hs ls
  show gName 2 (V.int sp) _ _ _
  walk_at "rd"
  have un : minderR ws = if sp = 0 then some none
      else if wAt ws 2 = "one" then some (some ⟨3, wAt ws 5, wAt ws 1, m, sp, 0⟩)
      else if wAt ws 2 = "all" then some (some ⟨4, wAt ws 5, wAt ws 1, m, sp, 0⟩)
      else if wAt ws 2 = "rest" then some (some ⟨5, wAt ws 5, wAt ws 1, m, sp, 0⟩)
      else some none := by
    unfold minderR
    rw [hm, hs]
  walk_at "if"
  · rename_i c
    have c := V.int.inj c
    walk_at "rd"
    exact q none .non _ (un.trans (if_pos c)) (Same.refl _) rfl
  rename_i c0
  have c0 : ¬ sp = 0 := fun e => c0 (congrArg V.int e)
  walk_at "rd"
  refine w_ixL hS (at_nat (i := 2) rfl (wAt_at (by omega))) ?_
  walk_at "rd"
  walk_at "if"
  · rename_i c
    have c := V.str.inj c
    walk_at "rd"
    refine w_mka L3 (by decide) ?_
    walk_at "rd"
    refine w_ixL hS (at_nat (i := 5) rfl (wAt_at (by omega))) ?_
    walk_at "rd"
    refine w_ixL hS (at_nat (i := 1) rfl (wAt_at (by omega))) ?_
    walk_at "rd"
    refine fun x dx hx hdx ne => ⟨x, dx, _, _, _, _, rfl, upd_same, rfl, ?_⟩
    refine q (some ⟨3, wAt ws 5, wAt ws 1, m, sp, 0⟩) _ _ ?_ (same_mut (same_mut (same_new hdx _) hx) hx) ⟨x, rfl, dx, ?_⟩
    · rw [un, if_neg c0, if_pos c]
    · rw [upd_same]
      rfl
  rename_i c3
  have c3 : ¬ wAt ws 2 = "one" := fun e => c3 (congrArg V.str e)
  walk_at "rd"
  refine w_ixL hS (at_nat (i := 2) rfl (wAt_at (by omega))) ?_
  walk_at "rd"
  walk_at "if"
  · rename_i c
    have c := V.str.inj c
    walk_at "rd"
    refine w_mka L4 (by decide) ?_
    walk_at "rd"
    refine w_ixL hS (at_nat (i := 5) rfl (wAt_at (by omega))) ?_
    walk_at "rd"
    refine w_ixL hS (at_nat (i := 1) rfl (wAt_at (by omega))) ?_
    walk_at "rd"
    refine fun x dx hx hdx ne => ⟨x, dx, _, _, _, _, rfl, upd_same, rfl, ?_⟩
    refine q (some ⟨4, wAt ws 5, wAt ws 1, m, sp, 0⟩) _ _ ?_ (same_mut (same_mut (same_new hdx _) hx) hx) ⟨x, rfl, dx, ?_⟩
    · rw [un, if_neg c0, if_neg c3, if_pos c]
    · rw [upd_same]
      rfl
  rename_i c4
  have c4 : ¬ wAt ws 2 = "all" := fun e => c4 (congrArg V.str e)
  walk_at "rd"
  refine w_ixL hS (at_nat (i := 2) rfl (wAt_at (by omega))) ?_
  walk_at "rd"
  walk_at "if"
  · rename_i c
    have c := V.str.inj c
    walk_at "rd"
    refine w_mka L5 (by decide) ?_
    walk_at "rd"
    refine w_ixL hS (at_nat (i := 5) rfl (wAt_at (by omega))) ?_
    walk_at "rd"
    refine w_ixL hS (at_nat (i := 1) rfl (wAt_at (by omega))) ?_
    walk_at "rd"
    refine fun x dx hx hdx ne => ⟨x, dx, _, _, _, _, rfl, upd_same, rfl, ?_⟩
    refine q (some ⟨5, wAt ws 5, wAt ws 1, m, sp, 0⟩) _ _ ?_ (same_mut (same_mut (same_new hdx _) hx) hx) ⟨x, rfl, dx, ?_⟩
    · rw [un, if_neg c0, if_neg c3, if_neg c4, if_pos c]
    · rw [upd_same]
      rfl
  rename_i c5
  have c5 : ¬ wAt ws 2 = "rest" := fun e => c5 (congrArg V.str e)
  walk_at "rd"
  refine q none .non _ ?_ (Same.refl _) rfl
  rw [un, if_neg c0, if_neg c3, if_neg c4, if_neg c5]
def spShapeBy (K : PySem.W.Frag) (cls : Nat → Addr) : Sp := fun vs H Q _ => ∃ (a : Addr) (ws : List Str), vs = [.ref a] ∧ SqL K H a (ws.map V.str) ∧ (∀ x ∈ ws, x.length ≤ 640) ∧ ∀ v H', Same H H' → ShV cls (shapeM ws) v H' → Q v H'
theorem in_keeps {wd : Str} : inV (.str wd) (keeps3.map V.str) = decide (wd ∈ keeps3) := by
  rw [Bool.eq_iff_iff, decide_eq_true_eq]
  unfold inV
  rw [List.any_map, List.any_eq_true]
  constructor
  · rintro ⟨y, hy, e⟩
    have e : decide (y = wd) = true := e
    rw [← of_decide_eq_true e]
    exact hy
  · exact fun h => ⟨wd, h, decide_eq_true rfl⟩
theorem ok_shape_by {cls : Nat → Addr} {CN CM f t : Addr} {fd : FuncData} (F : Fun K "shape_by" "shape_by" s_shape_by f fd) (T : Bt mg) (e_MinderError : NamK K mg "MinderError" CM) (eM : PySem.W.exmOne K (.ref CN) (.ref CM) = some true) (hg : mg "KEEPS" = some (.ref t)) (sK : ∀ H : Hp, SqT K H t (keeps3.map V.str))
    (CF : Cal P w K mg base CX0 "fit_name" 1 ["text"] [] spFit) (CL : Cal P w K mg base (CXN P w) "leaf_by" 5 ["words"] [] (spBy K cls CN leafR)) (CD : Cal P w K mg base (CXN P w) "minder_by" 5 ["words"] [] (spBy K cls CN minderR)) :
    FnOk P w K mg base CX0 6 f fd ["words"] (spShapeBy K cls) := by
  refine F.ok sc_shape_by (fun vs H Q E h => ?_) (fun cdv A outer s H vs Q E hr h => ?_)
  · obtain ⟨a, ws, rfl, _⟩ := h
    rfl
  obtain ⟨a, ws, rfl, hS, hl, q⟩ := h
  have lm := List.length_map (as := ws) V.str
  refine ⟨_, (C8.pss_cut (ps_if (PW.pt (pw_or (pt_cmpR op_lt (pe_callB (kLenL (K := K) rfl) (by rfl) T.len (by decide +kernel) (pa_cons (pv 0) pa_nil)) pe_int (nomark _)) (pw_or (pt_cmpR (kNotIn (K := K) rfl) (pe_ix (kIxL (K := K) rfl) (pv 0) pe_int (fun _ _ => rfl)) (pe_gv (mg := mg) rfl rfl) rfl) (pw_or1 (pt_not (pt_val (pe_ca (P := P) (w := w) (K := K) (mg := mg) (base := base) ⟨rfl, rfl, rfl, rfl, rfl⟩ hr rfl (pa_cons (pe_ix (kIxL (K := K) rfl) (pv 0) (pe_un un_neg pe_int) (fun _ _ => rfl)) pa_nil)))))))) (pss_one (ps_ret pe_non)) pss_nil)
    (pss_cons (ps_try_only (Wout := fun _ _ _ _ => False) rfl rfl ⟨rfl, by decide, Or.inl e_MinderError.g⟩ takes0 (fun W pn xe tk _ => by exact (pss_one (ps_if (pt_cmpR op_eq (pe_ix (kIxL (K := K) rfl) (pv 0) pe_int (fun _ _ => rfl)) pe_str (nomark _)) (pss_one (ps_set (i := 1) sc_shape_by.nd rfl (Or.inl rfl) (pe_cae (P := P) (w := w) (K := K) (mg := mg) (base := base) ⟨rfl, rfl, rfl, rfl, rfl⟩ hr rfl (tk_weak tk) (pa_cons (pv 0) pa_nil)))) (pss_one (ps_if (PW.pt (pw_and (pt_cmpR op_eq (pe_ix (kIxL (K := K) rfl) (pv 0) pe_int (fun _ _ => rfl)) pe_str (nomark _)) (pw_and1 (pt_cmpR op_eq (pe_callB (kLenL (K := K) rfl) (by rfl) T.len (by decide +kernel) (pa_cons (pv 0) pa_nil)) pe_int (nomark _))))) (pss_one (ps_set (i := 1) sc_shape_by.nd rfl (Or.inl rfl) (pe_cae (P := P) (w := w) (K := K) (mg := mg) (base := base) ⟨rfl, rfl, rfl, rfl, rfl⟩ hr rfl (tk_weak tk) (pa_cons (pv 0) pa_nil)))) (pss_one (ps_set (i := 1) sc_shape_by.nd rfl (Or.inl rfl) pe_non))))))) (fun a oe cls d pn hz hv => by exact (pss_one (ps_ret pe_non))))
    (pss_one (ps_ret (pv 1))))), ?_⟩
  have none_ : shapeM ws = none → Q .non H := fun e => q _ _ (Same.refl _) (by rw [e]; rfl)
  walk_at "rd"
  refine w_cut (fun σ H' => σ = [some (.ref a), none] ∧ H = H' ∧ 6 ≤ ws.length ∧ wAt ws 1 ∈ keeps3 ∧ fitL (tl (wAt ws (ws.length - 1))) = true) ?_ (fun σ H' hm => ?_)
  · walk_at "rd"
    rw [lm]
    by_cases c6 : ws.length < 6
    · rw [decide_eq_true (show (ws.length : Int) < 6 by omega)]
      walk_at "rd"
      exact none_ (if_pos (.inl c6))
    rw [decide_eq_false (show ¬ (ws.length : Int) < 6 by omega)]
    walk_at "rd"
    refine w_ixL hS (at_nat (i := 1) rfl (wAt_at (by omega))) ?_
    walk_at "rd"
    refine w_gv (v := .ref t) hg rfl ?_
    walk_at "rd"
    refine w_ninT (sK _) rfl rfl ?_
    rw [in_keeps]
    walk_at "rd"
    by_cases ck : wAt ws 1 ∈ keeps3
    case neg =>
      rw [decide_eq_false ck, Bool.not_false]
      walk_at "rd"
      exact none_ (if_pos (.inr (.inl ck)))
    rw [decide_eq_true ck, Bool.not_true]
    walk_at "rd"
    refine w_ca CF (by decide) ?_
    walk_at "rd"
    have hlast : atI (ws.map V.str) (-1) = some (.str (wAt ws (ws.length - 1))) := by
      have hne : ws ≠ [] := fun e => by rw [e] at c6; exact c6 (by decide)
      have e1 : wAt ws (ws.length - 1) = ws.getLast hne := by
        unfold wAt
        rw [List.getD_eq_getElem?_getD, List.getLast_eq_getElem, List.getElem?_eq_getElem (by omega)]
        rfl
      rw [e1]
      have e2 := congrArg (List.map V.str) (List.dropLast_concat_getLast hne).symm
      rw [e2, List.map_append]
      exact atI_last _ _
    refine w_ixL hS hlast ?_
    walk_at "rd"
    refine ⟨_, rfl, by have := hl _ (wAt_mem (ws := ws) (i := ws.length - 1) (by omega)); omega, ?_⟩
    walk_at "rd"
    by_cases cf : fitL (tl (wAt ws (ws.length - 1))) = true
    case neg =>
      rw [Bool.eq_false_iff.mpr cf, Bool.not_false]
      walk_at "rd"
      exact none_ (if_pos (.inr (.inr (Bool.eq_false_iff.mpr cf))))
    rw [cf, Bool.not_true]
    walk_at "rd"
    exact ⟨rfl, rfl, by omega, ck, rfl⟩
  obtain ⟨rfl, rfl, h6, hk, hf⟩ := hm
  have un : shapeM ws = if wAt ws 0 = "leaf" then (leafR ws).join else if wAt ws 0 = "minder" ∧ ws.length = 6 then (minderR ws).join else none := by
    unfold shapeM
    rw [if_neg]
    rintro (z | z | z)
    · omega
    · exact z hk
    · rw [hf] at z
      cases z
  walk_at "rd"
  refine w_ixL hS (at_nat (i := 0) rfl (wAt_at (by omega))) ?_
  walk_at "rd"
  walk_at "if"
  · rename_i c
    have c := V.str.inj c
    rw [if_pos c] at un
    walk_at "rd"
    refine w_cae CL (by decide) ?_
    walk_at "rd"
    refine ⟨a, ws, rfl, hS, h6, hl, fun no => ?_, fun r v H' hr' s1 hv => ?_⟩
    · refine ⟨true, eM, fun _ a0 ha => ?_, fun z => nomatch z⟩
      walk_at "rd"
      exact none_ (by rw [un, no]; rfl)
    · walk_at "rd"
      exact q v _ s1 (by rw [un, hr']; exact hv)
  rename_i c
  have c : ¬ wAt ws 0 = "leaf" := fun e => c (congrArg V.str e)
  rw [if_neg c] at un
  walk_at "rd"
  refine w_ixL hS (at_nat (i := 0) rfl (wAt_at (by omega))) ?_
  walk_at "rd"
  have other : ¬ (wAt ws 0 = "minder" ∧ ws.length = 6) → Q .non H := fun h => none_ (by rw [un, if_neg h])
  by_cases cm : wAt ws 0 = "minder"
  case neg =>
    rw [decide_eq_false (fun z => cm (V.str.inj z))]
    walk_at "rd"
    exact other fun z => cm z.1
  rw [decide_eq_true (congrArg V.str cm)]
  walk_at "rd"
  rw [lm]
  by_cases c6 : ws.length = 6
  case neg =>
    rw [decide_eq_false (fun z => c6 (by have := V.int.inj z; omega))]
    walk_at "rd"
    exact other fun z => c6 z.2
  rw [decide_eq_true (show V.int (ws.length : Int) = V.int 6 by rw [c6]; rfl)]
  rw [if_pos ⟨cm, c6⟩] at un
  walk_at "rd"
  refine w_cae CD (by decide) ?_
  walk_at "rd"
  refine ⟨a, ws, rfl, hS, h6, hl, fun no => ?_, fun r v H' hr' s1 hv => ?_⟩
  · refine ⟨true, eM, fun _ a0 ha => ?_, fun z => nomatch z⟩
    walk_at "rd"
    exact none_ (by rw [un, no]; rfl)
  · walk_at "rd"
    exact q v _ s1 (by rw [un, hr']; exact hv)
end
end Mn

namespace Mn
open PySem PySem.Spec PyProof.Rows L2 TL
section
variable {P : Program} {w : World} {K : PySem.W.Frag} {mg : Str → Option Value} {base : Heap}
def spBadRow (C : Addr) : Sp := fun vs H Q _ => ∃ (a : Addr) (r : Int), vs = [.ref a, .int r] ∧ H a = some (exo a C none) ∧ ∀ dx, H dx = none → dx ≠ a → Q .non (upd (upd H dx (exd dx [("row", .int r)])) a (exo a C (some dx)))
theorem ok_badrow {C CM : Addr} {mc : Value} {f : Addr} {fd : FuncData} (F : Fun K "__init__" "BadRow.__init__" s_BadRow_init f fd) (T : OexC K C) (no : PySem.W.findIn K (.ref C) "row" = some none) (v_MinderError : VecK K mg "MinderError" CM mc) : FnOk P w K mg base CX0 1 f fd ["self", "row"] (spBadRow C) := by
  refine F.ok sc_BadRow_init (fun vs H Q E h => ?_) (fun cdv A outer s H vs Q E hr h => ?_)
  · obtain ⟨a, r, rfl, _⟩ := h
    rfl
  obtain ⟨a, r, rfl, h, q⟩ := h
  refine ⟨_, (pss_cons (ps_expr (pe_vec (K := K) rfl rfl v_MinderError.g v_MinderError.rd v_MinderError.fc (pa_cons (pv 0) (pa_cons pe_str pa_nil))))
    (pss_one (kOst (K := K) rfl (pv 0) (pv 1)))), ?_⟩
  walk_at "rd"
  refine w_veI ?_
  walk_at "rd"
  refine ⟨a, C, _, rfl, (by show (1 : Nat) ≤ 1000; decide), T, h, ?_⟩
  walk_at "rd"
  refine w_ost1 ?_
  walk_at "rd"
  exact ⟨a, C, rfl, T, no, .inl ⟨h, q⟩⟩
end
theorem same_none {H H' : Hp} {b : Addr} (e : Same H H') (h : H' b = none) : H b = none := by
  cases hb : H b with
  | none => rfl
  | some o => rw [e _ _ hb] at h; cases h
theorem kvs_some {shs : List Shp} {x : Str} (h : x ∈ shs.map Shp.name) : ∃ v, valV (kvsOf shs) (Sum.inr x) = some v := by
  cases e : valV (kvsOf shs) (Sum.inr x) with
  | some v => exact ⟨v, rfl⟩
  | none =>
    exfalso
    unfold valV kvsOf at e
    rw [Option.map_eq_none_iff, List.find?_eq_none] at e
    obtain ⟨s, hs, rfl⟩ := List.mem_map.mp h
    obtain ⟨i, hi⟩ := List.getElem?_of_mem hs
    exact e _ (List.mem_map_of_mem (List.mem_zipIdx_iff_getElem?.mpr (show shs[i]? = some s from hi) : (s, i) ∈ shs.zipIdx)) (decide_eq_true rfl)
end Mn

namespace Mn
open PySem PySem.Spec PyProof.Rows L2 TL
/-! ### a text split at one sign -/
def splitL (s : Nat) : List Nat → List (List Nat)
  | [] => [[]]
  | c :: r => if c = s then [] :: splitL s r else match splitL s r with
    | [] => [[c]]
    | p :: ps => (c :: p) :: ps
theorem splitL_ne (s : Nat) : ∀ l, splitL s l ≠ []
  | [] => by simp [splitL]
  | c :: r => by
    unfold splitL
    split
    · simp
    · split <;> simp
theorem splitL_hit (s : Nat) (r : List Nat) : splitL s (s :: r) = [] :: splitL s r := by
  rw [splitL, if_pos rfl]
theorem splitL_miss {s c : Nat} (h : c ≠ s) (r : List Nat) : ∃ p ps, splitL s r = p :: ps ∧ splitL s (c :: r) = (c :: p) :: ps := by
  cases e : splitL s r with
  | nil => exact absurd e (splitL_ne s r)
  | cons p ps => exact ⟨p, ps, rfl, by rw [splitL, if_neg h, e]⟩
theorem splitL_free {s : Nat} : ∀ {l : List Nat}, s ∉ l → splitL s l = [l]
  | [], _ => rfl
  | c :: r, h => by
    obtain ⟨p, ps, e1, e2⟩ := splitL_miss (s := s) (c := c) (fun e => h (e ▸ List.mem_cons_self)) r
    rw [splitL_free (fun m => h (List.mem_cons_of_mem _ m))] at e1
    injection e1 with a b
    rw [e2, ← a, ← b]
theorem splitL_app (s : Nat) : ∀ (a b : List Nat), splitL s (a ++ s :: b) = splitL s a ++ splitL s b
  | [], b => splitL_hit s b
  | c :: r, b => by
    by_cases h : c = s
    · subst h
      rw [List.cons_append, splitL_hit, splitL_hit, splitL_app c r b]
      rfl
    · obtain ⟨p, ps, e1, e2⟩ := splitL_miss h r
      obtain ⟨q, qs, e3, e4⟩ := splitL_miss h (r ++ s :: b)
      rw [splitL_app s r b, e1] at e3
      injection e3 with a1 a2
      rw [List.cons_append, e4, e2, ← a1, ← a2]
      rfl
theorem splitL_len (s : Nat) : ∀ (l p : List Nat), p ∈ splitL s l → p.length ≤ l.length
  | [], p, h => by
    rw [splitL, List.mem_singleton] at h
    rw [h]
    exact Nat.le_refl _
  | c :: r, p, h => by
    by_cases e : c = s
    · subst e
      rw [splitL_hit] at h
      rcases List.mem_cons.mp h with h | h
      · rw [h]; exact Nat.zero_le _
      · exact Nat.le_succ_of_le (splitL_len c r p h)
    · obtain ⟨q, qs, e1, e2⟩ := splitL_miss e r
      rw [e2] at h
      rcases List.mem_cons.mp h with h | h
      · rw [h]
        exact Nat.succ_le_succ (splitL_len s r q (by rw [e1]; exact List.mem_cons_self))
      · exact Nat.le_succ_of_le (splitL_len s r p (by rw [e1]; exact List.mem_cons_of_mem _ h))
theorem splitL_free_of (s : Nat) : ∀ (l p : List Nat), p ∈ splitL s l → s ∉ p
  | [], p, h => by
    rw [splitL, List.mem_singleton] at h
    rw [h]
    exact List.not_mem_nil
  | c :: r, p, h => by
    by_cases e : c = s
    · subst e
      rw [splitL_hit] at h
      rcases List.mem_cons.mp h with h | h
      · rw [h]; exact List.not_mem_nil
      · exact splitL_free_of c r p h
    · obtain ⟨q, qs, e1, e2⟩ := splitL_miss e r
      rw [e2] at h
      rcases List.mem_cons.mp h with h | h
      · rw [h]
        intro m
        rcases List.mem_cons.mp m with m | m
        · exact e m.symm
        · exact splitL_free_of s r q (by rw [e1]; exact List.mem_cons_self) m
      · exact splitL_free_of s r p (by rw [e1]; exact List.mem_cons_of_mem _ h)
theorem spl_is (s : Nat) : ∀ (l acc p : List Nat) (ps : List (List Nat)), splitL s l = p :: ps → spl [s] 0 acc l = (acc ++ p) :: ps
  | [], acc, p, ps, h => by
    rw [splitL] at h
    injection h with a b
    rw [spl_nil, ← a, ← b, List.append_nil]
  | c :: r, acc, p, ps, h => by
    by_cases e : c = s
    · subst e
      rw [splitL_hit] at h
      injection h with a b
      rw [spl_hit (by simp [pre])]
      cases e2 : splitL c r with
      | nil => exact absurd e2 (splitL_ne c r)
      | cons q qs =>
        have := spl_is c r [] q qs e2
        rw [List.nil_append] at this
        rw [show ([c] : List Nat).length - 1 = 0 from rfl, this, ← a, ← b, e2, List.append_nil]
    · obtain ⟨q, qs, e1, e2⟩ := splitL_miss e r
      rw [e2] at h
      injection h with a b
      rw [spl_miss (pre_of_head [] r e), spl_is s r (acc ++ [c]) q qs e1, ← a, ← b]
      simp
theorem split_is {x y : Str} {s : Nat} (ey : tl y = [s]) (hs : s < 256) : (Txt.split x y).map tl = splitL s (tl x) := by
  rw [split_spl x y (by rw [ey]; simp) (kind_ok (by
    have : y = ⟨#[s]⟩ := ext_tl ey
    rw [this]
    simpa using hs)), ey]
  cases e : splitL s (tl x) with
  | nil => exact absurd e (splitL_ne s _)
  | cons p ps =>
    rw [spl_is s (tl x) [] p ps e, List.nil_append]
/-- the words between blanks -/
def wordsL (l : List Nat) : List (List Nat) := (splitL 32 l).filter fun p => decide (p ≠ [])
theorem wordsL_app (a b : List Nat) : wordsL (a ++ 32 :: b) = wordsL a ++ wordsL b := by
  unfold wordsL
  rw [splitL_app, List.filter_append]
theorem wordsL_nil : wordsL [] = [] := rfl
theorem wordsL_word {a : List Nat} (h : 32 ∉ a) (h0 : a ≠ []) : wordsL a = [a] := by
  unfold wordsL
  rw [splitL_free h, List.filter_cons_of_pos (by simpa using h0)]
  rfl
theorem wordsL_blanks : ∀ (n : Nat) (l : List Nat), wordsL (List.replicate n 32 ++ l) = wordsL l
  | 0, l => rfl
  | n + 1, l => by
    rw [List.replicate_succ, List.cons_append]
    have := wordsL_app [] (List.replicate n 32 ++ l)
    rw [List.nil_append, wordsL_nil, List.nil_append] at this
    rw [this, wordsL_blanks n l]
theorem wordsL_only (n : Nat) : wordsL (List.replicate n 32) = [] := by
  have := wordsL_blanks n []
  rw [List.append_nil] at this
  exact this
theorem wordsL_tail (l : List Nat) : ∀ n : Nat, wordsL (l ++ List.replicate n 32) = wordsL l
  | 0 => by rw [List.replicate_zero, List.append_nil]
  | n + 1 => by rw [List.replicate_succ, wordsL_app, wordsL_only, List.append_nil]
/-- words with so many blanks between -/
theorem wordsL_join (g : Nat) : ∀ ws : List (List Nat), (∀ p ∈ ws, 32 ∉ p ∧ p ≠ []) → wordsL (joinL (List.replicate (g + 1) 32) ws) = ws
  | [], _ => rfl
  | [p], h => wordsL_word (h p List.mem_cons_self).1 (h p List.mem_cons_self).2
  | p :: q :: r, h => by
    have ih := wordsL_join g (q :: r) fun z hz => h z (List.mem_cons_of_mem _ hz)
    show wordsL (p ++ (List.replicate (g + 1) 32 ++ joinL (List.replicate (g + 1) 32) (q :: r))) = _
    rw [List.replicate_succ, List.cons_append, wordsL_app, wordsL_blanks, wordsL_word (h p List.mem_cons_self).1 (h p List.mem_cons_self).2]
    rw [← List.replicate_succ, ih]
    rfl
end Mn

namespace Mn
open PySem PySem.Spec PyProof.Rows L2 TL
/-! ### a tree's text, row by row -/
def wordsM (row : Str) : List Str := (Txt.split row " ").filter fun x => decide (x ≠ "")
def blanksM (row : Str) : Nat := row.length - (Txt.lstripChars row " ").length
inductive RS where
  | skip
  | bad
  | many
  | add (s : Shp) (e : Int)
def rowM (D : TreeD) (row : Str) : RS :=
  if wordsM row = [] ∨ Txt.startswith (wAt (wordsM row) 0) "#" = true then .skip else
  match shapeM (wordsM row) with
  | none => .bad
  | some s =>
    if 0 < blanksM row % 2 ∨ 8 < blanksM row / 2 ∨ elderM D ((blanksM row / 2 : Nat) : Int) = -2 ∨ s.name ∈ D.shs.map Shp.name then .bad
    else if elderM D ((blanksM row / 2 : Nat) : Int) = -1 ∧ s.kind < 3 then .bad
    else if D.n = 64 then .many
    else .add s (elderM D ((blanksM row / 2 : Nat) : Int))
inductive RR where
  | ok (D : TreeD)
  | bad (k : Nat)
  | many
  | top
def readGo : List Str → TreeD → Nat → RR
  | [], D, _ => if D.n = 0 then .top else .ok D
  | r :: rs, D, k => match rowM D r with
    | .skip => readGo rs D (k + 1)
    | .bad => .bad (k + 1)
    | .many => .many
    | .add s e => readGo rs (D.add s e) (k + 1)
def rowsM (x : Str) : List Str := Txt.split x "\n"
def readM (x : Str) : RR := readGo (rowsM x) .nil 0
/-! what is read is well formed -/
theorem numOf_nn {x : Str} {v : Int} (h : numOf x = some v) : 0 ≤ v := by
  unfold numOf at h
  split at h
  · rw [← Option.some.inj h]
    omega
  · cases h
theorem numM_ok {x : Str} {v : Int} (h : numM x = some v) : 0 ≤ v ∧ v ≤ 1000000 := by
  unfold numM at h
  cases e : numOf x with
  | none => rw [e] at h; cases h
  | some u =>
    rw [e] at h
    dsimp only at h
    split at h
    · obtain rfl := Option.some.inj h
      exact ⟨numOf_nn e, by assumption⟩
    · cases h
theorem okS_mk {k : Nat} {nm kp : Str} {a b m : Int} (h1 : k < 6) (h2 : kp ∈ keeps3) (h3 : fitL (tl nm) = true) (h4 : 0 ≤ a ∧ a ≤ 1000000) (h5 : 0 ≤ b ∧ b ≤ 1000000) (h6 : 0 ≤ m ∧ m ≤ 1000000) (h7 : k ≠ 1 → k ≠ 2 → m = 0) (h8 : 3 ≤ k → 1 ≤ b) : OkS ⟨k, nm, kp, a, b, m⟩ := ⟨h1, h2, h3, h4, h5, h6, h7, h8⟩
theorem shape_ok {ws : List Str} {s : Shp} (h : shapeM ws = some s) : OkS s := by
  unfold shapeM at h
  split at h
  · cases h
  rename_i c
  simp only [not_or, Bool.not_eq_false, Decidable.not_not] at c
  obtain ⟨c1, c2, c3⟩ := c
  split at h
  · unfold leafR at h
    cases e1 : numM (wAt ws 2) with
    | none => rw [e1] at h; cases h
    | some g =>
      cases e2 : numM (wAt ws 3) with
      | none => rw [e1, e2] at h; cases h
      | some sl =>
        rw [e1, e2] at h
        dsimp only at h
        split at h
        · rename_i d
          obtain rfl := Option.some.inj h
          rw [d.2] at c3
          exact okS_mk (by decide) c2 c3 (numM_ok e1) (numM_ok e2) ⟨by decide, by decide⟩ (fun _ _ => rfl) (fun z => absurd z (by decide))
        · split at h
          · rename_i d
            cases e3 : numM (wAt ws 5) with
            | none => rw [e3] at h; cases h
            | some m =>
              rw [e3] at h
              obtain rfl := Option.some.inj h
              rw [d.1] at c3
              refine ⟨?_, c2, c3, numM_ok e1, numM_ok e2, numM_ok e3, fun z1 z2 => ?_, fun z => ?_⟩
              · dsimp only; split <;> decide
              · dsimp only at z1 z2; split at z1 <;> simp_all
              · dsimp only at z; split at z <;> exact absurd z (by decide)
          · cases h
  · split at h
    · rename_i d
      rw [d.2] at c3
      unfold minderR at h
      cases e1 : numM (wAt ws 3) with
      | none => rw [e1] at h; cases h
      | some m =>
        cases e2 : numM (wAt ws 4) with
        | none => rw [e1, e2] at h; cases h
        | some sp =>
          rw [e1, e2] at h
          dsimp only at h
          have b := numM_ok e2
          split at h
          · cases h
          · rename_i d0
            have b1 : 1 ≤ sp := by omega
            split at h
            · obtain rfl := Option.some.inj h
              exact okS_mk (by decide) c2 c3 (numM_ok e1) b ⟨by decide, by decide⟩ (fun _ _ => rfl) (fun _ => b1)
            · split at h
              · obtain rfl := Option.some.inj h
                exact okS_mk (by decide) c2 c3 (numM_ok e1) b ⟨by decide, by decide⟩ (fun _ _ => rfl) (fun _ => b1)
              · split at h
                · obtain rfl := Option.some.inj h
                  exact okS_mk (by decide) c2 c3 (numM_ok e1) b ⟨by decide, by decide⟩ (fun _ _ => rfl) (fun _ => b1)
                · cases h
    · cases h
theorem elder_cases (D : TreeD) (d : Nat) (W : D.WF) : (elderM D (d : Int) = -1 ∧ D.n = 0 ∧ d = 0) ∨ elderM D (d : Int) = -2 ∨ ∃ j : Nat, elderM D (d : Int) = (j : Int) ∧ j < D.n ∧ D.dp j + 1 = d ∧ 3 ≤ (D.sh j).kind := by
  unfold elderM
  by_cases h0 : (d : Int) = 0
  · rw [if_pos h0]
    by_cases hn : D.n = 0
    · rw [if_pos hn]
      exact .inl ⟨rfl, hn, by omega⟩
    · rw [if_neg hn]
      exact .inr (.inl rfl)
  · rw [if_neg h0]
    by_cases hn : D.n = 0
    · rw [if_pos hn]
      exact .inr (.inl rfl)
    rw [if_neg hn]
    have key : ∀ (f : Nat) (j : Int), -1 ≤ j → j < D.n → -1 ≤ climb D (d : Int) f j ∧ climb D (d : Int) f j < D.n := fun f => by
      induction f with
      | zero => exact fun j h1 h2 => ⟨h1, h2⟩
      | succ f ih =>
        intro j h1 h2
        unfold climb
        split
        · rename_i c
          have := W.e_lt (i := j.toNat) (by omega)
          exact ih _ (by omega) (by omega)
        · exact ⟨h1, h2⟩
    have k2 := key (D.n + 1) ((D.n : Int) - 1) (by omega) (by omega)
    generalize climb D (d : Int) (D.n + 1) ((D.n : Int) - 1) = j at k2
    by_cases hj : j < 0
    · rw [if_pos hj]
      exact .inr (.inl rfl)
    rw [if_neg hj]
    by_cases c : (D.dp j.toNat : Int) ≠ d - 1 ∨ (D.sh j.toNat).kind < 3
    · rw [if_pos c]
      exact .inr (.inl rfl)
    · rw [if_neg c]
      rw [not_or, Decidable.not_not] at c
      exact .inr (.inr ⟨j.toNat, by omega, by omega, by omega, by omega⟩)
theorem getD_snoc_lt {α : Type} (l : List α) (a d : α) {i : Nat} (h : i < l.length) : (l ++ [a]).getD i d = l.getD i d := by
  rw [List.getD_eq_getElem?_getD, List.getD_eq_getElem?_getD, List.getElem?_append_left h]
theorem getD_snoc_eq {α : Type} (l : List α) (a d : α) : (l ++ [a]).getD l.length d = a := by
  rw [List.getD_eq_getElem?_getD, List.getElem?_append_right (Nat.le_refl _), Nat.sub_self]
  rfl
theorem WF_nil : TreeD.nil.WF := by
  refine ⟨rfl, rfl, fun i h => absurd h (Nat.not_lt_zero i), fun i h => absurd h (Nat.not_lt_zero i), List.nodup_nil, Nat.zero_le _, fun s h => absurd h List.not_mem_nil, fun i h => absurd h (Nat.not_lt_zero i), fun i h => absurd h (Nat.not_lt_zero i), fun h => absurd h (Nat.lt_irrefl 0)⟩
theorem WF_add {D : TreeD} (W : D.WF) {s : Shp} {d : Nat} (ok : OkS s) (hn : s.name ∉ D.shs.map Shp.name) (h64 : D.n ≠ 64) (h8 : d ≤ 8) {e : Int} (he : (e = -1 ∧ D.n = 0 ∧ d = 0 ∧ 3 ≤ s.kind) ∨ ∃ j : Nat, e = (j : Int) ∧ j < D.n ∧ D.dp j + 1 = d ∧ 3 ≤ (D.sh j).kind) : (D.add s e).WF := by
  have le := W.le
  have ld := W.ld
  have sz := W.sz
  have n' : (D.add s e).n = D.n + 1 := by show (D.shs ++ [s]).length = _; rw [List.length_append]; rfl
  have e_lt : ∀ i, i < D.n → (D.add s e).e i = D.e i := fun i h => getD_snoc_lt _ _ _ (by rw [le]; exact h)
  have e_eq : (D.add s e).e D.n = e := by have := getD_snoc_eq D.eld e (-1); rw [le] at this; exact this
  have d_lt : ∀ i, i < D.n → (D.add s e).dp i = D.dp i := fun i h => getD_snoc_lt _ _ _ (by rw [ld]; exact h)
  have d_eq : (D.add s e).dp D.n = d := by
    have h1 := getD_snoc_eq D.dps (if e < 0 then 0 else D.dp e.toNat + 1) 0
    rw [ld] at h1
    refine h1.trans ?_
    rcases he with ⟨rfl, _, rfl, _⟩ | ⟨j, rfl, _, hd, _⟩
    · rfl
    · rw [if_neg (by omega), Int.toNat_natCast, hd]
  have s_lt : ∀ i, i < D.n → (D.add s e).sh i = D.sh i := fun i h => getD_snoc_lt _ _ _ h
  have s_eq : (D.add s e).sh D.n = s := getD_snoc_eq D.shs s default
  refine ⟨?_, ?_, fun i h => ?_, fun i h => ?_, ?_, ?_, fun t ht => ?_, fun i h h0 => ?_, fun i h => ?_, fun h => ?_⟩
  · rw [n']; show (D.eld ++ [e]).length = _; rw [List.length_append, le]; rfl
  · rw [n']; show (D.dps ++ [_]).length = _; rw [List.length_append, ld]; rfl
  · by_cases hi : i < D.n
    · rw [e_lt i hi]; exact W.el i hi
    · have : i = D.n := by omega
      subst this
      rw [e_eq]
      rcases he with ⟨rfl, h1, _⟩ | ⟨j, rfl, h1, _⟩
      · exact .inl ⟨rfl, h1⟩
      · exact .inr ⟨by omega, by omega⟩
  · by_cases hi : i < D.n
    · have := W.el i hi
      rw [e_lt i hi, d_lt i hi, W.dp i hi]
      split
      · rfl
      · rw [d_lt _ (by omega)]
    · have : i = D.n := by omega
      subst this
      rw [e_eq, d_eq]
      rcases he with ⟨rfl, _, rfl, _⟩ | ⟨j, rfl, h1, hd, _⟩
      · rfl
      · rw [if_neg (by omega), Int.toNat_natCast, d_lt j h1, hd]
  · show ((D.shs ++ [s]).map Shp.name).Nodup
    rw [List.map_append, List.nodup_append]
    refine ⟨W.nm, by simp, fun a ha b hb => ?_⟩
    simp only [List.map_cons, List.map_nil, List.mem_cons, List.not_mem_nil, or_false] at hb
    subst hb
    exact fun e => hn (e ▸ ha)
  · omega
  · have ht : t ∈ D.shs ++ [s] := ht
    rcases List.mem_append.mp ht with ht | ht
    · exact W.ok t ht
    · rw [List.mem_singleton] at ht
      exact ht ▸ ok
  · by_cases hi : i < D.n
    · have := W.el i hi
      rw [e_lt i hi] at h0 ⊢
      rw [s_lt _ (by omega)]
      exact W.mi i hi h0
    · have : i = D.n := by omega
      subst this
      rw [e_eq] at h0 ⊢
      rcases he with ⟨rfl, _⟩ | ⟨j, rfl, h1, _, hk⟩
      · exact absurd h0 (by decide)
      · rw [Int.toNat_natCast, s_lt j h1]
        exact hk
  · by_cases hi : i < D.n
    · rw [d_lt i hi]; exact W.d8 i hi
    · have : i = D.n := by omega
      subst this
      rw [d_eq]
      exact h8
  · by_cases hi : 0 < D.n
    · rw [s_lt 0 hi]; exact W.top hi
    · have : D.n = 0 := by omega
      rw [show (D.add s e).sh 0 = s by rw [← this]; exact s_eq]
      rcases he with ⟨_, _, _, hk⟩ | ⟨j, _, h1, _⟩
      · exact hk
      · omega
theorem row_add {D : TreeD} (W : D.WF) {row : Str} {s : Shp} {e : Int} (h : rowM D row = .add s e) : (D.add s e).WF ∧ shapeM (wordsM row) = some s ∧ e = elderM D ((blanksM row / 2 : Nat) : Int) ∧ s.name ∉ D.shs.map Shp.name ∧ (e = -1 ∨ (0 ≤ e ∧ e < D.n)) ∧ D.n ≠ 64 := by
  unfold rowM at h
  split at h
  · cases h
  cases hs : shapeM (wordsM row) with
  | none => rw [hs] at h; cases h
  | some s' =>
    rw [hs] at h
    dsimp only at h
    split at h
    · cases h
    rename_i c1
    split at h
    · cases h
    rename_i c2
    split at h
    · cases h
    rename_i c3
    injection h with h1 h2
    subst h1 h2
    simp only [not_or] at c1
    obtain ⟨d1, d2, d3, d4⟩ := c1
    have hc := elder_cases D (blanksM row / 2) W
    refine ⟨WF_add W (shape_ok hs) d4 c3 (d := blanksM row / 2) (by omega) ?_, rfl, rfl, d4, ?_, c3⟩
    · rcases hc with ⟨h1, h2, h3⟩ | h1 | h1
      · exact .inl ⟨h1, h2, h3, by omega⟩
      · exact absurd h1 d3
      · exact .inr h1
    · rcases hc with ⟨h1, h2, h3⟩ | h1 | ⟨j, h1, h2, _⟩
      · exact .inl h1
      · exact absurd h1 d3
      · exact .inr ⟨by omega, by omega⟩
section
variable {P : Program} {w : World} {K : PySem.W.Frag} {mg : Str → Option Value} {base : Heap}
theorem readGo_step {rows : List Str} {D : TreeD} {k : Nat} {row : Str} (h : rows[k]? = some row) : readGo (rows.drop k) D k = match rowM D row with
    | .skip => readGo (rows.drop (k + 1)) D (k + 1)
    | .bad => .bad (k + 1)
    | .many => .many
    | .add s e => readGo (rows.drop (k + 1)) (D.add s e) (k + 1) := by
  have hk := (List.getElem?_eq_some_iff.mp h).choose
  rw [List.drop_eq_getElem_cons hk, (List.getElem?_eq_some_iff.mp h).choose_spec]
  rfl
theorem TR.some_ {CT : Addr} {cls : Nat → Addr} {A : TA} {D : TreeD} {H : Hp} (R : TR CT cls A D H) : ∀ b ∈ A.foot, ∃ o, H b = some o := fun b hb => by
  simp only [TA.foot, List.mem_cons] at hb
  rcases hb with rfl | rfl | rfl | rfl | rfl | h
  · exact ⟨_, R.ht⟩
  · exact ⟨_, R.hsh⟩
  · exact ⟨_, R.hel⟩
  · exact ⟨_, R.hyg⟩
  · exact ⟨_, R.hkn⟩
  · obtain ⟨i, hi, e⟩ := List.getElem_of_mem h
    exact ⟨_, R.hys i b (by rw [List.getElem?_eq_getElem hi, e])⟩
def spRead (CT : Addr) (cls : Nat → Addr) (cB cM cN : Addr) : Sp := fun vs H Q E => ∃ x : Str, vs = [.str x] ∧ x.length ≤ 100000 ∧ (∀ r ∈ rowsM x, r.length ≤ 640) ∧
  (∀ Df, readM x = .ok Df → ∀ A H', Same H H' → TRm CT cls A Df H' → Df.WF → Df.n ≠ 0 → (∀ b ∈ A.foot, H b = none) → Q (.ref A.t) H') ∧
  (∀ k, readM x = .bad k → ∀ dd H', Same H H' → H' dd = some (.xd [("row", .int (k : Int))]) → H dd = none → E (.ref cB) (some dd) H') ∧
  (readM x = .many → ∀ H', Same H H' → E (.ref cM) none H') ∧ (readM x = .top → ∀ H', Same H H' → E (.ref cN) none H')
/-- raise BadRow(r) -/
theorem raise_bad {cB : Addr} {k : Nat} {σ : L2.St} {H9 : Hp} {r : Int} {te : TE} {Qx : XK} (OB : OexK P w K mg base "BadRow" cB 1 ["self", "row"] (spBadRow cB)) (hk : 2 ≤ k) (ht : ∀ Q' : VK, Q' (.int r) H9 → te σ H9 Q') (q : ∀ dd H', Same H9 H' → H' dd = some (.xd [("row", .int r)]) → H9 dd = none → Qx (.ref cB) (some dd) H') :
    tMkE P w K mg base "BadRow" k (tCons te tNil) σ H9 Qx := by
  refine ⟨cB, 1, _, _, OB, hk, ht _ ?_⟩
  refine ⟨(by show (1 : Nat) ≤ 1000; decide), fun a ha => ⟨a, r, rfl, upd_same, fun dx hdx ne => ⟨rfl, dx, _, upd_same, (upd_ne ne).trans upd_same, ?_, ?_⟩⟩⟩
  · exact (upd_ne ne).symm.trans hdx
  · have h9 : H9 dx = none := (upd_ne ne).symm.trans hdx
    refine q dx _ (fun b u hb => ?_) upd_same h9
    have b1 : b ≠ dx := fun z => by rw [z, h9] at hb; cases hb
    have b2 : b ≠ a := fun z => by rw [z, ha] at hb; cases hb
    rw [upd_ne b1, del_ne b2, upd_ne b2, upd_ne b1, upd_ne b2]
    exact hb
theorem wordsM_tl (row : Str) : (wordsM row).map tl = wordsL (tl row) := by
  unfold wordsM wordsL
  rw [← split_is (x := row) (y := " ") (s := 32) rfl (by decide), List.filter_map]
  congr 1
  refine List.filter_congr fun x _ => ?_
  refine decide_eq_decide.mpr ?_
  exact not_congr eq_nil_tl
theorem wordsM_len {row : Str} (h : row.length ≤ 640) : ∀ x ∈ wordsM row, x.length ≤ 640 := by
  intro x hx
  have hx := (List.mem_filter.mp hx).1
  have e := split_is (x := row) (y := " ") (s := 32) rfl (by decide)
  have := splitL_len 32 (tl row) (tl x) (by rw [← e]; exact List.mem_map_of_mem hx)
  rw [← len_tl, ← len_tl] at this
  omega
/-- the comprehension's words -/
def keepW : V → Option V := fun v => match v with
  | .str z => if z = "" then none else some (.str z)
  | _ => none
theorem keepW_map : ∀ l : List Str, (l.map V.str).filterMap keepW = (l.filter fun x => decide (x ≠ ("" : Str))).map V.str
  | [] => rfl
  | a :: r => by
    by_cases h : a = ""
    · have e : keepW (.str a) = none := if_pos h
      rw [List.map_cons, List.filterMap_cons_none e, keepW_map r, List.filter_cons_of_neg (by simpa using h)]
    · have e : keepW (.str a) = some (.str a) := if_neg h
      rw [List.map_cons, List.filterMap_cons_some e, keepW_map r, List.filter_cons_of_pos (by simpa using h)]
      rfl
/-- what stands ahead of row i -/
def RInv (CT : Addr) (cls : Nat → Addr) (x : Str) (r : Addr) (H : Hp) (Rr : RR) (i : Nat) (σ : L2.St) (H' : Hp) : Prop := ∃ (v3 v4 v5 v6 v7 v8 v9 v10 : Option V) (A' : TA) (D : TreeD), σ = [some (.str x), some (.ref A'.t), some (.ref r), v3, v4, v5, v6, v7, v8, v9, v10] ∧ Same H H' ∧ TRm CT cls A' D H' ∧ D.WF ∧ H' r = some (.lst ((rowsM x).map V.str)) ∧ r ∉ A'.foot ∧ (∀ b ∈ A'.foot, H b = none) ∧ readGo ((rowsM x).drop i) D i = Rr
theorem ok_read {CT : Addr} {cls : Nat → Addr} {f : Addr} {fd : FuncData} {tk1 tk2 : Tok} {cB cM cN : Addr} (F : Fun K "read" "read" s_read f fd) (T : Bt mg) (OB : OexK P w K mg base "BadRow" cB 1 ["self", "row"] (spBadRow cB)) (e_TooMany : ErrK K mg "TooMany" cM) (e_NoTop : ErrK K mg "NoTop" cN) (cT : ClsF K CT treeN) (kc : KdC K cls) (kl : KdL P w K mg base cls) (gB : mg "BOUND" = some (.int 64 tk1)) (gD : mg "DEEPEST" = some (.int 8 tk2))
    (MT : Mak P w K mg base CX0 "Tree" CT 1 ["self"] [] (spTInit CT cls)) (MA : Mth P w K mg base CX0 CT "add" 1 ["self", "shape", "elder"] [] (spAdd CT cls)) (CS : Cal P w K mg base CX0 "shape_by" 6 ["words"] [] (spShapeBy K cls)) (CE : Cal P w K mg base CX0 "elder_at" 2 ["tree", "deep"] [] (spElder CT cls)) :
    FnOk P w K mg base (CXN P w) 7 f fd ["text"] (spRead CT cls cB cM cN) := by
  refine okN F sc_read (fun vs H Q E h => ?_) (fun cdv A outer s H vs Q E hr h => ?_)
  · obtain ⟨x, rfl, _⟩ := h
    rfl
  obtain ⟨x, rfl, hl, hrow, q, qB, qM, qN⟩ := h
  have hu := hu_of hr
  have hz := PySem.sizeLine_eq
  refine ⟨_, (pss_cons (ps_set (i := 1) sc_read.nd rfl (Or.inl rfl) (pe_mka0 (P := P) (w := w) (K := K) (mg := mg) (base := base) ⟨rfl, rfl, rfl, rfl, rfl⟩ hr rfl))
    (pss_cons (ps_set (i := 2) sc_read.nd rfl (Or.inl rfl) (pe_split (pv 0) pe_str))
    (pss_cons (ps_for PassesOwn.leaving rfl (pi_range1 rfl T.range (pa_cons (pe_callB (kLenL (K := K) rfl) (by rfl) T.len (by decide +kernel) (pa_cons (pv 2) pa_nil)) pa_nil)) (pg_name (i := 3) sc_read.nd rfl (Or.inl rfl)) (pss_cons (ps_set (i := 4) sc_read.nd rfl (Or.inl rfl) (pe_split (pe_ix (kIxL (K := K) rfl) (pv 2) (pv 3) (fun _ _ => rfl)) pe_str))
    (pss_cons (ps_setLc (i := 4) (own := [("word", 10)]) (g := gName 10) (by rfl) sc_read.nd rfl rfl (sw_true rfl rfl rfl (by decide +kernel)) (kPiL (K := K) rfl (pv 4)) (blkOk_by (own := [("word", 10)]) (N := ["text", "tree", "rows", "k", "words", "blanks", "shape", "elder", "deep", "odd", "word"]) (sc := defScope s_read) (by decide +kernel)) (fun _ _ _ _ _ => pg_name (i := 10) sc_read.nd rfl (Or.inl rfl)) (fun _ _ _ _ _ => pts_one (by exact (pt_cmpR op_ne (pv 10) pe_str (nomark _)))) (fun _ _ _ _ _ => by exact (pv 10)))
    (pss_cons (ps_if (PW.pt (pw_or (pt_cmpR (op_eqE hr.units) (pv 4) (pe_lst pa_nil) (nomark _)) (pw_or1 (pt_val (pe_m1 PySem.F.slot_str_startswith PySem.F.type_str_startswith mt_startswith (pe_ix (kIxL (K := K) rfl) (pv 4) pe_int (fun _ _ => rfl)) pe_str))))) (pss_one ps_continue) pss_nil)
    (pss_cons (ps_set (i := 5) sc_read.nd rfl (Or.inl rfl) (pe_op op_sub (pe_callB call_lenS (by rfl) T.len (by decide +kernel) (pa_cons (pe_ix (kIxL (K := K) rfl) (pv 2) (pv 3) (fun _ _ => rfl)) pa_nil)) (pe_callB call_lenS (by rfl) T.len (by decide +kernel) (pa_cons (kBm (K := K) rfl PySem.F.plainAttrs_str PySem.F.slot_str_lstrip PySem.F.type_str_lstrip mt_lstripChars (pe_ix (kIxL (K := K) rfl) (pv 2) (pv 3) (fun _ _ => rfl)) (pa_cons pe_str pa_nil)) pa_nil))))
    (pss_cons (ps_asg (pe_callB call_divmodI (by rfl) T.divmod (by decide +kernel) (pa_cons (pv 5) (pa_cons pe_int pa_nil))) (kTup (K := K) rfl rfl (pgs_cons (pg_name (i := 8) sc_read.nd rfl (Or.inl rfl)) (pgs_cons (pg_name (i := 9) sc_read.nd rfl (Or.inl rfl)) pgs_nil))))
    (pss_cons (ps_set (i := 6) sc_read.nd rfl (Or.inl rfl) (pe_ca (P := P) (w := w) (K := K) (mg := mg) (base := base) ⟨rfl, rfl, rfl, rfl, rfl⟩ hr rfl (pa_cons (pv 4) pa_nil)))
    (pss_cons (ps_set (i := 7) sc_read.nd rfl (Or.inl rfl) (pe_ca (P := P) (w := w) (K := K) (mg := mg) (base := base) ⟨rfl, rfl, rfl, rfl, rfl⟩ hr rfl (pa_cons (pv 1) (pa_cons (pv 8) pa_nil))))
    (pss_cons (ps_if (PW.pt (pw_or (pt_cmpR op_gt (pv 9) pe_int (nomark _)) (pw_or (pt_cmpR op_gt (pv 8) (pe_gv (mg := mg) rfl rfl) (nomark _)) (pw_or (pt_cmpR op_isNn (pv 6) pe_non (nomark _)) (pw_or (pt_cmpR op_eq (pv 7) (pe_un un_neg pe_int) (nomark _)) (pw_or1 (pt_cmp (pc_din hu (kFld (K := K) rfl (pv 6)) (kFld (K := K) rfl (pv 1)))))))))) (pss_one (L2N.ps_raise rfl (L2N.takes_of rfl rfl rfl rfl) (pmk_oexN (P := P) (w := w) (K := K) (mg := mg) (base := base) ⟨rfl, rfl, rfl, rfl, rfl⟩ hr rfl (pa_cons (pe_op op_add (pv 3) pe_int) pa_nil)))) pss_nil)
    (C8.pss_cut (ps_if (PW.pt (pw_and (pt_cmpR op_eq (pv 7) (pe_un un_neg pe_int) (nomark _)) (pw_and1 (pt_val (pe_ma0 (P := P) (w := w) (K := K) (mg := mg) (base := base) ⟨rfl, rfl, rfl, rfl, rfl⟩ hr (pv 6)))))) (pss_one (L2N.ps_raise rfl (L2N.takes_of rfl rfl rfl rfl) (pmk_oexN (P := P) (w := w) (K := K) (mg := mg) (base := base) ⟨rfl, rfl, rfl, rfl, rfl⟩ hr rfl (pa_cons (pe_op op_add (pv 3) pe_int) pa_nil)))) pss_nil)
    (pss_cons (ps_if (pt_cmpR op_eq (pe_callB (kLenL (K := K) rfl) (by rfl) T.len (by decide +kernel) (pa_cons (kFld (K := K) rfl (pv 1)) pa_nil)) (pe_gv (mg := mg) rfl rfl) (nomark _)) (pss_one (L2N.ps_raise rfl (L2N.takes_of rfl rfl rfl rfl) (L2N.pmk_own PySem.F.excBase_ValueError e_TooMany.xf e_TooMany.g e_TooMany.k (raises_own e_TooMany.b e_TooMany.t) rfl))) pss_nil)
    (pss_one (ps_expr (pe_ma (P := P) (w := w) (K := K) (mg := mg) (base := base) ⟨rfl, rfl, rfl, rfl, rfl⟩ hr (pv 1) (pa_cons (pv 6) (pa_cons (pv 7) pa_nil))))))))))))))))
    (pss_cons (ps_if (pt_cmpR (op_eqE hr.units) (kFld (K := K) rfl (pv 1)) (pe_lst pa_nil) (nomark _)) (pss_one (L2N.ps_raise rfl (L2N.takes_of rfl rfl rfl rfl) (L2N.pmk_own PySem.F.excBase_ValueError e_NoTop.xf e_NoTop.g e_NoTop.k (raises_own e_NoTop.b e_NoTop.t) rfl))) pss_nil)
    (pss_one (ps_ret (pv 1))))))), ?_⟩
  walk_at "rd"
  refine w_mka MT (by decide) ?_
  walk_at "rd"
  refine fun t dx ht hdx ne => ⟨t, dx, rfl, upd_same, fun A H1 et R o1 n1 => ?_⟩
  subst et
  refine ⟨rfl, ?_⟩
  have fresh : ∀ b ∈ A.foot, H b = none := fun b hb => by
    rcases n1 b hb with h | h
    · rw [List.mem_singleton] at h
      rw [h]
      exact ht
    · exact updN (updN h)
  have s1 : Same H H1 := fun b u hu => by
    have e1 : b ≠ A.t := neN ht hu
    have e2 : b ≠ dx := neN hdx hu
    refine o1 b u (by simpa using e1) ?_
    walk_at "hp"
  clear o1 n1 ne hdx ht
  walk_at "rd"
  refine ⟨x, _, rfl, rfl, rfl, by omega, fun r hr2 => ?_⟩
  have el : (rowsM x).length ≤ 100002 := Nat.le_trans (split_le x "\n") (by omega)
  have s2 := same_upd (o := .lst ((rowsM x).map V.str)) s1 hr2
  have R0 := R
  have R := R.same (same_new hr2 (.lst ((rowsM x).map V.str)))
  have hrows : upd H1 r (.lst ((rowsM x).map V.str)) r = some (.lst ((rowsM x).map V.str)) := upd_same
  have rf : r ∉ A.foot := fun hm => (R0.some_ r hm).elim fun o ho => absurd ho (by rw [hr2]; exact fun z => by cases z)
  show gName 2 (V.ref r) _ (upd H1 r (.lst ((rowsM x).map V.str))) _
  generalize upd H1 r (.lst ((rowsM x).map V.str)) = H2 at s2 R hrows ⊢
  walk_at "rd"
  rw [List.length_map]
  refine w_forR (RInv CT cls x r H (readM x))
    (by omega) (by omega) ⟨_, _, _, _, _, _, _, _, A, .nil, rfl, s2, R, WF_nil, hrows, rf, fresh, rfl⟩ (fun i σ H3 hi hm => ?_) (fun σ H3 hm => ?_)
  · obtain ⟨v3, v4, v5, v6, v7, v8, v9, v10, A', D, rfl, s3, R3, W, hr3, rf3, fr3, hgo⟩ := hm
    have hi : i < (rowsM x).length := by omega
    obtain ⟨row, hrw⟩ : ∃ row, (rowsM x)[i]? = some row := ⟨_, List.getElem?_eq_getElem hi⟩
    have lrow := hrow row (List.mem_of_getElem? hrw)
    have hix : ((rowsM x).map V.str)[i]? = some (.str row) := by rw [List.getElem?_map, hrw]; rfl
    have hstep := (readGo_step (D := D) hrw).symm.trans hgo
    walk_at "rd"
    refine w_ixL (SqL.of hr3) (at_nat (i := i) (by omega) hix) ?_
    walk_at "rd"
    refine ⟨row, _, rfl, rfl, rfl, by omega, fun p hp => ?_⟩
    have s4 := same_new hp (.lst ((Txt.split row " ").map V.str))
    have hp4 : upd H3 p (.lst ((Txt.split row " ").map V.str)) p = some (.lst ((Txt.split row " ").map V.str)) := upd_same
    show gName 4 (V.ref p) _ (upd H3 p (.lst ((Txt.split row " ").map V.str))) _
    have lsp : (Txt.split row " ").length ≤ 642 := Nat.le_trans (split_le row " ") (by omega)
    have R4 := R3.same s4
    have hr4 := s4 _ _ hr3
    have s34 := s3.trans s4
    generalize upd H3 p (.lst ((Txt.split row " ").map V.str)) = H4 at s4 hp4 R4 hr4 s34 ⊢
    walk_at "rd"
    refine w_lcL (xs := (Txt.split row " ").map V.str) (LcF H4 ((Txt.split row " ").map V.str) keepW) (SqL.of hp4) (fun C h => lcF_0 h) (fun C i H' _ _ p => p.1.seq (SqL.of hp4)) (fun C j v H' hC hx p => ?_) (fun C H5 hC p => ?_)
    · rw [List.getElem?_map] at hx
      obtain ⟨z, hz', rfl⟩ := Option.map_eq_some_iff.mp hx
      walk_at "rd"
      walk_at "if"
      all_goals rename_i c
      all_goals walk_at "rd"
      · refine lcF_yes p hC (by rw [List.getElem?_map, hz']; rfl) (show keepW (.str z) = some (.str z) from if_neg fun e => c (congrArg V.str e)) (by rw [List.length_map]; omega)
      · refine lcF_no p (by rw [List.getElem?_map, hz']; rfl) (show keepW (.str z) = none from if_pos (V.str.inj c))
    have hC5 := p.2
    rw [List.take_length, keepW_map] at hC5
    have hC5 : H5 C = some (.lst ((wordsM row).map V.str)) := hC5
    have s5 := p.1
    have lws := wordsM_len lrow
    have R5 := R4.same s5
    have hr5 := s5 _ _ hr4
    have s35 := s34.trans s5
    clear p hp4 hr4 R4 s34
    walk_at "rd"
    have hbad : rowM D row = .bad → ∀ dd H', Same H5 H' → H' dd = some (.xd [("row", .int ((0 : Int) + (i : Int) + 1))]) → H5 dd = none → E (.ref cB) (some dd) H' := fun e dd H' s' hx hn => by
      rw [e] at hstep
      refine qB (i + 1) hstep.symm dd H' (s35.trans s') ?_ (same_none s35 hn)
      rw [hx]
      have : (0 : Int) + (i : Int) + 1 = ((i + 1 : Nat) : Int) := by omega
      rw [this]
    have hmany : rowM D row = .many → ∀ H', Same H5 H' → E (.ref cM) none H' := fun e H' s' => by
      rw [e] at hstep
      exact qM hstep.symm H' (s35.trans s')
    have skip : ∀ H', Same H5 H' → rowM D row = .skip → ∀ v3 v4 v5 v6 v7 v8 v9 v10 : Option V, RInv CT cls x r H (readM x) (i + 1) [some (V.str x), some (.ref A'.t), some (.ref r), v3, v4, v5, v6, v7, v8, v9, v10] H' := fun H' s' e v3 v4 v5 v6 v7 v8 v9 v10 => by
      rw [e] at hstep
      exact ⟨_, _, _, _, _, _, _, _, A', D, rfl, s35.trans s', R5.same s', W, s' _ _ hr5, rf3, fr3, hstep⟩
    refine ⟨Nat.zero_le _, fun b hb => ?_⟩
    have s6 := same_new hb (.lst [])
    walk_at "rd"
    have em : ((wordsM row).map V.str).isEmpty = decide (wordsM row = []) := by cases wordsM row <;> rfl
    rw [em]
    by_cases c1 : wordsM row = []
    · rw [decide_eq_true c1]
      walk_at "rd"
      exact skip _ s6 (if_pos (.inl c1)) _ _ _ _ _ _ _ _
    rw [decide_eq_false c1]
    have R6 := R5.same s6
    have hr6 := s6 _ _ hr5
    have hC6 := s6 _ _ hC5
    generalize upd H5 b (.lst []) = H6 at s6 R6 hr6 hC6 ⊢
    walk_at "rd"
    have lpos : 0 < (wordsM row).length := List.length_pos_iff.mpr c1
    refine w_ixL (SqL.of hC6) (at_nat (i := 0) rfl (wAt_at lpos)) ?_
    walk_at "rd"
    refine ⟨_, _, rfl, rfl, ?_⟩
    walk_at "rd"
    walk_at "if"
    · rename_i c2
      walk_at "rd"
      exact skip _ s6 (if_pos (.inr c2)) _ _ _ _ _ _ _ _
    rename_i c2
    have un : rowM D row = match shapeM (wordsM row) with
      | none => .bad
      | some s =>
        if 0 < blanksM row % 2 ∨ 8 < blanksM row / 2 ∨ elderM D ((blanksM row / 2 : Nat) : Int) = -2 ∨ s.name ∈ D.shs.map Shp.name then .bad
        else if elderM D ((blanksM row / 2 : Nat) : Int) = -1 ∧ s.kind < 3 then .bad
        else if D.n = 64 then .many
        else .add s (elderM D ((blanksM row / 2 : Nat) : Int)) := by
      unfold rowM
      rw [if_neg]
      rintro (z | z)
      · exact c1 z
      · rw [z] at c2; cases c2
    walk_at "rd"
    refine w_ixL (SqL.of hr6) (at_nat (i := i) (by omega) hix) ?_
    walk_at "rd"
    refine w_ixL (SqL.of hr6) (at_nat (i := i) (by omega) hix) ?_
    walk_at "rd"
    refine ⟨row, _, rfl, rfl, by omega, ?_⟩
    have lst : (Txt.lstripChars row " ").length ≤ row.length := len_stripBy _ _ _ _
    walk_at "rd"
    have eb : (row.length : Int) - ((Txt.lstripChars row " ").length : Int) = (blanksM row : Int) := by unfold blanksM; omega
    rw [eb]
    refine w_divmod ⟨by decide, by decide⟩ fun q2 hq2 => ?_
    have ed : (blanksM row : Int) / 2 = ((blanksM row / 2 : Nat) : Int) := by omega
    have eo : (blanksM row : Int) % 2 = ((blanksM row % 2 : Nat) : Int) := by omega
    rw [ed, eo]
    have s7 := same_upd (o := .tup [V.int ((blanksM row / 2 : Nat) : Int), V.int ((blanksM row % 2 : Nat) : Int)]) s6 hq2
    walk_at "rd"
    have s67 := same_new hq2 (.tup [V.int ((blanksM row / 2 : Nat) : Int), V.int ((blanksM row % 2 : Nat) : Int)])
    have R7 := R6.same s67
    have hr7 := s67 _ _ hr6
    have hC7 := s67 _ _ hC6
    generalize upd H6 q2 (.tup [V.int ((blanksM row / 2 : Nat) : Int), V.int ((blanksM row % 2 : Nat) : Int)]) = H7 at s7 R7 hr7 hC7 ⊢
    clear s67 hr6 hC6 R6 s6 hb hq2
    refine w_ca CS (by decide) ?_
    walk_at "rd"
    refine ⟨C, wordsM row, rfl, SqL.of hC7, lws, fun v H8 s8 hv => ?_⟩
    have R8 := R7.same s8
    have hr8 := s8 _ _ hr7
    have s58 := s7.trans s8
    clear R7 hr7 hC7
    walk_at "rd"
    refine w_ca CE (by decide) ?_
    walk_at "rd"
    refine ⟨A', D, _, rfl, R8.toTR, W, by omega, fun H9 s9 => ?_⟩
    have R9 := R8.same s9
    have hr9 := s9 _ _ hr8
    have s59 := s58.trans s9
    have hv : ShV cls (shapeM (wordsM row)) v H9 := by
      unfold ShV at hv ⊢
      split
      · rename_i e; rw [e] at hv; exact hv
      · rename_i s' e
        rw [e] at hv
        obtain ⟨p, hp, sp⟩ := hv
        exact ⟨p, hp, sp.same s9⟩
    clear R8 hr8 s58 s8 s9 s7
    have hel := elder_cases D (blanksM row / 2) W
    walk_at "rd"
    by_cases c3 : 0 < blanksM row % 2
    · rw [decide_eq_true (show (0 : Int) < ((blanksM row % 2 : Nat) : Int) by omega)]
      walk_at "rd"
      refine raise_bad OB (by decide) (fun Q' q' => ?_) fun dd H' s' hx hn => hbad ?_ dd H' (s59.trans s') hx (same_none s59 hn)
      · walk_at "rd"
        exact q'
      rw [un]
      split
      · rfl
      · exact if_pos (.inl c3)
    rw [decide_eq_false (show ¬ (0 : Int) < ((blanksM row % 2 : Nat) : Int) by omega)]
    walk_at "rd"
    refine w_gv (v := .int 8) gD ⟨_, rfl⟩ ?_
    walk_at "rd"
    by_cases c4 : 8 < blanksM row / 2
    · rw [decide_eq_true (show (8 : Int) < ((blanksM row / 2 : Nat) : Int) by omega)]
      walk_at "rd"
      refine raise_bad OB (by decide) (fun Q' q' => ?_) fun dd H' s' hx hn => hbad ?_ dd H' (s59.trans s') hx (same_none s59 hn)
      · walk_at "rd"
        exact q'
      rw [un]
      split
      · rfl
      · exact if_pos (.inr (.inl c4))
    rw [decide_eq_false (show ¬ (8 : Int) < ((blanksM row / 2 : Nat) : Int) by omega)]
    walk_at "rd"
    cases hs : shapeM (wordsM row) with
    | none =>
      rw [hs] at hv
      obtain rfl := hv
      rw [decide_eq_true rfl]
      walk_at "rd"
      refine raise_bad OB (by decide) (fun Q' q' => ?_) fun dd H' s' hx hn => hbad (by rw [un, hs]) dd H' (s59.trans s') hx (same_none s59 hn)
      walk_at "rd"
      exact q'
    | some sh =>
      rw [hs] at hv
      rw [hs] at un
      dsimp only at un
      obtain ⟨p, rfl, sp⟩ := hv
      rw [decide_eq_false (show ¬ V.ref p = V.non from fun z => by cases z)]
      walk_at "rd"
      by_cases c5 : elderM D ((blanksM row / 2 : Nat) : Int) = -2
      · rw [decide_eq_true (show V.int (elderM D ((blanksM row / 2 : Nat) : Int)) = V.int (-2) by rw [c5])]
        walk_at "rd"
        refine raise_bad OB (by decide) (fun Q' q' => ?_) fun dd H' s' hx hn => hbad (un.trans (if_pos (.inr (.inr (.inl c5))))) dd H' (s59.trans s') hx (same_none s59 hn)
        walk_at "rd"
        exact q'
      rw [decide_eq_false (show ¬ V.int (elderM D ((blanksM row / 2 : Nat) : Int)) = V.int (-2) from fun z => c5 (V.int.inj z))]
      walk_at "rd"
      have ok := shape_ok hs
      have cp := kc.cf sh.kind ok.kd
      obtain ⟨dxp, hp⟩ := sp
      refine w_fld1 hp cp.cl (cp.no _ (attr_name _)) (fld_name sh) ?_
      have ht9 := R9.ht
      unfold treeF at ht9
      walk_at "rd"
      refine w_dget1 (k := Sum.inr sh.name) R9.hkn rfl ?_
      walk_at "rd"
      by_cases c6 : sh.name ∈ D.shs.map Shp.name
      · obtain ⟨kk, ek⟩ := kvs_some c6
        rw [ek]
        walk_at "rd"
        rw [Option.isSome_some]
        walk_at "rd"
        refine raise_bad OB (by decide) (fun Q' q' => ?_) fun dd H' s' hx hn => hbad (un.trans (if_pos (.inr (.inr (.inr c6))))) dd H' (s59.trans s') hx (same_none s59 hn)
        walk_at "rd"
        exact q'
      rw [kvs_none c6]
      walk_at "rd"
      rw [Option.isSome_none]
      walk_at "rd"
      generalize he : elderM D ((blanksM row / 2 : Nat) : Int) = e at un c5 hel
      refine w_cut (fun σ H' => σ = [some (.str x), some (.ref A'.t), some (.ref r), some (.int (0 + (i : Int))), some (.ref C), some (.int (blanksM row : Int)), some (.ref p), some (.int e), some (.int ((blanksM row / 2 : Nat) : Int)), some (.int ((blanksM row % 2 : Nat) : Int)), v10] ∧ H9 = H' ∧ ¬ (e = -1 ∧ sh.kind < 3)) ?_ (fun σ H' hm => ?_)
      · walk_at "rd"
        by_cases c7 : e = -1
        case neg =>
          rw [decide_eq_false (show ¬ V.int e = V.int (-1) from fun z => c7 (V.int.inj z))]
          walk_at "rd"
          exact ⟨rfl, rfl, fun z => c7 z.1⟩
        rw [decide_eq_true (show V.int e = V.int (-1) by rw [c7])]
        walk_at "rd"
        refine w_ma1 hp cp.cl (fld_leaf _) (kl.leaf _ ok.kd) (by decide) ?_
        walk_at "rd"
        refine ⟨p, dxp, _, rfl, hp, ?_⟩
        walk_at "rd"
        walk_at "if"
        all_goals rename_i c8
        all_goals walk_at "rd"
        · refine raise_bad OB (by decide) (fun Q' q' => ?_) fun dd H' s' hx hn => hbad (un.trans ?_) dd H' (s59.trans s') hx (same_none s59 hn)
          · walk_at "rd"
            exact q'
          rw [if_neg, if_pos ⟨c7, c8⟩]
          rintro (z | z | z | z)
          · exact c3 z
          · exact c4 z
          · exact c5 z
          · exact c6 z
        · exact ⟨rfl, rfl, fun z => c8 z.2⟩
      obtain ⟨rfl, rfl, c7⟩ := hm
      have hsh9 := R9.hsh
      walk_at "rd"
      rw [List.length_map, R9.lps]
      refine w_gv (v := .int 64) gB ⟨_, rfl⟩ ?_
      walk_at "rd"
      have un2 : rowM D row = if D.n = 64 then .many else .add sh e := by
        rw [un, if_neg, if_neg c7]
        rintro (z | z | z | z)
        · exact c3 z
        · exact c4 z
        · exact c5 z
        · exact c6 z
      by_cases c8 : D.n = 64
      · rw [decide_eq_true (show V.int (D.n : Int) = V.int 64 by rw [c8]; rfl)]
        walk_at "rd"
        exact hmany (un2.trans (if_pos c8)) _ s59
      rw [decide_eq_false (show ¬ V.int (D.n : Int) = V.int 64 from fun z => c8 (by have := V.int.inj z; omega))]
      walk_at "rd"
      rw [if_neg c8] at un2
      have hadd := row_add W un2
      refine w_ma1 ht9 cT.cl rfl MA (by decide) ?_
      walk_at "rd"
      refine ⟨A', D, p, sh, e, rfl, R9, W, ⟨dxp, hp⟩, ok.kd, c6, hadd.2.2.2.2.1, fun A2 H2' et2 R2 o2 n2 => ?_⟩
      rw [un2] at hstep
      walk_at "rd"
      refine ⟨_, _, _, _, _, _, _, _, A2, D.add sh e, by rw [et2], fun b u hb => ?_, R2, hadd.1, ?_, ?_, ?_, hstep⟩
      · refine o2 b u (fun hm => ?_) (s59 b u (s5 b u (s4 b u (s3 b u hb))))
        rw [fr3 b hm] at hb
        cases hb
      · exact o2 _ _ rf3 hr9
      · intro hm
        rcases n2 r hm with z | z
        · exact rf3 z
        · rw [hr9] at z
          cases z
      · intro b hb
        rcases n2 b hb with z | z
        · exact fr3 b z
        · cases hb2 : H b with
          | none => rfl
          | some u =>
            have := s59 b u (s5 b u (s4 b u (s3 b u hb2)))
            rw [z] at this
            cases this
  · obtain ⟨v3, v4, v5, v6, v7, v8, v9, v10, A', D, rfl, s3, R3, W, hr3, rf3, fr3, hgo⟩ := hm
    have ht3 := R3.ht
    unfold treeF at ht3
    have hsh3 := R3.hsh
    walk_at "rd"
    refine ⟨Nat.zero_le _, fun b hb => ?_⟩
    have s4 := same_new hb (.lst [])
    walk_at "rd"
    have en : ((rowsM x).length : Int).toNat = (rowsM x).length := Int.toNat_natCast _
    rw [en, List.drop_length] at hgo
    have hgo : (if D.n = 0 then RR.top else .ok D) = readM x := hgo
    by_cases c : D.n = 0
    · rw [if_pos c] at hgo
      have em : (A'.ps.map V.ref).isEmpty = true := by
        have := R3.lps
        cases e : A'.ps with
        | nil => rfl
        | cons => rw [e, c] at this; cases this
      rw [em]
      walk_at "rd"
      exact qN hgo.symm _ (s3.trans s4)
    rw [if_neg c] at hgo
    have em : (A'.ps.map V.ref).isEmpty = false := by
      have := R3.lps
      cases e : A'.ps with
      | nil => rw [e] at this; exact absurd this.symm c
      | cons => rfl
    rw [em]
    walk_at "rd"
    exact q D hgo.symm A' _ (s3.trans s4) (R3.same s4) W c fr3
end
end Mn

namespace Mn
open PySem PySem.Spec PyProof.Rows L2 TL
/-! ### trees as the laws make them: their text is read as they are -/
def TreeD.takeN (D : TreeD) (i : Nat) : TreeD := ⟨D.shs.take i, D.eld.take i, D.dps.take i⟩
structure Good (D : TreeD) : Prop where
  wf : D.WF
  pos : 0 < D.n
  eld : ∀ i, i < D.n → elderM (D.takeN i) (D.dp i : Int) = D.e i
theorem Good.takeN_n {D : TreeD} {i : Nat} (h : i ≤ D.n) : (D.takeN i).n = i := by
  show (D.shs.take i).length = i
  rw [List.length_take]
  exact Nat.min_eq_left h
theorem getD_take {α : Type} (l : List α) (d : α) {i k : Nat} (h : k < i) : (l.take i).getD k d = l.getD k d := by
  rw [List.getD_eq_getElem?_getD, List.getD_eq_getElem?_getD, List.getElem?_take_of_lt h]
theorem take_snoc {α : Type} (l : List α) (d : α) {i : Nat} (h : i < l.length) : l.take (i + 1) = l.take i ++ [l.getD i d] := by
  rw [List.take_add_one, List.getD_eq_getElem?_getD, List.getElem?_eq_getElem h]
  rfl
theorem Good.add {D : TreeD} (g : Good D) {i : Nat} (h : i < D.n) : (D.takeN i).add (D.sh i) (D.e i) = D.takeN (i + 1) := by
  have W := g.wf
  have e1 : D.shs.take (i + 1) = D.shs.take i ++ [D.sh i] := take_snoc _ _ h
  have e2 : D.eld.take (i + 1) = D.eld.take i ++ [D.e i] := take_snoc _ _ (by rw [W.le]; exact h)
  have e3 : D.dps.take (i + 1) = D.dps.take i ++ [D.dp i] := take_snoc _ _ (by rw [W.ld]; exact h)
  have e4 : D.dp i = if D.e i < 0 then 0 else (D.takeN i).dp (D.e i).toNat + 1 := by
    have el := W.el i h
    rw [W.dp i h]
    split
    · rfl
    · rw [show (D.takeN i).dp (D.e i).toNat = D.dp (D.e i).toNat from getD_take _ _ (by omega)]
  unfold TreeD.add
  rw [← e4]
  show (⟨D.shs.take i ++ [D.sh i], D.eld.take i ++ [D.e i], D.dps.take i ++ [D.dp i]⟩ : TreeD) = ⟨_, _, _⟩
  rw [← e1, ← e2, ← e3]
/-! words of a row, read back -/
theorem keep_free : ∀ k ∈ keeps3, (32 ∉ tl k ∧ 10 ∉ tl k) ∧ k ≠ "" := by decide +kernel
theorem num_free {i : Int} (h : 0 ≤ i) : (32 ∉ tl (Str.ofString (toString i)) ∧ 10 ∉ tl (Str.ofString (toString i))) ∧ Str.ofString (toString i) ≠ "" := by
  obtain ⟨n, rfl⟩ : ∃ n : Nat, i = (n : Int) := ⟨i.toNat, by omega⟩
  refine ⟨?_, fun e => ?_⟩
  · rw [tl_num]
    exact ⟨numL_free (.inl (by decide)), numL_free (.inl (by decide))⟩
  · have := congrArg tl e
    rw [tl_num] at this
    exact numL_ne n this
theorem numM_str {i : Int} (h : 0 ≤ i ∧ i ≤ 1000000) : numM (Str.ofString (toString i)) = some i := by
  obtain ⟨n, rfl⟩ : ∃ n : Nat, i = (n : Int) := ⟨i.toNat, by omega⟩
  exact num_yes (numOf_str n) h.2
theorem fit_ne {x : Str} (h : fitL (tl x) = true) : (32 ∉ tl x ∧ 10 ∉ tl x) ∧ x ≠ "" := by
  refine ⟨⟨fun m => ?_, fun m => ?_⟩, fun e => ?_⟩
  · unfold fitL at h
    rw [Bool.and_eq_true, List.all_eq_true] at h
    have := h.2 32 m
    revert this
    decide
  · unfold fitL at h
    rw [Bool.and_eq_true, List.all_eq_true] at h
    have := h.2 10 m
    revert this
    decide
  · rw [e] at h
    revert h
    decide
theorem kind6 {k : Nat} (h : k < 6) : k = 0 ∨ k = 1 ∨ k = 2 ∨ k = 3 ∨ k = 4 ∨ k = 5 := by omega
theorem shW_0 (nm kp : Str) (a b m : Int) : shW ⟨0, nm, kp, a, b, m⟩ = (["leaf", kp, toString a, toString b, "idle"] : List Str) := rfl
theorem shW_1 (nm kp : Str) (a b m : Int) : shW ⟨1, nm, kp, a, b, m⟩ = (["leaf", kp, toString a, toString b, "steady", toString m] : List Str) := rfl
theorem shW_2 (nm kp : Str) (a b m : Int) : shW ⟨2, nm, kp, a, b, m⟩ = (["leaf", kp, toString a, toString b, "falls", toString m] : List Str) := rfl
theorem shW_3 (nm kp : Str) (a b m : Int) : shW ⟨3, nm, kp, a, b, m⟩ = (["minder", kp, "one", toString a, toString b] : List Str) := rfl
theorem shW_4 (nm kp : Str) (a b m : Int) : shW ⟨4, nm, kp, a, b, m⟩ = (["minder", kp, "all", toString a, toString b] : List Str) := rfl
theorem shW_5 (nm kp : Str) (a b m : Int) : shW ⟨5, nm, kp, a, b, m⟩ = (["minder", kp, "rest", toString a, toString b] : List Str) := rfl
theorem shW_free {s : Shp} (ok : OkS s) : ∀ x ∈ shW s ++ [s.name], (32 ∉ tl x ∧ 10 ∉ tl x) ∧ x ≠ "" := by
  obtain ⟨k, nm, kp, a, b, m⟩ := s
  have f1 := keep_free kp ok.kp
  have f2 := num_free ok.a0.1
  have f3 := num_free ok.b0.1
  have f4 := num_free ok.m0.1
  have f5 := fit_ne ok.nm
  have lits : ∀ x ∈ (["leaf", "idle", "steady", "falls", "minder", "one", "all", "rest"] : List Str), (32 ∉ tl x ∧ 10 ∉ tl x) ∧ x ≠ "" := by decide +kernel
  have g := ok.kd
  dsimp only at f2 f3 f4 f5 g
  intro x hx
  rcases kind6 g with rfl | rfl | rfl | rfl | rfl | rfl
  · rw [shW_0] at hx
    simp only [List.cons_append, List.nil_append, List.mem_cons, List.not_mem_nil, or_false] at hx
    rcases hx with rfl | rfl | rfl | rfl | rfl | rfl
    · exact lits _ (by decide)
    · exact f1
    · exact f2
    · exact f3
    · exact lits _ (by decide)
    · exact f5
  · rw [shW_1] at hx
    simp only [List.cons_append, List.nil_append, List.mem_cons, List.not_mem_nil, or_false] at hx
    rcases hx with rfl | rfl | rfl | rfl | rfl | rfl | rfl
    · exact lits _ (by decide)
    · exact f1
    · exact f2
    · exact f3
    · exact lits _ (by decide)
    · exact f4
    · exact f5
  · rw [shW_2] at hx
    simp only [List.cons_append, List.nil_append, List.mem_cons, List.not_mem_nil, or_false] at hx
    rcases hx with rfl | rfl | rfl | rfl | rfl | rfl | rfl
    · exact lits _ (by decide)
    · exact f1
    · exact f2
    · exact f3
    · exact lits _ (by decide)
    · exact f4
    · exact f5
  · rw [shW_3] at hx
    simp only [List.cons_append, List.nil_append, List.mem_cons, List.not_mem_nil, or_false] at hx
    rcases hx with rfl | rfl | rfl | rfl | rfl | rfl
    · exact lits _ (by decide)
    · exact f1
    · exact lits _ (by decide)
    · exact f2
    · exact f3
    · exact f5
  · rw [shW_4] at hx
    simp only [List.cons_append, List.nil_append, List.mem_cons, List.not_mem_nil, or_false] at hx
    rcases hx with rfl | rfl | rfl | rfl | rfl | rfl
    · exact lits _ (by decide)
    · exact f1
    · exact lits _ (by decide)
    · exact f2
    · exact f3
    · exact f5
  · rw [shW_5] at hx
    simp only [List.cons_append, List.nil_append, List.mem_cons, List.not_mem_nil, or_false] at hx
    rcases hx with rfl | rfl | rfl | rfl | rfl | rfl
    · exact lits _ (by decide)
    · exact f1
    · exact lits _ (by decide)
    · exact f2
    · exact f3
    · exact f5
theorem lit_ne {a b : Str} (h : tl a ≠ tl b) : a ≠ b := fun e => h (congrArg tl e)
section
variable {ws : List Str} {g sl m : Int}
theorem shapeM_in (l : 6 ≤ ws.length) (hk : wAt ws 1 ∈ keeps3) (hf : fitL (tl (wAt ws (ws.length - 1))) = true) : shapeM ws = if wAt ws 0 = "leaf" then (leafR ws).join else if wAt ws 0 = "minder" ∧ ws.length = 6 then (minderR ws).join else none := by
  unfold shapeM
  rw [if_neg]
  rintro (z | z | z)
  · omega
  · exact z hk
  · rw [hf] at z
    cases z
theorem leafR_in (hg : numM (wAt ws 2) = some g) (hs : numM (wAt ws 3) = some sl) : leafR ws = if wAt ws 4 = "idle" ∧ ws.length = 6 then some (some ⟨0, wAt ws 5, wAt ws 1, g, sl, 0⟩)
      else if ws.length = 7 ∧ (wAt ws 4 = "steady" ∨ wAt ws 4 = "falls") then
        match numM (wAt ws 5) with
        | none => none
        | some m => some (some ⟨if wAt ws 4 = "steady" then 1 else 2, wAt ws 6, wAt ws 1, g, sl, m⟩)
      else some none := by
  unfold leafR
  rw [hg, hs] <;> rfl
theorem minderR_in (hm : numM (wAt ws 3) = some m) (hs : numM (wAt ws 4) = some sl) : minderR ws = if sl = 0 then some none
      else if wAt ws 2 = "one" then some (some ⟨3, wAt ws 5, wAt ws 1, m, sl, 0⟩)
      else if wAt ws 2 = "all" then some (some ⟨4, wAt ws 5, wAt ws 1, m, sl, 0⟩)
      else if wAt ws 2 = "rest" then some (some ⟨5, wAt ws 5, wAt ws 1, m, sl, 0⟩)
      else some none := by
  unfold minderR
  rw [hm, hs]
end
theorem shapeM_back {s : Shp} (ok : OkS s) : shapeM (shW s ++ [s.name]) = some s := by
  obtain ⟨k, nm, kp, a, b, m⟩ := s
  have g := ok.kd
  have na := numM_str ok.a0
  have nb := numM_str ok.b0
  have nm' := numM_str ok.m0
  have hk := ok.kp
  have hf := ok.nm
  have mz := ok.mz
  have b1 := ok.b1
  dsimp only at g na nb nm' hk hf mz b1 ⊢
  have l2 : ("minder" : Str) ≠ "leaf" := by decide
  have l4 : ("falls" : Str) ≠ "steady" := by decide
  have l5 : ("all" : Str) ≠ "one" := by decide
  have l6 : ("rest" : Str) ≠ "one" := by decide
  have l7 : ("rest" : Str) ≠ "all" := by decide
  rcases kind6 g with rfl | rfl | rfl | rfl | rfl | rfl
  · obtain rfl := mz (by decide) (by decide)
    rw [shW_0]
    obtain ⟨ws, e⟩ : ∃ ws, (["leaf", kp, toString a, toString b, "idle"] : List Str) ++ [nm] = ws := ⟨_, rfl⟩
    have h0 : wAt ws 0 = "leaf" := by rw [← e]; rfl
    have h1 : wAt ws 1 = kp := by rw [← e]; rfl
    have h2 : wAt ws 2 = Str.ofString (toString a) := by rw [← e]; rfl
    have h3 : wAt ws 3 = Str.ofString (toString b) := by rw [← e]; rfl
    have h4 : wAt ws 4 = "idle" := by rw [← e]; rfl
    have h5 : wAt ws 5 = nm := by rw [← e]; rfl
    have hl : ws.length = 6 := by rw [← e]; rfl
    have hx : wAt ws (ws.length - 1) = nm := by rw [hl]; exact h5
    rw [e, shapeM_in (by omega) (by rw [h1]; exact hk) (by rw [hx]; exact hf), if_pos h0, leafR_in (by rw [h2]; exact na) (by rw [h3]; exact nb), if_pos ⟨h4, hl⟩, h5, h1]
    rfl
  · rw [shW_1]
    obtain ⟨ws, e⟩ : ∃ ws, (["leaf", kp, toString a, toString b, "steady", toString m] : List Str) ++ [nm] = ws := ⟨_, rfl⟩
    have h0 : wAt ws 0 = "leaf" := by rw [← e]; rfl
    have h1 : wAt ws 1 = kp := by rw [← e]; rfl
    have h2 : wAt ws 2 = Str.ofString (toString a) := by rw [← e]; rfl
    have h3 : wAt ws 3 = Str.ofString (toString b) := by rw [← e]; rfl
    have h4 : wAt ws 4 = "steady" := by rw [← e]; rfl
    have h5 : wAt ws 5 = Str.ofString (toString m) := by rw [← e]; rfl
    have h6 : wAt ws 6 = nm := by rw [← e]; rfl
    have hl : ws.length = 7 := by rw [← e]; rfl
    have hx : wAt ws (ws.length - 1) = nm := by rw [hl]; exact h6
    rw [e, shapeM_in (by omega) (by rw [h1]; exact hk) (by rw [hx]; exact hf), if_pos h0, leafR_in (by rw [h2]; exact na) (by rw [h3]; exact nb), if_neg (fun z => by omega), if_pos ⟨hl, .inl h4⟩, h5, nm', if_pos h4, h6, h1]
    rfl
  · rw [shW_2]
    obtain ⟨ws, e⟩ : ∃ ws, (["leaf", kp, toString a, toString b, "falls", toString m] : List Str) ++ [nm] = ws := ⟨_, rfl⟩
    have h0 : wAt ws 0 = "leaf" := by rw [← e]; rfl
    have h1 : wAt ws 1 = kp := by rw [← e]; rfl
    have h2 : wAt ws 2 = Str.ofString (toString a) := by rw [← e]; rfl
    have h3 : wAt ws 3 = Str.ofString (toString b) := by rw [← e]; rfl
    have h4 : wAt ws 4 = "falls" := by rw [← e]; rfl
    have h5 : wAt ws 5 = Str.ofString (toString m) := by rw [← e]; rfl
    have h6 : wAt ws 6 = nm := by rw [← e]; rfl
    have hl : ws.length = 7 := by rw [← e]; rfl
    have hx : wAt ws (ws.length - 1) = nm := by rw [hl]; exact h6
    rw [e, shapeM_in (by omega) (by rw [h1]; exact hk) (by rw [hx]; exact hf), if_pos h0, leafR_in (by rw [h2]; exact na) (by rw [h3]; exact nb), if_neg (fun z => by omega), if_pos ⟨hl, .inr h4⟩, h5, nm', if_neg (by rw [h4]; exact l4), h6, h1]
    rfl
  · obtain rfl := mz (by decide) (by decide)
    have := b1 (by decide)
    rw [shW_3]
    obtain ⟨ws, e⟩ : ∃ ws, (["minder", kp, "one", toString a, toString b] : List Str) ++ [nm] = ws := ⟨_, rfl⟩
    have h0 : wAt ws 0 = "minder" := by rw [← e]; rfl
    have h1 : wAt ws 1 = kp := by rw [← e]; rfl
    have h2 : wAt ws 2 = "one" := by rw [← e]; rfl
    have h3 : wAt ws 3 = Str.ofString (toString a) := by rw [← e]; rfl
    have h4 : wAt ws 4 = Str.ofString (toString b) := by rw [← e]; rfl
    have h5 : wAt ws 5 = nm := by rw [← e]; rfl
    have hl : ws.length = 6 := by rw [← e]; rfl
    have hx : wAt ws (ws.length - 1) = nm := by rw [hl]; exact h5
    rw [e, shapeM_in (by omega) (by rw [h1]; exact hk) (by rw [hx]; exact hf), if_neg (by rw [h0]; exact l2), if_pos ⟨h0, hl⟩, minderR_in (by rw [h3]; exact na) (by rw [h4]; exact nb), if_neg (by omega), if_pos h2, h5, h1]
    rfl
  · obtain rfl := mz (by decide) (by decide)
    have := b1 (by decide)
    rw [shW_4]
    obtain ⟨ws, e⟩ : ∃ ws, (["minder", kp, "all", toString a, toString b] : List Str) ++ [nm] = ws := ⟨_, rfl⟩
    have h0 : wAt ws 0 = "minder" := by rw [← e]; rfl
    have h1 : wAt ws 1 = kp := by rw [← e]; rfl
    have h2 : wAt ws 2 = "all" := by rw [← e]; rfl
    have h3 : wAt ws 3 = Str.ofString (toString a) := by rw [← e]; rfl
    have h4 : wAt ws 4 = Str.ofString (toString b) := by rw [← e]; rfl
    have h5 : wAt ws 5 = nm := by rw [← e]; rfl
    have hl : ws.length = 6 := by rw [← e]; rfl
    have hx : wAt ws (ws.length - 1) = nm := by rw [hl]; exact h5
    rw [e, shapeM_in (by omega) (by rw [h1]; exact hk) (by rw [hx]; exact hf), if_neg (by rw [h0]; exact l2), if_pos ⟨h0, hl⟩, minderR_in (by rw [h3]; exact na) (by rw [h4]; exact nb), if_neg (by omega), if_neg (by rw [h2]; exact l5), if_pos h2, h5, h1]
    rfl
  · obtain rfl := mz (by decide) (by decide)
    have := b1 (by decide)
    rw [shW_5]
    obtain ⟨ws, e⟩ : ∃ ws, (["minder", kp, "rest", toString a, toString b] : List Str) ++ [nm] = ws := ⟨_, rfl⟩
    have h0 : wAt ws 0 = "minder" := by rw [← e]; rfl
    have h1 : wAt ws 1 = kp := by rw [← e]; rfl
    have h2 : wAt ws 2 = "rest" := by rw [← e]; rfl
    have h3 : wAt ws 3 = Str.ofString (toString a) := by rw [← e]; rfl
    have h4 : wAt ws 4 = Str.ofString (toString b) := by rw [← e]; rfl
    have h5 : wAt ws 5 = nm := by rw [← e]; rfl
    have hl : ws.length = 6 := by rw [← e]; rfl
    have hx : wAt ws (ws.length - 1) = nm := by rw [hl]; exact h5
    rw [e, shapeM_in (by omega) (by rw [h1]; exact hk) (by rw [hx]; exact hf), if_neg (by rw [h0]; exact l2), if_pos ⟨h0, hl⟩, minderR_in (by rw [h3]; exact na) (by rw [h4]; exact nb), if_neg (by omega), if_neg (by rw [h2]; exact l6), if_neg (by rw [h2]; exact l7), if_pos h2, h5, h1]
    rfl
end Mn

namespace Mn
open PySem PySem.Spec PyProof.Rows L2 TL
/-! ### rows of a good tree's text -/
def mkS (l : List Nat) : Str := ⟨l.toArray⟩
theorem tl_mkS (l : List Nat) : tl (mkS l) = l := rfl
theorem mkS_tl (x : Str) : mkS (tl x) = x := mk_tl x
theorem tl_lstrip1 (x : Str) (c : Nat) : tl (Txt.lstripChars x ⟨#[c]⟩) = (tl x).dropWhile (fun d => decide (d = c)) := by
  have h0 : ∀ d, (⟨#[c]⟩ : Str).cps.contains d = decide (d = c) := fun d => by
    show (Array.contains #[c] d) = _
    rw [Bool.eq_iff_iff]
    simp [Array.contains_eq_mem]
  have e : (⟨#[c]⟩ : Str).cps.contains = fun d => decide (d = c) := funext h0
  unfold Txt.lstripChars
  rw [stripBy_eq, tl_strSub, e]
  unfold stripLo stripHi
  rw [if_pos rfl, if_neg (by decide), len_tl x, List.take_of_length_le (by rw [List.length_drop]; exact Nat.le_refl _)]
  have : ∀ l : List Nat, l.drop (l.takeWhile (fun d => decide (d = c))).length = l.dropWhile (fun d => decide (d = c)) := fun l => by
    induction l with
    | nil => rfl
    | cons a r ih =>
      by_cases h : a = c
      · rw [List.takeWhile_cons_of_pos (by simpa using h), List.dropWhile_cons_of_pos (by simpa using h)]
        exact ih
      · rw [List.takeWhile_cons_of_neg (by simpa using h), List.dropWhile_cons_of_neg (by simpa using h)]
        rfl
  exact this _
theorem drop_blanks (c : Nat) {l : List Nat} (h : ∀ d r, l = d :: r → d ≠ c) : ∀ n : Nat, (List.replicate n c ++ l).dropWhile (fun d => decide (d = c)) = l
  | 0 => by
    cases l with
    | nil => rfl
    | cons d r => rw [List.replicate_zero, List.nil_append, List.dropWhile_cons_of_neg (by simpa using h d r rfl)]
  | n + 1 => by
    rw [List.replicate_succ, List.cons_append, List.dropWhile_cons_of_pos (by simp)]
    exact drop_blanks c h n
theorem blanks_is {row : Str} {n : Nat} {l : List Nat} (e : tl row = List.replicate n 32 ++ l) (h : ∀ d r, l = d :: r → d ≠ 32) : blanksM row = n := by
  have e2 := tl_lstrip1 row 32
  rw [e, drop_blanks 32 h] at e2
  unfold blanksM
  have e3 : (Txt.lstripChars row " ").length = l.length := by
    rw [len_tl]
    exact congrArg List.length e2
  rw [e3, len_tl, e, List.length_append, List.length_replicate]
  omega
theorem joinL_head {S : List Nat} {w : List Nat} {ws : List (List Nat)} (h : w ≠ []) : ∃ c r r', w = c :: r ∧ joinL S (w :: ws) = c :: r' := by
  obtain ⟨c, r, rfl⟩ := List.exists_cons_of_ne_nil h
  cases ws with
  | nil => exact ⟨c, r, r, rfl, rfl⟩
  | cons q qs => exact ⟨c, r, _, rfl, rfl⟩
def SkipL (p : List Nat) : Prop := (∃ n, p = List.replicate n 32) ∨ ∃ n r, p = List.replicate n 32 ++ 35 :: r
theorem wordsM_of {row : Str} {ws : List Str} (h : wordsL (tl row) = ws.map tl) : wordsM row = ws := map_tl_inj ((wordsM_tl row).trans h)
theorem row_skip {p : List Nat} (h : SkipL p) (D : TreeD) : rowM D (mkS p) = .skip := by
  rcases h with ⟨n, rfl⟩ | ⟨n, r, rfl⟩
  · refine if_pos (.inl (wordsM_of (ws := []) ?_))
    rw [tl_mkS, wordsL_only]
    rfl
  · refine if_pos (.inr ?_)
    have e : wordsL (tl (mkS (List.replicate n 32 ++ 35 :: r))) = wordsL (35 :: r) := by rw [tl_mkS, wordsL_blanks]
    obtain ⟨q, qs, e1, e2⟩ := splitL_miss (s := 32) (c := 35) (by decide) r
    have e3 : wordsL (35 :: r) = (35 :: q) :: qs.filter fun p => decide (p ≠ []) := by
      unfold wordsL
      rw [e2, List.filter_cons_of_pos (by simp)]
    have e4 : (wordsM (mkS (List.replicate n 32 ++ 35 :: r))).map tl = (35 :: q) :: qs.filter fun p => decide (p ≠ []) := by rw [wordsM_tl, e, e3]
    cases h : wordsM (mkS (List.replicate n 32 ++ 35 :: r)) with
    | nil => rw [h] at e4; cases e4
    | cons a as =>
      rw [h] at e4
      injection e4 with e5 _
      show Txt.startswith a "#" = true
      have := starts_one a 35
      rw [e5] at this
      exact this.trans (decide_eq_true rfl)
def RowL (D : TreeD) (i : Nat) (l : List Nat) : Prop := ∃ gp tr : Nat, l = List.replicate (2 * D.dp i) 32 ++ (joinL (List.replicate (gp + 1) 32) ((shW (D.sh i) ++ [(D.sh i).name]).map tl) ++ List.replicate tr 32)
theorem shW_ne (s : Shp) : shW s ++ [s.name] ≠ [] := by simp
theorem sh_mem {D : TreeD} {i : Nat} (h : i < D.n) : D.sh i ∈ D.shs := by
  unfold TreeD.sh
  rw [List.getD_eq_getElem?_getD, List.getElem?_eq_getElem h]
  exact List.getElem_mem h
theorem name_new {D : TreeD} (W : D.WF) {i : Nat} (h : i < D.n) : (D.sh i).name ∉ (D.takeN i).shs.map Shp.name := by
  intro hm
  have nd := W.nm
  have e : D.shs.map Shp.name = (D.shs.take i).map Shp.name ++ (D.shs.drop i).map Shp.name := by rw [← List.map_append, List.take_append_drop]
  rw [e, List.nodup_append] at nd
  refine nd.2.2 _ hm (D.sh i).name ?_ rfl
  refine List.mem_map_of_mem ?_
  have e2 : D.shs.drop i = D.sh i :: D.shs.drop (i + 1) := by
    rw [List.drop_eq_getElem_cons h]
    unfold TreeD.sh
    rw [List.getD_eq_getElem?_getD, List.getElem?_eq_getElem h]
    rfl
  rw [e2]
  exact List.mem_cons_self
theorem row_good {D : TreeD} (g : Good D) {i : Nat} (hi : i < D.n) {l : List Nat} (h : RowL D i l) : rowM (D.takeN i) (mkS l) = .add (D.sh i) (D.e i) := by
  obtain ⟨gp, tr, h⟩ := h
  have W := g.wf
  have ok := W.ok _ (sh_mem hi)
  have fr := shW_free ok
  have fr' : ∀ p ∈ (shW (D.sh i) ++ [(D.sh i).name]).map tl, 32 ∉ p ∧ p ≠ [] := fun p hp => by
    obtain ⟨x, hx, rfl⟩ := List.mem_map.mp hp
    exact ⟨(fr x hx).1.1, fun e => (fr x hx).2 (eq_nil_tl.mpr e)⟩
  have hw : wordsM (mkS l) = shW (D.sh i) ++ [(D.sh i).name] := by
    refine wordsM_of ?_
    rw [tl_mkS, h, wordsL_blanks, wordsL_tail, wordsL_join gp _ fr']
  have hb : blanksM (mkS l) = 2 * D.dp i := by
    refine blanks_is (by rw [tl_mkS, h]) fun d r e => ?_
    cases e2 : (shW (D.sh i) ++ [(D.sh i).name]).map tl with
    | nil => simp at e2
    | cons w ws =>
      rw [e2] at fr' e
      have fw := fr' w List.mem_cons_self
      obtain ⟨c, r1, r2, e3, e4⟩ := joinL_head (S := List.replicate (gp + 1) 32) (ws := ws) fw.2
      rw [e4, List.cons_append] at e
      injection e with e5 _
      rw [← e5]
      exact fun z => fw.1 (by rw [e3, z]; exact List.mem_cons_self)
  have hn : (D.takeN i).n = i := Good.takeN_n (by omega)
  have ed : (2 * D.dp i) / 2 = D.dp i := by omega
  have eo : (2 * D.dp i) % 2 = 0 := by omega
  have he := g.eld i hi
  have hc := elder_cases (D.takeN i) (D.dp i)
  have d8 := W.d8 i hi
  have sz := W.sz
  unfold rowM
  rw [hw, hb, ed, eo, he, shapeM_back ok, if_neg ?_]
  · dsimp only
    rw [if_neg ?_, if_neg ?_, if_neg (by rw [hn]; omega)]
    · rintro ⟨z1, z2⟩
      have := W.el i hi
      have e0 : i = 0 := by omega
      subst e0
      have := W.top hi
      omega
    · rintro (z | z | z | z)
      · omega
      · omega
      · have := W.el i hi
        omega
      · exact name_new W hi z
  · rintro (z | z)
    · exact shW_ne _ z
    · have hd : wAt (shW (D.sh i) ++ [(D.sh i).name]) 0 = "leaf" ∨ wAt (shW (D.sh i) ++ [(D.sh i).name]) 0 = "minder" := by
        have hk := ok.kd
        generalize D.sh i = s at hk ⊢
        obtain ⟨k, nm, kp, a, b, m⟩ := s
        dsimp only at hk
        rcases kind6 hk with e | e | e | e | e | e <;> subst e
        · exact .inl rfl
        · exact .inl rfl
        · exact .inl rfl
        · exact .inr rfl
        · exact .inr rfl
        · exact .inr rfl
      rcases hd with e | e
      · rw [e] at z
        revert z
        decide +kernel
      · rw [e] at z
        revert z
        decide +kernel
def GoodRow (D : TreeD) (i : Nat) (l : List Nat) : Prop := ∃ pre post row, splitL 10 l = pre ++ row :: post ∧ (∀ p ∈ pre, SkipL p) ∧ (∀ p ∈ post, SkipL p) ∧ RowL D i row
theorem rows_is (x : Str) : rowsM x = (splitL 10 (tl x)).map mkS := by
  refine map_tl_inj ?_
  rw [List.map_map]
  have e := split_is (x := x) (y := "\n") (s := 10) rfl (by decide)
  refine e.trans ?_
  exact (List.map_id _).symm
theorem go_skips (D : TreeD) : ∀ (ps : List (List Nat)) (rs : List Str) (k : Nat), (∀ p ∈ ps, SkipL p) → readGo (ps.map mkS ++ rs) D k = readGo rs D (k + ps.length)
  | [], rs, k, _ => rfl
  | p :: ps, rs, k, h => by
    rw [List.map_cons, List.cons_append]
    show (match rowM D (mkS p) with
      | .skip => readGo (ps.map mkS ++ rs) D (k + 1)
      | .bad => .bad (k + 1)
      | .many => .many
      | .add s e => readGo (ps.map mkS ++ rs) (D.add s e) (k + 1)) = _
    rw [row_skip (h p List.mem_cons_self)]
    dsimp only
    rw [go_skips D ps rs (k + 1) fun q hq => h q (List.mem_cons_of_mem _ hq), List.length_cons, Nat.add_assoc, Nat.add_comm 1]
theorem splitL_join (s : Nat) : ∀ (ps : List (List Nat)), ps ≠ [] → splitL s (joinL [s] ps) = ps.flatMap (splitL s)
  | [p], _ => by simp [joinL]
  | p :: q :: r, _ => by
    show splitL s (p ++ ([s] ++ joinL [s] (q :: r))) = _
    rw [List.singleton_append, splitL_app, splitL_join s (q :: r) (by simp)]
    rfl
theorem go_good {D : TreeD} (g : Good D) (R : Nat → List Nat) : ∀ (m i k : Nat), i + m = D.n → (∀ j, i ≤ j → j < D.n → GoodRow D j (R j)) → readGo ((((List.range' i m).map R).flatMap (splitL 10)).map mkS) (D.takeN i) k = .ok D
  | 0, i, k, h, _ => by
    have hi : i = D.n := by omega
    subst hi
    have e : D.takeN D.n = D := by
      have W := g.wf
      unfold TreeD.takeN
      rw [List.take_of_length_le (show D.shs.length ≤ D.n from Nat.le_refl _), List.take_of_length_le (by rw [W.le]; exact Nat.le_refl _), List.take_of_length_le (by rw [W.ld]; exact Nat.le_refl _)]
    rw [e]
    show (if D.n = 0 then RR.top else .ok D) = _
    have := g.pos
    rw [if_neg (by omega)]
  | m + 1, i, k, h, hR => by
    obtain ⟨pre, post, row, e, h1, h2, h3⟩ := hR i (Nat.le_refl i) (by omega)
    rw [List.range'_succ, List.map_cons, List.flatMap_cons, e, List.append_assoc, List.cons_append, List.map_append, List.map_cons, go_skips _ _ _ _ h1]
    show (match rowM (D.takeN i) (mkS row) with
      | .skip => _
      | .bad => _
      | .many => _
      | .add s e => readGo _ ((D.takeN i).add s e) _) = _
    rw [row_good g (by omega) h3]
    dsimp only
    rw [g.add (by omega), List.map_append, go_skips _ _ _ _ h2]
    exact go_good g R m (i + 1) _ (by omega) fun j a b => hR j (by omega) b
theorem read_good {D : TreeD} (g : Good D) {x : Str} (R : Nat → List Nat) (hx : tl x = joinL [10] ((List.range D.n).map R)) (hR : ∀ i, i < D.n → GoodRow D i (R i)) : readM x = .ok D := by
  unfold readM
  have hne : (List.range D.n).map R ≠ [] := by
    have := g.pos
    intro e
    have := congrArg List.length e
    simp at this
    omega
  rw [rows_is, hx, splitL_join 10 _ hne, List.range_eq_range']
  exact go_good g R D.n 0 0 (by omega) fun j _ hj => hR j hj
theorem rows_len {D : TreeD} (g : Good D) {x : Str} (R : Nat → List Nat) (hx : tl x = joinL [10] ((List.range D.n).map R)) {m : Nat} (hR : ∀ i, i < D.n → (R i).length ≤ m) : ∀ r ∈ rowsM x, r.length ≤ m := by
  intro r hr
  have hne : (List.range D.n).map R ≠ [] := by
    have := g.pos
    intro e
    have := congrArg List.length e
    simp at this
    omega
  rw [rows_is, hx, splitL_join 10 _ hne] at hr
  obtain ⟨p, hp, rfl⟩ := List.mem_map.mp hr
  obtain ⟨q, hq, hp⟩ := List.mem_flatMap.mp hp
  obtain ⟨i, hi, rfl⟩ := List.mem_map.mp hq
  rw [len_tl, tl_mkS]
  exact Nat.le_trans (splitL_len 10 _ _ hp) (hR i (List.mem_range.mp hi))
end Mn

namespace Mn
open PySem PySem.Spec PyProof.Rows L2 TL
/-! ### the path of minders, row by row -/
structure PathOK (D : TreeD) (p : List Nat) : Prop where
  ne : 0 < p.length
  le : p.length ≤ 8
  at_ : ∀ i a : Nat, p[i]? = some a → a < D.n ∧ D.dp a = i ∧ 3 ≤ (D.sh a).kind
  up : ∀ i a b : Nat, p[i]? = some a → p[i + 1]? = some b → D.e b = (a : Int)
  last : ∀ a : Nat, p[p.length - 1]? = some a → a + 1 = D.n ∨ (D.e (D.n - 1) = (a : Int) ∧ D.dp (D.n - 1) = p.length)
theorem climb_path {D : TreeD} {p : List Nat} (P : PathOK D p) {j : Nat} (hj : 1 ≤ j) : ∀ (i f : Nat) (a : Nat), p[i]? = some a → j ≤ i + 1 → i < j + f → ∃ b, p[j - 1]? = some b ∧ climb D (j : Int) (f + 1) (a : Int) = (b : Int)
  | i, f, a, ha, h1, h2 => by
    obtain ⟨hn, hd, hk⟩ := P.at_ i a ha
    by_cases h : i + 1 = j
    · refine ⟨a, by rw [← h]; exact ha, ?_⟩
      rw [climb, if_neg]
      rintro ⟨_, z⟩
      rw [Int.toNat_natCast, hd] at z
      omega
    · obtain ⟨i', rfl⟩ : ∃ i', i = i' + 1 := ⟨i - 1, by omega⟩
      obtain ⟨f', rfl⟩ : ∃ f', f = f' + 1 := ⟨f - 1, by omega⟩
      have hl := (List.getElem?_eq_some_iff.mp ha).choose
      have hb : p[i']? = some p[i'] := List.getElem?_eq_getElem (by omega)
      have e := P.up i' _ a hb ha
      obtain ⟨b, h3, h4⟩ := climb_path P hj i' f' _ hb (by omega) (by omega)
      refine ⟨b, h3, ?_⟩
      rw [climb, if_pos ⟨by omega, by rw [Int.toNat_natCast, hd]; omega⟩, Int.toNat_natCast, e]
      exact h4
theorem elder_path {D : TreeD} {p : List Nat} (W : D.WF) (P : PathOK D p) {j : Nat} (hj : 1 ≤ j) (hp : j ≤ p.length) {b : Nat} (hb : p[j - 1]? = some b) : elderM D (j : Int) = (b : Int) := by
  have ne := P.ne
  have hl : p[p.length - 1]? = some p[p.length - 1] := List.getElem?_eq_getElem (by omega)
  have n0 : D.n ≠ 0 := by
    have := (P.at_ _ _ hl).1
    omega
  have n64 := W.sz
  have l8 := P.le
  have dpn : p.length ≤ D.n := by
    -- depths on the path are told by places of the tree: each is another row
    have : ∀ i a : Nat, p[i]? = some a → i ≤ a := fun i => by
      induction i with
      | zero => exact fun a _ => Nat.zero_le _
      | succ i ih =>
        intro a ha
        have hl := (List.getElem?_eq_some_iff.mp ha).choose
        have hb : p[i]? = some p[i] := List.getElem?_eq_getElem (by omega)
        have := ih _ hb
        have e := P.up i _ a hb ha
        have := W.e_lt (P.at_ _ _ ha).1
        omega
    have := this _ _ hl
    have := (P.at_ _ _ hl).1
    omega
  have key : climb D (j : Int) (D.n + 1) ((D.n : Int) - 1) = (b : Int) := by
    rcases P.last _ hl with h | ⟨h1, h2⟩
    · obtain ⟨b', h3, h4⟩ := climb_path P hj (p.length - 1) D.n _ hl (by omega) (by omega)
      rw [hb] at h3
      obtain rfl := Option.some.inj h3
      rw [show (D.n : Int) - 1 = ((p[p.length - 1] : Nat) : Int) by omega]
      exact h4
    · obtain ⟨m, em⟩ : ∃ m, D.n = m + 1 := ⟨D.n - 1, by omega⟩
      obtain ⟨b', h3, h4⟩ := climb_path P hj (p.length - 1) m _ hl (by omega) (by omega)
      rw [hb] at h3
      obtain rfl := Option.some.inj h3
      have e1 : ((D.n : Int) - 1).toNat = D.n - 1 := by omega
      rw [climb, if_pos ⟨by omega, by rw [e1, h2]; omega⟩, e1, h1, em]
      exact h4
  obtain ⟨hn, hd, hk⟩ := P.at_ _ _ hb
  unfold elderM
  rw [if_neg (by omega), if_neg n0, key, if_neg (by omega), Int.toNat_natCast, if_neg]
  rintro (z | z)
  · rw [hd] at z
    omega
  · omega
theorem add_n (D : TreeD) (s : Shp) (e : Int) : (D.add s e).n = D.n + 1 := by
  show (D.shs ++ [s]).length = _
  rw [List.length_append]
  rfl
theorem add_e_lt {D : TreeD} (W : D.WF) {s : Shp} {e : Int} {i : Nat} (h : i < D.n) : (D.add s e).e i = D.e i := getD_snoc_lt _ _ _ (by rw [W.le]; exact h)
theorem add_e_eq {D : TreeD} (W : D.WF) {s : Shp} {e : Int} : (D.add s e).e D.n = e := by
  have := getD_snoc_eq D.eld e (-1)
  rw [W.le] at this
  exact this
theorem add_dp_lt {D : TreeD} (W : D.WF) {s : Shp} {e : Int} {i : Nat} (h : i < D.n) : (D.add s e).dp i = D.dp i := getD_snoc_lt _ _ _ (by rw [W.ld]; exact h)
theorem add_dp_eq {D : TreeD} (W : D.WF) {s : Shp} {e : Int} : (D.add s e).dp D.n = if e < 0 then 0 else D.dp e.toNat + 1 := by
  have := getD_snoc_eq D.dps (if e < 0 then 0 else D.dp e.toNat + 1) 0
  rw [W.ld] at this
  exact this
theorem add_sh_lt {D : TreeD} {s : Shp} {e : Int} {i : Nat} (h : i < D.n) : (D.add s e).sh i = D.sh i := getD_snoc_lt _ _ _ h
theorem add_sh_eq {D : TreeD} {s : Shp} {e : Int} : (D.add s e).sh D.n = s := getD_snoc_eq D.shs s default
theorem add_takeN {D : TreeD} (W : D.WF) {s : Shp} {e : Int} {i : Nat} (h : i ≤ D.n) : (D.add s e).takeN i = D.takeN i := by
  show (⟨(D.shs ++ [s]).take i, (D.eld ++ [e]).take i, (D.dps ++ [_]).take i⟩ : TreeD) = ⟨_, _, _⟩
  rw [List.take_append_of_le_length h, List.take_append_of_le_length (by rw [W.le]; exact h), List.take_append_of_le_length (by rw [W.ld]; exact h)]
theorem takeN_all {D : TreeD} (W : D.WF) : D.takeN D.n = D := by
  unfold TreeD.takeN
  rw [List.take_of_length_le (show D.shs.length ≤ D.n from Nat.le_refl _), List.take_of_length_le (by rw [W.le]; exact Nat.le_refl _), List.take_of_length_le (by rw [W.ld]; exact Nat.le_refl _)]
/-- the top -/
theorem good_top {s : Shp} (ok : OkS s) (hk : 3 ≤ s.kind) : Good (TreeD.nil.add s (-1)) ∧ PathOK (TreeD.nil.add s (-1)) [0] := by
  have W : (TreeD.nil.add s (-1)).WF := WF_add WF_nil ok (d := 0) List.not_mem_nil (by decide) (by decide) (.inl ⟨rfl, rfl, rfl, hk⟩)
  refine ⟨⟨W, Nat.zero_lt_one, fun i hi => ?_⟩, ⟨by decide, by decide, fun i a h => ?_, fun i a b h1 h2 => ?_, fun a h => ?_⟩⟩
  · have : i = 0 := by have : i < 1 := hi; omega
    subst this
    rfl
  · have hi := (List.getElem?_eq_some_iff.mp h).choose
    have : i = 0 := by have : i < 1 := hi; omega
    subst this
    obtain rfl := Option.some.inj h
    exact ⟨Nat.zero_lt_one, rfl, hk⟩
  · have hi := (List.getElem?_eq_some_iff.mp h2).choose
    have : i + 1 < 1 := hi
    omega
  · obtain rfl := Option.some.inj h
    exact .inl rfl
/-- one more row -/
theorem good_row {D : TreeD} {p : List Nat} (g : Good D) (P : PathOK D p) {j b : Nat} (hj : 1 ≤ j) (hp : j ≤ p.length) (hb : p[j - 1]? = some b) {s : Shp} (ok : OkS s) (hn : s.name ∉ D.shs.map Shp.name) (h64 : D.n < 64) :
    Good (D.add s (b : Int)) ∧ (j < 8 → 3 ≤ s.kind → PathOK (D.add s (b : Int)) (p.take j ++ [D.n])) ∧ PathOK (D.add s (b : Int)) (p.take j) := by
  have W := g.wf
  obtain ⟨hbn, hbd, hbk⟩ := P.at_ _ _ hb
  have l8 := P.le
  have W' : (D.add s (b : Int)).WF := WF_add W ok hn (by omega) (d := j) (by omega) (.inr ⟨b, rfl, hbn, by omega, hbk⟩)
  have dn : (D.add s (b : Int)).dp D.n = j := by
    rw [add_dp_eq W, if_neg (by omega), Int.toNat_natCast, hbd]
    omega
  have lt : (p.take j).length = j := by rw [List.length_take]; omega
  have at1 : ∀ i a : Nat, (p.take j)[i]? = some a → a < (D.add s (b : Int)).n ∧ (D.add s (b : Int)).dp a = i ∧ 3 ≤ ((D.add s (b : Int)).sh a).kind := fun i a h => by
    have hi := (List.getElem?_eq_some_iff.mp h).choose
    rw [List.getElem?_take_of_lt (by omega)] at h
    obtain ⟨h1, h2, h3⟩ := P.at_ i a h
    exact ⟨by rw [add_n]; omega, by rw [add_dp_lt W h1, h2], by rw [add_sh_lt h1]; exact h3⟩
  have up1 : ∀ i a c : Nat, (p.take j)[i]? = some a → (p.take j)[i + 1]? = some c → (D.add s (b : Int)).e c = (a : Int) := fun i a c h1 h2 => by
    have hi := (List.getElem?_eq_some_iff.mp h2).choose
    rw [List.getElem?_take_of_lt (by omega)] at h1 h2
    rw [add_e_lt W (P.at_ _ _ h2).1]
    exact P.up i a c h1 h2
  have lastb : (p.take j)[j - 1]? = some b := by rw [List.getElem?_take_of_lt (by omega)]; exact hb
  refine ⟨⟨W', by rw [add_n]; omega, fun i hi => ?_⟩, fun h8 hk => ⟨by simp, by simp; omega, fun i a h => ?_, fun i a c h1 h2 => ?_, fun a h => ?_⟩, ⟨by omega, by omega, at1, up1, fun a h => ?_⟩⟩
  · rw [add_n] at hi
    rw [add_takeN W (by omega)]
    by_cases e : i < D.n
    · rw [add_dp_lt W e, add_e_lt W e]
      exact g.eld i e
    · have : i = D.n := by omega
      subst this
      rw [dn, add_e_eq W, takeN_all W]
      exact elder_path W P hj hp hb
  · have hi := (List.getElem?_eq_some_iff.mp h).choose
    rw [List.length_append, lt, List.length_singleton] at hi
    by_cases e : i < j
    · rw [List.getElem?_append_left (by omega)] at h
      exact at1 i a h
    · have : i = j := by omega
      subst this
      rw [List.getElem?_append_right (by omega), lt, Nat.sub_self] at h
      obtain rfl := Option.some.inj h
      exact ⟨by rw [add_n]; omega, dn, by rw [add_sh_eq]; exact hk⟩
  · have hi := (List.getElem?_eq_some_iff.mp h2).choose
    rw [List.length_append, lt, List.length_singleton] at hi
    by_cases e : i + 1 < j
    · rw [List.getElem?_append_left (by omega)] at h1 h2
      exact up1 i a c h1 h2
    · have : i + 1 = j := by omega
      rw [List.getElem?_append_right (by omega), lt, this, Nat.sub_self] at h2
      obtain rfl := Option.some.inj h2
      rw [List.getElem?_append_left (by omega)] at h1
      have e2 : i = j - 1 := by omega
      rw [e2, lastb] at h1
      obtain rfl := Option.some.inj h1
      exact add_e_eq W
  · rw [List.length_append, lt, List.length_singleton, Nat.add_sub_cancel, List.getElem?_append_right (by omega), lt, Nat.sub_self] at h
    obtain rfl := Option.some.inj h
    exact .inl (add_n D s _).symm
  · rw [lt, lastb] at h
    obtain rfl := Option.some.inj h
    refine .inr ⟨?_, ?_⟩
    · rw [add_n, Nat.add_sub_cancel]
      exact add_e_eq W
    · rw [add_n, Nat.add_sub_cancel, lt]
      exact dn
/-! names -/
def sg (i : Nat) : Nat := (tl signs36).getD i 0
theorem sg_at : ∀ i, i < 36 → (tl signs36)[i]? = some (sg i) ∧ alnum (sg i) = true := by decide +kernel
theorem sg_inj : ∀ i, i < 36 → ∀ j, j < 36 → sg i = sg j → i = j := by decide +kernel
def nameL (k : Nat) (mark : Int) : List Nat :=
  if mark % 11 = 5 ∧ k < 36 then [sg k] else
  List.replicate (mark % 7).toNat 113 ++ ([sg (k % 36), sg (((k / 36 : Nat) + mark) % 36).toNat] ++ List.replicate (mark / 7 % 5).toNat 113)
theorem nameL_fit (k : Nat) (mark : Int) : fitL (nameL k mark) = true := by
  unfold nameL fitL
  split
  · rename_i c
    rw [List.all_cons, (sg_at k c.2).2]
    rfl
  · have a1 := (sg_at (k % 36) (Nat.mod_lt _ (by decide))).2
    have a2 := (sg_at ((((k / 36 : Nat) : Int) + mark) % 36).toNat (by omega)).2
    rw [List.all_append, List.all_append, List.all_replicate, List.all_replicate, List.all_cons, List.all_cons, a1, a2, List.length_append, List.length_append, List.length_replicate, List.length_replicate]
    simp only [List.length_cons, List.length_nil, List.all_nil, Bool.and_true]
    rw [decide_eq_true (by omega), decide_eq_true (by omega)]
    have : alnum 113 = true := by decide
    rw [this]
    simp
theorem nameL_inj {k k' : Nat} {mark : Int} (h : k < 64) (h' : k' < 64) (e : nameL k mark = nameL k' mark) : k = k' := by
  unfold nameL at e
  split at e
  · rename_i c
    split at e
    · rename_i c'
      exact sg_inj k c.2 k' c'.2 (List.cons.inj e).1
    · have := congrArg List.length e
      simp at this
      omega
  · rename_i c
    split at e
    · have := congrArg List.length e
      simp at this
      omega
    · have e := List.append_cancel_left e
      have e := List.append_cancel_right e
      obtain ⟨e1, e2⟩ := List.cons.inj e
      have e2 := (List.cons.inj e2).1
      have h1 := sg_inj _ (Nat.mod_lt k (by decide)) _ (Nat.mod_lt k' (by decide)) e1
      have h2 := sg_inj _ (by omega) _ (by omega) e2
      omega
end Mn

namespace Mn
open PySem PySem.Spec PyProof.Rows L2 TL
/-! ### a tree's text, written -/
def rowTextL (D : TreeD) (i : Nat) : List Nat := List.replicate (2 * D.dp i) 32 ++ joinL [32] ((shW (D.sh i) ++ [(D.sh i).name]).map tl)
def writtenL (D : TreeD) : List Nat := joinL [10] ((List.range D.n).map (rowTextL D))
theorem num_len {i : Int} (h : 0 ≤ i ∧ i ≤ 1000000) : (Str.ofString (toString i)).length ≤ 7 := by
  obtain ⟨n, rfl⟩ : ∃ n : Nat, i = (n : Int) := ⟨i.toNat, by omega⟩
  rw [len_tl, tl_num]
  exact numL_len (by decide) (show n < 10 ^ 7 by omega)
theorem shW_len {s : Shp} (ok : OkS s) : (∀ x ∈ shW s ++ [s.name], x.length ≤ 12) ∧ (shW s ++ [s.name]).length ≤ 7 := by
  obtain ⟨k, nm, kp, a, b, m⟩ := s
  have f1 : kp.length ≤ 6 := (by decide +kernel : ∀ k ∈ keeps3, k.length ≤ 6) kp ok.kp
  have f2 := num_len ok.a0
  have f3 := num_len ok.b0
  have f4 := num_len ok.m0
  have f5 : nm.length ≤ 12 := by rw [len_tl]; exact (by have := ok.nm; unfold fitL at this; rw [Bool.and_eq_true, Bool.and_eq_true, decide_eq_true_eq, decide_eq_true_eq] at this; exact this.1.2)
  have lits : ∀ x ∈ (["leaf", "idle", "steady", "falls", "minder", "one", "all", "rest"] : List Str), x.length ≤ 12 := by decide +kernel
  have g := ok.kd
  dsimp only at f2 f3 f4 g
  rcases kind6 g with rfl | rfl | rfl | rfl | rfl | rfl
  · rw [shW_0]
    refine ⟨fun x hx => ?_, by show 6 ≤ 7; decide⟩
    simp only [List.cons_append, List.nil_append, List.mem_cons, List.not_mem_nil, or_false] at hx
    rcases hx with rfl | rfl | rfl | rfl | rfl | rfl
    · exact lits _ (by decide)
    · omega
    · omega
    · omega
    · exact lits _ (by decide)
    · exact f5
  · rw [shW_1]
    refine ⟨fun x hx => ?_, by show 7 ≤ 7; decide⟩
    simp only [List.cons_append, List.nil_append, List.mem_cons, List.not_mem_nil, or_false] at hx
    rcases hx with rfl | rfl | rfl | rfl | rfl | rfl | rfl
    · exact lits _ (by decide)
    · omega
    · omega
    · omega
    · exact lits _ (by decide)
    · omega
    · exact f5
  · rw [shW_2]
    refine ⟨fun x hx => ?_, by show 7 ≤ 7; decide⟩
    simp only [List.cons_append, List.nil_append, List.mem_cons, List.not_mem_nil, or_false] at hx
    rcases hx with rfl | rfl | rfl | rfl | rfl | rfl | rfl
    · exact lits _ (by decide)
    · omega
    · omega
    · omega
    · exact lits _ (by decide)
    · omega
    · exact f5
  · rw [shW_3]
    refine ⟨fun x hx => ?_, by show 6 ≤ 7; decide⟩
    simp only [List.cons_append, List.nil_append, List.mem_cons, List.not_mem_nil, or_false] at hx
    rcases hx with rfl | rfl | rfl | rfl | rfl | rfl
    · exact lits _ (by decide)
    · omega
    · exact lits _ (by decide)
    · omega
    · omega
    · exact f5
  · rw [shW_4]
    refine ⟨fun x hx => ?_, by show 6 ≤ 7; decide⟩
    simp only [List.cons_append, List.nil_append, List.mem_cons, List.not_mem_nil, or_false] at hx
    rcases hx with rfl | rfl | rfl | rfl | rfl | rfl
    · exact lits _ (by decide)
    · omega
    · exact lits _ (by decide)
    · omega
    · omega
    · exact f5
  · rw [shW_5]
    refine ⟨fun x hx => ?_, by show 6 ≤ 7; decide⟩
    simp only [List.cons_append, List.nil_append, List.mem_cons, List.not_mem_nil, or_false] at hx
    rcases hx with rfl | rfl | rfl | rfl | rfl | rfl
    · exact lits _ (by decide)
    · omega
    · exact lits _ (by decide)
    · omega
    · omega
    · exact f5
theorem sum_le {m : Nat} : ∀ ws : List Str, (∀ x ∈ ws, x.length ≤ m) → (ws.map fun x => x.length).sum ≤ ws.length * m
  | [], _ => Nat.zero_le _
  | a :: r, h => by
    have := sum_le r fun x hx => h x (List.mem_cons_of_mem _ hx)
    have h1 := h a List.mem_cons_self
    rw [List.map_cons, List.sum_cons, List.length_cons, Nat.succ_mul]
    omega
theorem joinL_len (S : List Nat) {m : Nat} : ∀ ws : List (List Nat), (∀ p ∈ ws, p.length ≤ m) → (joinL S ws).length ≤ ws.length * (m + S.length)
  | [], _ => Nat.zero_le _
  | [p], h => by
    have := h p List.mem_cons_self
    show p.length ≤ 1 * _
    omega
  | p :: q :: r, h => by
    have := joinL_len S (q :: r) fun x hx => h x (List.mem_cons_of_mem _ hx)
    have h1 := h p List.mem_cons_self
    show (p ++ (S ++ joinL S (q :: r))).length ≤ _
    rw [List.length_append, List.length_append, List.length_cons, Nat.succ_mul]
    omega
theorem tl_joinT (y : Str) (ws : List Str) : tl (Txt.join y ws) = joinL (tl y) (ws.map tl) := by rw [join_eq, tl_join]
theorem mem_joinL (S : List Nat) {c : Nat} : ∀ ws : List (List Nat), c ∈ joinL S ws → c ∈ S ∨ ∃ p ∈ ws, c ∈ p
  | [], h => absurd h List.not_mem_nil
  | [p], h => .inr ⟨p, List.mem_cons_self, h⟩
  | p :: q :: r, h => by
    have h : c ∈ p ++ (S ++ joinL S (q :: r)) := h
    rcases List.mem_append.mp h with h | h
    · exact .inr ⟨p, List.mem_cons_self, h⟩
    rcases List.mem_append.mp h with h | h
    · exact .inl h
    rcases mem_joinL S (q :: r) h with h | ⟨x, hx, h⟩
    · exact .inl h
    · exact .inr ⟨x, List.mem_cons_of_mem _ hx, h⟩
theorem row_free {D : TreeD} (W : D.WF) {i : Nat} (hi : i < D.n) : 10 ∉ rowTextL D i := by
  intro h
  unfold rowTextL at h
  rcases List.mem_append.mp h with h | h
  · have := (List.mem_replicate.mp h).2
    omega
  rcases mem_joinL _ _ h with h | ⟨p, hp, h⟩
  · have := List.mem_singleton.mp h
    omega
  · obtain ⟨x, hx, rfl⟩ := List.mem_map.mp hp
    exact (shW_free (W.ok _ (sh_mem hi)) x hx).1.2 h
theorem good_plain {D : TreeD} (W : D.WF) {i : Nat} (hi : i < D.n) : GoodRow D i (rowTextL D i) :=
  ⟨[], [], rowTextL D i, by rw [splitL_free (row_free W hi)]; rfl, fun p hp => absurd hp List.not_mem_nil, fun p hp => absurd hp List.not_mem_nil, 0, 0, by
    rw [List.replicate_zero, List.append_nil]
    rfl⟩
theorem rowText_len {D : TreeD} (W : D.WF) {i : Nat} (hi : i < D.n) : (rowTextL D i).length ≤ 107 := by
  have ok := W.ok _ (sh_mem hi)
  have d8 := W.d8 i hi
  unfold rowTextL
  rw [List.length_append, List.length_replicate]
  have := joinL_len (m := 12) [32] ((shW (D.sh i) ++ [(D.sh i).name]).map tl) fun p hp => by
    obtain ⟨x, hx, rfl⟩ := List.mem_map.mp hp
    rw [← len_tl]
    exact (shW_len ok).1 x hx
  have h2 : ((shW (D.sh i) ++ [(D.sh i).name]).map tl).length * (12 + [32].length) ≤ 7 * 13 := by
    rw [List.length_map]
    exact Nat.mul_le_mul (shW_len ok).2 (Nat.le_refl _)
  omega
/-- a text of the rows as they are told is read as the tree -/
theorem read_written {D : TreeD} (g : Good D) {x : Str} (hx : tl x = writtenL D) : readM x = .ok D ∧ (∀ r ∈ rowsM x, r.length ≤ 640) ∧ x.length ≤ 100000 := by
  have W := g.wf
  refine ⟨read_good g _ hx fun i hi => good_plain W hi, rows_len g _ hx fun i hi => Nat.le_trans (rowText_len W hi) (by decide), ?_⟩
  rw [len_tl, hx]
  have := joinL_len (m := 107) [10] ((List.range D.n).map (rowTextL D)) fun p hp => by
    obtain ⟨i, hi, rfl⟩ := List.mem_map.mp hp
    exact rowText_len W (List.mem_range.mp hi)
  have sz := W.sz
  have h2 : ((List.range D.n).map (rowTextL D)).length * (107 + [10].length) ≤ 64 * 108 := by
    rw [List.length_map, List.length_range]
    exact Nat.mul_le_mul sz (Nat.le_refl _)
  unfold writtenL
  omega
end Mn

namespace Mn
open PySem PySem.Spec PyProof.Rows L2 TL
section
variable {P : Program} {w : World} {K : PySem.W.Frag} {mg : Str → Option Value} {base : Heap}
def spWritten (CT : Addr) (cls : Nat → Addr) : Sp := fun vs H Q _ => ∃ (A : TA) (D : TreeD), vs = [.ref A.t] ∧ TR CT cls A D H ∧ D.WF ∧ ∀ y H', Same H H' → tl y = writtenL D → Q (.str y) H'
theorem ok_written {CT : Addr} {cls : Nat → Addr} {f : Addr} {fd : FuncData} (F : Fun K "written" "written" s_written f fd) (T : Bt mg) (cT : ClsF K CT treeN) (kc : KdC K cls) (kw : KdW P w K mg base cls) (MD : Mth P w K mg base CX0 CT "depth" 1 ["self", "at"] [] (spDepth CT cls)) :
    FnOk P w K mg base CX0 3 f fd ["tree"] (spWritten CT cls) := by
  refine F.ok sc_written (fun vs H Q E h => ?_) (fun cdv A outer s H vs Q E hr h => ?_)
  · obtain ⟨A, D, rfl, _⟩ := h
    rfl
  obtain ⟨A, D, rfl, R, W, q⟩ := h
  have hsl := PySem.sizeLine_eq
  have ht := R.ht
  unfold treeF at ht
  have hsh := R.hsh
  have lps := R.lps
  have sz := W.sz
  refine ⟨_, (pss_cons (ps_set (i := 1) sc_written.nd rfl (Or.inl rfl) (pe_lst pa_nil))
    (pss_cons (ps_for PassesOwn.never rfl (pi_range1 rfl T.range (pa_cons (pe_callB (kLenL (K := K) rfl) (by rfl) T.len (by decide +kernel) (pa_cons (kFld (K := K) rfl (pv 0)) pa_nil)) pa_nil)) (pg_name (i := 2) sc_written.nd rfl (Or.inl rfl)) (pss_cons (ps_set (i := 3) sc_written.nd rfl (Or.inl rfl) (pe_ix (kIxL (K := K) rfl) (kFld (K := K) rfl (pv 0)) (pv 2) (fun _ _ => rfl)))
    (pss_one (ps_expr (kBm (K := K) rfl PySem.F.plainAttrs_list PySem.F.slot_list_append PySem.F.type_list_append mt_append (pv 1) (pa_cons (pe_op op_addS (pe_op op_mul_str pe_str (pe_ma (P := P) (w := w) (K := K) (mg := mg) (base := base) ⟨rfl, rfl, rfl, rfl, rfl⟩ hr (pv 0) (pa_cons (pv 2) pa_nil))) (pe_join pe_str (pe_op op_cat (pe_ma0 (P := P) (w := w) (K := K) (mg := mg) (base := base) ⟨rfl, rfl, rfl, rfl, rfl⟩ hr (pv 3)) (pe_lst (pa_cons (kFld (K := K) rfl (pv 3)) pa_nil))))) pa_nil))))))
    (pss_one (ps_ret (pe_join pe_str (pv 1)))))), ?_⟩
  walk_at "rd"
  refine ⟨by walk_at "sz", fun r hr1 => ?_⟩
  have s1 := same_new hr1 (.lst [])
  have ht1 := s1 _ _ ht
  have hsh1 := s1 _ _ hsh
  walk_at "rd"
  rw [List.length_map, lps]
  refine w_forR (fun i σ H' => ∃ (v2 v3 : Option V) (ys : List Str), σ = [some (.ref A.t), some (.ref r), v2, v3] ∧ Same H H' ∧ H' r = some (.lst (ys.map V.str)) ∧ ys.map tl = (List.range i).map (rowTextL D)) (by omega) (by omega) ⟨_, _, [], rfl, s1, upd_same, rfl⟩ (fun i σ H' hi hm => ?_) (fun σ H' hm => ?_)
  · obtain ⟨v2, v3, ys, rfl, s2, er, ey⟩ := hm
    have hi : i < D.n := by omega
    have ly : ys.length = i := by have := congrArg List.length ey; rw [List.length_map, List.length_map, List.length_range] at this; exact this
    have R2 := R.same s2
    have ht2 := s2 _ _ ht
    have hsh2 := s2 _ _ hsh
    have hp : A.ps[i]? = some A.ps[i] := List.getElem?_eq_getElem (by omega)
    generalize A.ps[i] = p at hp
    obtain ⟨dx, hs⟩ := R2.hps i p hp
    have ok := W.ok _ (sh_mem hi)
    have cp := kc.cf _ ok.kd
    walk_at "rd"
    refine w_ixL (v := .ref p) (SqL.of hsh2) (at_nat (i := i) (by omega) (by rw [List.getElem?_map, hp]; rfl)) ?_
    walk_at "rd"
    refine w_ma1 ht2 cT.cl rfl MD (by decide) ?_
    walk_at "rd"
    refine ⟨A, D, i, by rw [Int.zero_add]; rfl, R2, W, hi, ?_⟩
    have d8 := W.d8 i hi
    refine w_mulS (by decide) (by omega) ?_
    have t1 : tl (Txt.mul ("  " : Str) ((D.dp i : Nat) : Int)) = List.replicate (2 * D.dp i) 32 := tl_mul2 32 (D.dp i)
    generalize Txt.mul ("  " : Str) ((D.dp i : Nat) : Int) = y1 at t1
    have l1 : y1.length ≤ 16 := by rw [len_tl, t1, List.length_replicate]; omega
    walk_at "rd"
    refine w_ma1 hs cp.cl (fld_words _) (kw.words _ ok.kd) (by decide) ?_
    walk_at "rd"
    refine ⟨p, dx, D.sh i, rfl, hs, rfl, ok, fun b H3 hb s3 eb => ?_⟩
    have hs3 := s3 _ _ hs
    walk_at "rd"
    refine w_fld1 hs3 cp.cl (cp.no _ (attr_name _)) (fld_name _) ?_
    walk_at "rd"
    refine ⟨by walk_at "sz", fun c hc => ?_⟩
    have sl := shW_len ok
    rw [List.length_append, List.length_singleton] at sl
    refine w_cat ((upd_ne (ne_of_none eb hc)).trans eb) upd_same (by rw [List.length_map]; show _ + 1 ≤ _; omega) fun d hd => ?_
    have ed : upd (upd H3 c (.lst [V.str (D.sh i).name])) d (.lst ((shW (D.sh i)).map V.str ++ [V.str (D.sh i).name])) d = some (.lst ((shW (D.sh i) ++ [(D.sh i).name]).map V.str)) := by rw [upd_same, List.map_append]; rfl
    have s4 : Same H' (upd (upd H3 c (.lst [V.str (D.sh i).name])) d (.lst ((shW (D.sh i)).map V.str ++ [V.str (D.sh i).name]))) := same_upd (same_upd s3 hc) hd
    have sw := sum_le _ (shW_len ok).1
    refine ⟨_, d, shW (D.sh i) ++ [(D.sh i).name], rfl, rfl, .inl (SqL.of ed), ?_, ?_⟩
    · rw [List.length_append, List.length_singleton] at sw ⊢
      show _ + _ * 1 ≤ _
      omega
    have t2 := tl_joinT " " (shW (D.sh i) ++ [(D.sh i).name])
    have l2 : (Txt.join " " (shW (D.sh i) ++ [(D.sh i).name])).length ≤ 7 * 13 := by
      rw [len_tl, t2]
      refine Nat.le_trans (joinL_len (m := 12) _ _ fun p hp => ?_) ?_
      · obtain ⟨x, hx, rfl⟩ := List.mem_map.mp hp
        rw [← len_tl]
        exact (shW_len ok).1 x hx
      · rw [List.length_map]
        exact Nat.mul_le_mul (shW_len ok).2 (Nat.le_refl _)
    generalize Txt.join " " (shW (D.sh i) ++ [(D.sh i).name]) = y2 at t2 l2
    refine w_addS (by omega) ?_
    walk_at "rd"
    refine ⟨_, _, ys ++ [y1 ++ y2], rfl, same_mut (s2.trans s4) hr1, ?_, ?_⟩
    · rw [upd_same, List.map_append]
      rfl
    · rw [List.map_append, ey, List.range_succ, List.map_append, List.map_cons, tl_append, t1, t2]
      rfl
  · obtain ⟨v2, v3, ys, rfl, s2, er, ey⟩ := hm
    rw [Int.toNat_natCast] at ey
    have ly : ys.length = D.n := by have := congrArg List.length ey; rw [List.length_map, List.length_map, List.length_range] at this; exact this
    have hlen : ∀ x ∈ ys, x.length ≤ 107 := fun x hx => by
      have hm : tl x ∈ (List.range D.n).map (rowTextL D) := by rw [← ey]; exact List.mem_map_of_mem hx
      obtain ⟨i, hi, e⟩ := List.mem_map.mp hm
      have hi := List.mem_range.mp hi
      have ok := W.ok _ (sh_mem hi)
      have d8 := W.d8 i hi
      rw [len_tl, ← e]
      unfold rowTextL
      rw [List.length_append, List.length_replicate]
      have := joinL_len (m := 12) [32] ((shW (D.sh i) ++ [(D.sh i).name]).map tl) fun p hp => by
        obtain ⟨x, hx, rfl⟩ := List.mem_map.mp hp
        rw [← len_tl]
        exact (shW_len ok).1 x hx
      have h2 : ((shW (D.sh i) ++ [(D.sh i).name]).map tl).length * (12 + [32].length) ≤ 7 * 13 := by
        rw [List.length_map]
        exact Nat.mul_le_mul (shW_len ok).2 (Nat.le_refl _)
      omega
    have sw := sum_le ys hlen
    walk_at "rd"
    refine ⟨_, r, ys, rfl, rfl, .inl (SqL.of er), ?_, ?_⟩
    · show _ + _ * 1 ≤ _
      omega
    walk_at "rd"
    refine q _ _ s2 ?_
    rw [tl_joinT, ey]
    rfl
end
end Mn

namespace Mn
open PySem L2
section
variable {P : Program} {w : World} {K : PySem.W.Frag} {mg : Str → Option Value} {base : Heap}
def cellAt (ns : List Int) (k : Nat) : Int := ns.getD k 0
def spCell (K : PySem.W.Frag) : Sp := fun vs H Q _ => ∃ (a : Addr) (ns : List Int) (k : Nat), vs = [.ref a, .int (k : Int)] ∧ SqL K H a (ns.map V.int) ∧ ns.length ≤ 1000 ∧ Q (.int (cellAt ns k)) H
theorem ok_cell {f : Addr} {fd : FuncData} (F : Fun K "_law_cell_at" "_law_cell_at" s_law_cell_at f fd) (T : Bt mg) : FnOk P w K mg base CX0 1 f fd ["_law_script", "_law_k"] (spCell K) := by
  refine F.ok sc_law_cell_at (fun vs H Q E h => ?_) (fun cdv A outer s H vs Q E hr h => ?_)
  · obtain ⟨a, ns, k, rfl, _⟩ := h
    rfl
  obtain ⟨a, ns, k, rfl, hS, h1, q⟩ := h
  unfold cellAt at q
  refine ⟨_, (pss_cons (ps_if (pt_cmpR op_lt (pv 1) (pe_callB (kLenL (K := K) rfl) (by rfl) T.len (by decide +kernel) (pa_cons (pv 0) pa_nil)) (nomark _)) (pss_one (ps_ret (pe_ix (kIxL (K := K) rfl) (pv 0) (pv 1) (fun _ _ => rfl)))) pss_nil)
    (pss_one (ps_ret pe_int))), ?_⟩
  walk_at "rd"
  walk_at "if"
  all_goals rename_i c
  all_goals rw [List.length_map] at c
  all_goals walk_at "rd"
  · have e := at_ints (ns := ns) (k := (k : Int)) (by omega) c
    rw [Int.toNat_natCast] at e
    exact w_ixL hS e q
  · have e : ns.getD k 0 = 0 := by simp [List.getD, List.getElem?_eq_none (show ns.length ≤ k by omega)]
    rw [e] at q
    exact q
end
end Mn

namespace Mn
open PySem PySem.Spec PyProof.Rows L2 TL
section
variable {P : Program} {w : World} {K : PySem.W.Frag} {mg : Str → Option Value} {base : Heap}
def spNm : Sp := fun vs H Q _ => ∃ (k : Nat) (mark : Int), vs = [.int (k : Int), .int mark] ∧ ∀ y, tl y = nameL k mark → Q (.str y) H
theorem ok_nm {f : Addr} {fd : FuncData} (F : Fun K "_law_name" "_law_name" s_law_name f fd) : FnOk P w K mg base CX0 1 f fd ["_law_k", "_law_mark"] spNm := by
  refine F.ok sc_law_name (fun vs H Q E h => ?_) (fun cdv A outer s H vs Q E hr h => ?_)
  · obtain ⟨k, mark, rfl, _⟩ := h
    rfl
  obtain ⟨k, mark, rfl, q⟩ := h
  have hz := PySem.sizeLine_eq
  refine ⟨_, (pss_cons (ps_set (i := 2) sc_law_name.nd rfl (Or.inl rfl) pe_str)
    (C8.pss_cut (ps_if (PW.pt (pw_and (pt_cmpR op_eq (pe_op op_mod (pv 1) pe_int) pe_int (nomark _)) (pw_and1 (pt_cmpR op_lt (pv 0) pe_int (nomark _))))) (pss_one (ps_ret (pe_ix ix_str (pv 2) (pv 0) (fun _ _ => rfl)))) pss_nil)
    (pss_cons (ps_set (i := 3) sc_law_name.nd rfl (Or.inl rfl) (pe_op op_addS (pe_ix ix_str (pv 2) (pe_op op_mod (pv 0) pe_int) (fun _ _ => rfl)) (pe_ix ix_str (pv 2) (pe_op op_mod (pe_op op_add (pe_op op_fdiv (pv 0) pe_int) (pv 1)) pe_int) (fun _ _ => rfl))))
    (pss_one (ps_ret (pe_op op_addS (pe_op op_addS (pe_op op_mul_str pe_str (pe_op op_mod (pv 1) pe_int)) (pv 3)) (pe_op op_mul_str pe_str (pe_op op_mod (pe_op op_fdiv (pv 1) pe_int) pe_int)))))))), ?_⟩
  have l36 : signs36.length = 36 := by decide +kernel
  walk_at "rd"
  refine w_cut (fun σ H' => σ = [some (.int (k : Int)), some (.int mark), some (.str signs36), none] ∧ H = H' ∧ ¬ (mark % 11 = 5 ∧ k < 36)) ?_ (fun σ H' hm => ?_)
  · walk_at "rd"
    by_cases c1 : mark % 11 = 5
    case neg =>
      rw [decide_eq_false (fun z => c1 (V.int.inj z))]
      walk_at "rd"
      exact ⟨rfl, rfl, fun z => c1 z.1⟩
    rw [decide_eq_true (congrArg V.int c1)]
    walk_at "rd"
    by_cases c2 : k < 36
    case neg =>
      rw [decide_eq_false (show ¬ (k : Int) < 36 by omega)]
      walk_at "rd"
      exact ⟨rfl, rfl, fun z => c2 z.2⟩
    rw [decide_eq_true (show (k : Int) < 36 by omega)]
    walk_at "rd"
    refine w_ixS (c := sg k) (by decide) (atI_nat (sg_at k c2).1) ?_
    refine q _ ?_
    unfold nameL
    rw [if_pos ⟨c1, c2⟩]
  obtain ⟨rfl, rfl, c⟩ := hm
  walk_at "rd"
  have e1 : (k : Int) % 36 = ((k % 36 : Nat) : Int) := by omega
  rw [e1]
  refine w_ixS (c := sg (k % 36)) (by decide) (atI_nat (sg_at _ (Nat.mod_lt _ (by decide))).1) ?_
  walk_at "rd"
  have e2 : ((k : Int) / 36 + mark) % 36 = (((((k / 36 : Nat) : Int) + mark) % 36).toNat : Int) := by omega
  rw [e2]
  refine w_ixS (c := sg ((((k / 36 : Nat) : Int) + mark) % 36).toNat) (by decide) (atI_nat (sg_at _ (by omega)).1) ?_
  refine w_addS (by show 1 + 1 ≤ _; omega) ?_
  generalize hx2 : (⟨#[sg (k % 36)]⟩ : Str) ++ (⟨#[sg ((((k / 36 : Nat) : Int) + mark) % 36).toNat]⟩ : Str) = two
  have t2 : tl two = [sg (k % 36), sg ((((k / 36 : Nat) : Int) + mark) % 36).toNat] := by rw [← hx2, tl_append]; rfl
  have l2 : two.length = 2 := by rw [len_tl, t2]; rfl
  walk_at "rd"
  have e3 : mark % 7 = ((mark % 7).toNat : Int) := by omega
  have e4 : mark / 7 % 5 = ((mark / 7 % 5).toNat : Int) := by omega
  rw [e3]
  refine w_mulS (by decide) (by omega) ?_
  have t3 : tl (Txt.mul ("q" : Str) ((mark % 7).toNat : Int)) = List.replicate (mark % 7).toNat 113 := tl_mul1 113 (mark % 7).toNat
  generalize Txt.mul ("q" : Str) ((mark % 7).toNat : Int) = y1 at t3
  walk_at "rd"
  have ly1 : y1.length ≤ 6 := by rw [len_tl, t3, List.length_replicate]; omega
  refine w_addS (by omega) ?_
  have t5 : tl (y1 ++ two) = tl y1 ++ tl two := tl_append _ _
  have l5 : (y1 ++ two).length ≤ 8 := by rw [len_tl, t5, List.length_append, ← len_tl, ← len_tl]; omega
  generalize y1 ++ two = y2 at t5 l5
  walk_at "rd"
  rw [e4]
  refine w_mulS (by decide) (by omega) ?_
  have t4 : tl (Txt.mul ("q" : Str) ((mark / 7 % 5).toNat : Int)) = List.replicate (mark / 7 % 5).toNat 113 := tl_mul1 113 (mark / 7 % 5).toNat
  generalize Txt.mul ("q" : Str) ((mark / 7 % 5).toNat : Int) = y3 at t4
  have l3 : y3.length ≤ 4 := by rw [len_tl, t4, List.length_replicate]; omega
  refine w_addS (by omega) ?_
  walk_at "rd"
  refine q _ ?_
  rw [tl_append, t5, t3, t2, t4, List.append_assoc]
  unfold nameL
  rw [if_neg c]
def spMinW : Sp := fun vs H Q _ => ∃ cell other : Int, vs = [.int cell, .int other] ∧ ∃ nm : Str, fitL (tl nm) = true ∧ ∀ s r H', s.name = nm → OkS s → 3 ≤ s.kind → H r = none → Same H H' → H' r = some (.lst ((shW s).map V.str)) → Q (.ref r) H'
def spLfW : Sp := fun vs H Q _ => ∃ cell other : Int, vs = [.int cell, .int other] ∧ ∃ nm : Str, fitL (tl nm) = true ∧ ∀ s r H', s.name = nm → OkS s → s.kind < 3 → H r = none → Same H H' → H' r = some (.lst ((shW s).map V.str)) → Q (.ref r) H'
abbrev keep4 : List Str := ["always", "fallen", "always", "never"]
abbrev way3 : List Str := ["one", "all", "rest"]
abbrev work4 : List Str := ["falls", "idle", "steady", "falls"]
theorem keep4_at (i : Int) (h0 : 0 ≤ i) (h4 : i < 4) : ∃ k, atI (keep4.map V.str) i = some (.str k) ∧ k ∈ keeps3 := by
  have : i = 0 ∨ i = 1 ∨ i = 2 ∨ i = 3 := by omega
  rcases this with rfl | rfl | rfl | rfl
  · exact ⟨"always", rfl, by decide⟩
  · exact ⟨"fallen", rfl, by decide⟩
  · exact ⟨"always", rfl, by decide⟩
  · exact ⟨"never", rfl, by decide⟩
theorem way3_at (i : Int) (h0 : 0 ≤ i) (h4 : i < 3) : ∃ k, atI (way3.map V.str) i = some (.str (wayS k)) ∧ 3 ≤ k ∧ k < 6 := by
  have : i = 0 ∨ i = 1 ∨ i = 2 := by omega
  rcases this with rfl | rfl | rfl
  · exact ⟨3, rfl, by decide, by decide⟩
  · exact ⟨4, rfl, by decide, by decide⟩
  · exact ⟨5, rfl, by decide, by decide⟩
def workS (k : Nat) : Str := if k = 0 then "idle" else if k = 1 then "steady" else "falls"
theorem work4_at (i : Int) (h0 : 0 ≤ i) (h4 : i < 4) : ∃ k, atI (work4.map V.str) i = some (.str (workS k)) ∧ k < 3 := by
  have : i = 0 ∨ i = 1 ∨ i = 2 ∨ i = 3 := by omega
  rcases this with rfl | rfl | rfl | rfl
  · exact ⟨2, rfl, by decide⟩
  · exact ⟨0, rfl, by decide⟩
  · exact ⟨1, rfl, by decide⟩
  · exact ⟨2, rfl, by decide⟩
theorem most8_at (i : Int) (h0 : 0 ≤ i) (h4 : i < 8) : ∃ n : Int, atI ([.int 9, .int 2, .int 30, .int 1, .int 3, .int 0, .int 9, .int 2] : List V) i = some (.int n) ∧ 0 ≤ n ∧ n ≤ 1000000 := by
  have : i = 0 ∨ i = 1 ∨ i = 2 ∨ i = 3 ∨ i = 4 ∨ i = 5 ∨ i = 6 ∨ i = 7 := by omega
  rcases this with rfl | rfl | rfl | rfl | rfl | rfl | rfl | rfl <;> exact ⟨_, rfl, by decide, by decide⟩
theorem shW_min {k : Nat} (h : 3 ≤ k) (nm kp : Str) (a b : Int) : shW ⟨k, nm, kp, a, b, 0⟩ = minWords kp (wayS k) a b := by
  unfold shW
  rw [if_neg (by show ¬ k < 3; omega)]
theorem ok_minw {f : Addr} {fd : FuncData} (F : Fun K "_law_minder_words" "_law_minder_words" s_law_minder_words f fd) (T : Bt mg) : FnOk P w K mg base CX0 1 f fd ["_law_cell", "_law_other"] spMinW := by
  refine F.ok sc_law_minder_words (fun vs H Q E h => ?_) (fun cdv A outer s H vs Q E hr h => ?_)
  · obtain ⟨cell, other, rfl, _⟩ := h
    rfl
  obtain ⟨cell, other, rfl, nm, hnm, q⟩ := h
  refine ⟨_, (pss_cons (ps_set (i := 2) sc_law_minder_words.nd rfl (Or.inl rfl) (pe_ix (kIxL (K := K) rfl) (pe_lst (pa_cons pe_str (pa_cons pe_str (pa_cons pe_str (pa_cons pe_str pa_nil))))) (pe_op op_mod (pe_op op_fdiv (pv 0) pe_int) pe_int) (fun _ _ => rfl)))
    (pss_cons (ps_set (i := 3) sc_law_minder_words.nd rfl (Or.inl rfl) (pe_ix (kIxL (K := K) rfl) (pe_lst (pa_cons pe_str (pa_cons pe_str (pa_cons pe_str pa_nil)))) (pe_op op_mod (pe_op op_fdiv (pv 0) pe_int) pe_int) (fun _ _ => rfl)))
    (pss_cons (ps_if (pt_cmpR op_eq (pe_op op_mod (pv 1) pe_int) pe_int (nomark _)) (pss_one (ps_ret (pe_lst (pa_cons pe_str (pa_cons (pv 2) (pa_cons (pv 3) (pa_cons (pe_callTy call_strI (by rfl) T.str (by decide +kernel) (pa_cons (pe_op op_mod (pv 1) pe_int) pa_nil)) (pa_cons (pe_callTy call_strI (by rfl) T.str (by decide +kernel) (pa_cons (pe_op op_add pe_int (pe_op op_mod (pe_op op_fdiv (pv 1) pe_int) pe_int)) pa_nil)) pa_nil)))))))) pss_nil)
    (pss_cons (ps_set (i := 4) sc_law_minder_words.nd rfl (Or.inl rfl) (pe_ix (kIxL (K := K) rfl) (pe_lst (pa_cons pe_int (pa_cons pe_int (pa_cons pe_int (pa_cons pe_int (pa_cons pe_int (pa_cons pe_int (pa_cons pe_int (pa_cons pe_int pa_nil))))))))) (pe_op op_mod (pv 1) pe_int) (fun _ _ => rfl)))
    (pss_one (ps_ret (pe_lst (pa_cons pe_str (pa_cons (pv 2) (pa_cons (pv 3) (pa_cons (pe_callTy call_strI (by rfl) T.str (by decide +kernel) (pa_cons (pv 4) pa_nil)) (pa_cons (pe_callTy call_strI (by rfl) T.str (by decide +kernel) (pa_cons (pe_op op_add pe_int (pe_op op_mod (pe_op op_fdiv (pv 1) pe_int) pe_int)) pa_nil)) pa_nil)))))))))))), ?_⟩
  walk_at "rd"
  refine ⟨by walk_at "sz", fun r1 h1 => ?_⟩
  walk_at "rd"
  obtain ⟨kp, ek, hk⟩ := keep4_at (cell / 5 % 4) (by omega) (by omega)
  refine w_ixL (SqL.of upd_same) ek ?_
  walk_at "rd"
  refine ⟨by walk_at "sz", fun r2 h2 => ?_⟩
  walk_at "rd"
  obtain ⟨k, ew, hw⟩ := way3_at (cell / 20 % 3) (by omega) (by omega)
  refine w_ixL (SqL.of upd_same) ew ?_
  walk_at "rd"
  have s2 := same_upd (o := .lst [V.str "one", V.str "all", V.str "rest"]) (same_new h1 (.lst [V.str "always", V.str "fallen", V.str "always", V.str "never"])) h2
  generalize upd (upd H r1 (.lst [V.str "always", V.str "fallen", V.str "always", V.str "never"])) r2 (.lst [V.str "one", V.str "all", V.str "rest"]) = H2 at s2 ⊢
  have fin : ∀ (a b : Int) r H', (0 ≤ a ∧ a ≤ 1000000) → (1 ≤ b ∧ b ≤ 1000000) → H' r = none → Same H H' → Q (.ref r) (upd H' r (.lst ((minWords kp (wayS k) a b).map V.str))) := fun a b r H' ha hb hr' hs => by
    refine q ⟨k, nm, kp, a, b, 0⟩ r _ rfl (okS_mk hw.2 hk hnm ha ⟨by omega, hb.2⟩ ⟨by decide, by decide⟩ (fun _ _ => rfl) (fun _ => hb.1)) hw.1 (hs.free hr') (same_upd hs hr') ?_
    rw [upd_same, shW_min hw.1]
  walk_at "if"
  · walk_at "rd"
    refine w_strI (smol_of (by omega)) ?_
    walk_at "rd"
    refine w_strI (smol_of (by omega)) ?_
    walk_at "rd"
    exact ⟨by walk_at "sz", fun r hr' => fin _ _ r H2 (by omega) (by omega) hr' s2⟩
  · walk_at "rd"
    refine ⟨by walk_at "sz", fun r3 h3 => ?_⟩
    walk_at "rd"
    obtain ⟨mo, em, hm⟩ := most8_at (other % 8) (by omega) (by omega)
    refine w_ixL (SqL.of upd_same) em ?_
    walk_at "rd"
    refine w_strI (smol_of (by omega)) ?_
    walk_at "rd"
    refine w_strI (smol_of (by omega)) ?_
    walk_at "rd"
    exact ⟨by walk_at "sz", fun r hr' => fin _ _ r _ hm (by omega) hr' (same_upd s2 h3)⟩
theorem shW_leaf {k : Nat} (h : k < 3) (nm kp : Str) (a b m : Int) : shW ⟨k, nm, kp, a, b, m⟩ = (["leaf", kp, toString a, toString b, workS k] : List Str) ++ (if k = 0 then ([] : List Str) else ([toString m] : List Str)) := by
  have : k = 0 ∨ k = 1 ∨ k = 2 := by omega
  rcases this with rfl | rfl | rfl <;> rfl
theorem ok_lfw {f : Addr} {fd : FuncData} (F : Fun K "_law_leaf_words" "_law_leaf_words" s_law_leaf_words f fd) (T : Bt mg) : FnOk P w K mg base CX0 1 f fd ["_law_cell", "_law_other"] spLfW := by
  refine F.ok sc_law_leaf_words (fun vs H Q E h => ?_) (fun cdv A outer s H vs Q E hr h => ?_)
  · obtain ⟨cell, other, rfl, _⟩ := h
    rfl
  obtain ⟨cell, other, rfl, nm, hnm, q⟩ := h
  refine ⟨_, (pss_cons (ps_set (i := 2) sc_law_leaf_words.nd rfl (Or.inl rfl) (pe_ix (kIxL (K := K) rfl) (pe_lst (pa_cons pe_str (pa_cons pe_str (pa_cons pe_str (pa_cons pe_str pa_nil))))) (pe_op op_mod (pe_op op_fdiv (pv 0) pe_int) pe_int) (fun _ _ => rfl)))
    (pss_cons (ps_set (i := 3) sc_law_leaf_words.nd rfl (Or.inl rfl) (pe_ix (kIxL (K := K) rfl) (pe_lst (pa_cons pe_str (pa_cons pe_str (pa_cons pe_str (pa_cons pe_str pa_nil))))) (pe_op op_mod (pe_op op_fdiv (pv 0) pe_int) pe_int) (fun _ _ => rfl)))
    (pss_cons (ps_set (i := 4) sc_law_leaf_words.nd rfl (Or.inl rfl) (pe_lst (pa_cons (pe_op op_mod (pv 1) pe_int) (pa_cons (pe_op op_mod (pe_op op_fdiv (pv 1) pe_int) pe_int) (pa_cons (pe_op op_mod (pe_op op_fdiv (pv 1) pe_int) pe_int) pa_nil)))))
    (C8.pss_cut (ps_if (pt_cmpR op_eq (pe_op op_mod (pv 1) pe_int) pe_int (nomark _)) (pss_one (ps_set (i := 4) sc_law_leaf_words.nd rfl (Or.inl rfl) (pe_lst (pa_cons (pe_op op_mod (pv 1) pe_int) (pa_cons (pe_op op_mod (pe_op op_fdiv (pv 1) pe_int) pe_int) (pa_cons (pe_op op_mod (pe_op op_fdiv (pv 1) pe_int) pe_int) pa_nil)))))) pss_nil)
    (pss_cons (ps_set (i := 5) sc_law_leaf_words.nd rfl (Or.inl rfl) (pe_lst (pa_cons pe_str (pa_cons (pv 2) (pa_cons (pe_callTy call_strI (by rfl) T.str (by decide +kernel) (pa_cons (pe_ix (kIxL (K := K) rfl) (pv 4) pe_int (fun _ _ => rfl)) pa_nil)) (pa_cons (pe_callTy call_strI (by rfl) T.str (by decide +kernel) (pa_cons (pe_ix (kIxL (K := K) rfl) (pv 4) pe_int (fun _ _ => rfl)) pa_nil)) (pa_cons (pv 3) pa_nil)))))))
    (C8.pss_cut (ps_if (pt_cmpR op_ne (pv 3) pe_str (nomark _)) (pss_one (ps_expr (kBm (K := K) rfl PySem.F.plainAttrs_list PySem.F.slot_list_append PySem.F.type_list_append mt_append (pv 5) (pa_cons (pe_callTy call_strI (by rfl) T.str (by decide +kernel) (pa_cons (pe_ix (kIxL (K := K) rfl) (pv 4) pe_int (fun _ _ => rfl)) pa_nil)) pa_nil)))) pss_nil)
    (pss_one (ps_ret (pv 5))))))))), ?_⟩
  walk_at "rd"
  refine ⟨by walk_at "sz", fun r1 h1 => ?_⟩
  walk_at "rd"
  obtain ⟨kp, ek, hk⟩ := keep4_at (cell / 5 % 4) (by omega) (by omega)
  refine w_ixL (SqL.of upd_same) ek ?_
  walk_at "rd"
  refine ⟨by walk_at "sz", fun r2 h2 => ?_⟩
  walk_at "rd"
  obtain ⟨k, ew, hw⟩ := work4_at (cell / 20 % 4) (by omega) (by omega)
  refine w_ixL (SqL.of upd_same) ew ?_
  walk_at "rd"
  have s2 := same_upd (o := .lst [V.str "falls", V.str "idle", V.str "steady", V.str "falls"]) (same_new h1 (.lst [V.str "always", V.str "fallen", V.str "always", V.str "never"])) h2
  generalize upd (upd H r1 (.lst [V.str "always", V.str "fallen", V.str "always", V.str "never"])) r2 (.lst [V.str "falls", V.str "idle", V.str "steady", V.str "falls"]) = H2 at s2 ⊢
  refine ⟨by walk_at "sz", fun r3 h3 => ?_⟩
  walk_at "rd"
  have s3 := same_upd (o := .lst [V.int (other % 4), V.int (other / 4 % 4), V.int (other / 16 % 5)]) s2 h3
  have e3 : upd H2 r3 (.lst [V.int (other % 4), V.int (other / 4 % 4), V.int (other / 16 % 5)]) r3 = some (.lst [V.int (other % 4), V.int (other / 4 % 4), V.int (other / 16 % 5)]) := upd_same
  generalize upd H2 r3 (.lst [V.int (other % 4), V.int (other / 4 % 4), V.int (other / 16 % 5)]) = H3 at s3 e3 ⊢
  refine w_cut (fun σ H' => ∃ (r : Addr) (a b m : Int), σ = [some (.int cell), some (.int other), some (.str kp), some (.str (workS k)), some (.ref r), none] ∧ Same H H' ∧ H' r = some (.lst [.int a, .int b, .int m]) ∧ (0 ≤ a ∧ a ≤ 1000000) ∧ (0 ≤ b ∧ b ≤ 1000000) ∧ (0 ≤ m ∧ m ≤ 1000000)) ?_ (fun σ H' hm => ?_)
  · walk_at "rd"
    walk_at "if"
    all_goals walk_at "rd"
    · refine ⟨by walk_at "sz", fun r4 h4 => ?_⟩
      walk_at "rd"
      exact ⟨r4, _, _, _, rfl, same_upd s3 h4, upd_same, by omega, by omega, by omega⟩
    · exact ⟨r3, _, _, _, rfl, s3, e3, by omega, by omega, by omega⟩
  obtain ⟨r, a, b, m, rfl, s4, e4, ha, hb, hm⟩ := hm
  walk_at "rd"
  refine w_ixL (SqL.of e4) (at_nat (i := 0) rfl rfl) ?_
  walk_at "rd"
  refine w_strI (smol_of (by omega)) ?_
  walk_at "rd"
  refine w_ixL (SqL.of e4) (at_nat (i := 1) rfl rfl) ?_
  walk_at "rd"
  refine w_strI (smol_of (by omega)) ?_
  walk_at "rd"
  refine ⟨by walk_at "sz", fun l hl => ?_⟩
  walk_at "rd"
  have s5 := same_upd (o := .lst [V.str "leaf", .str kp, .str (Str.ofString (toString a)), .str (Str.ofString (toString b)), .str (workS k)]) s4 hl
  have e5 : upd H' l (.lst [V.str "leaf", .str kp, .str (Str.ofString (toString a)), .str (Str.ofString (toString b)), .str (workS k)]) r = _ := (upd_ne (ne_of_none e4 hl)).trans e4
  refine w_cut (fun σ H'' => σ = [some (.int cell), some (.int other), some (.str kp), some (.str (workS k)), some (.ref r), some (.ref l)] ∧ Same H H'' ∧ H'' l = some (.lst ((shW ⟨k, nm, kp, a, b, if k = 0 then 0 else m⟩).map V.str))) ?_ (fun σ H'' hm' => ?_)
  · walk_at "rd"
    have hk0 : (V.str (workS k) = V.str "idle") ↔ k = 0 := by
      constructor
      · intro z
        have z := V.str.inj z
        unfold workS at z
        by_cases h0 : k = 0
        · exact h0
        · rw [if_neg h0] at z
          split at z
          · exact absurd (congrArg tl z) (by decide)
          · exact absurd (congrArg tl z) (by decide)
      · intro z
        rw [z]
        rfl
    by_cases h0 : k = 0
    · rw [decide_eq_true (hk0.mpr h0), Bool.not_true]
      walk_at "rd"
      refine ⟨rfl, s5, ?_⟩
      rw [upd_same, shW_leaf hw, if_pos h0]
      rfl
    · rw [decide_eq_false (fun z => h0 (hk0.mp z)), Bool.not_false]
      walk_at "rd"
      refine w_ixL (SqL.of e5) (at_nat (i := 2) rfl rfl) ?_
      walk_at "rd"
      refine w_strI (smol_of (by omega)) ?_
      walk_at "rd"
      refine ⟨rfl, same_mut s5 (s4.free hl), ?_⟩
      rw [upd_same, shW_leaf hw, if_neg h0, if_neg h0]
      rfl
  obtain ⟨rfl, s6, e6⟩ := hm'
  walk_at "rd"
  refine q _ l _ rfl (okS_mk (by omega) hk hnm ha hb (by split <;> omega) (fun z1 z2 => if_pos (by omega)) (fun z => by omega)) hw (s4.free hl) s6 e6
/-- the law's own lists of a tree -/
def LT (D : TreeD) (t : Addr) (H : Hp) : Prop := ∃ (a b c d : Addr) (ws : List Addr), H t = some (.tup [.ref a, .ref b, .ref c, .ref d]) ∧ H a = some (.lst (D.dps.map fun n : Nat => V.int n)) ∧ H b = some (.lst (D.eld.map V.int)) ∧ H c = some (.lst (ws.map V.ref)) ∧ ws.length = D.n ∧
  (∀ i w, ws[i]? = some w → H w = some (.lst ((shW (D.sh i)).map V.str))) ∧ H d = some (.lst (D.shs.map fun s => V.str s.name))
theorem LT.same {D : TreeD} {t : Addr} {H H' : Hp} (e : Same H H') (h : LT D t H) : LT D t H' := by
  obtain ⟨a, b, c, d, ws, h1, h2, h3, h4, h5, h6, h7⟩ := h
  exact ⟨a, b, c, d, ws, e _ _ h1, e _ _ h2, e _ _ h3, e _ _ h4, h5, fun i w hw => e _ _ (h6 i w hw), e _ _ h7⟩
def named (mark : Int) (D : TreeD) : Prop := ∀ i, i < D.n → (D.sh i).name = mkS (nameL i mark)
def spTree (K : PySem.W.Frag) : Sp := fun vs H Q _ => ∃ (a : Addr) (ns : List Int) (first count : Nat) (mark : Int), vs = [.ref a, .int (first : Int), .int (count : Int), .int mark] ∧ SqL K H a (ns.map V.int) ∧ ns.length ≤ 1000 ∧ 1 ≤ count ∧ count ≤ 64 ∧ ∀ D t H', Good D → named mark D → (∃ p, PathOK D p) → D.n = count → Same H H' → LT D t H' → Q (.ref t) H'
/-- what stands ahead of row i + 1 -/
def TInv (H : Hp) (a : Addr) (first count : Nat) (mark : Int) (i : Nat) (σ : L2.St) (H' : Hp) : Prop := ∃ (D : TreeD) (p : List Nat) (x y z q : Addr) (ws : List Addr) (v8 v9 v10 : Option V), σ = [some (.ref a), some (.int (first : Int)), some (.int (count : Int)), some (.int mark), some (.ref x), some (.ref y), some (.ref z), some (.ref q), v8, v9, v10, none] ∧
  Same H H' ∧ (H x = none ∧ H y = none ∧ H z = none) ∧ (x ≠ y ∧ x ≠ z ∧ y ≠ z) ∧ (q ≠ x ∧ q ≠ y ∧ q ≠ z) ∧ (∀ w ∈ ws, w ≠ x ∧ w ≠ y ∧ w ≠ z) ∧ H' x = some (.lst (D.dps.map fun n : Nat => V.int n)) ∧ H' y = some (.lst (D.eld.map V.int)) ∧ H' z = some (.lst (ws.map V.ref)) ∧ H' q = some (.lst (p.map fun n : Nat => V.int n)) ∧
  ws.length = D.n ∧ (∀ i w, ws[i]? = some w → H' w = some (.lst ((shW (D.sh i)).map V.str))) ∧ Good D ∧ PathOK D p ∧ D.n = i + 1 ∧ named mark D
theorem ok_tree {f : Addr} {fd : FuncData} (F : Fun K "_law_tree" "_law_tree" s_law_tree f fd) (T : Bt mg) (C0 : Cal P w K mg base CX0 "_law_cell_at" 1 ["_law_script", "_law_k"] [] (spCell K)) (CN : Cal P w K mg base CX0 "_law_name" 1 ["_law_k", "_law_mark"] [] spNm)
    (CM : Cal P w K mg base CX0 "_law_minder_words" 1 ["_law_cell", "_law_other"] [] spMinW) (CL : Cal P w K mg base CX0 "_law_leaf_words" 1 ["_law_cell", "_law_other"] [] spLfW) : FnOk P w K mg base CX0 2 f fd ["_law_script", "_law_first", "_law_count", "_law_mark"] (spTree K) := by
  refine F.ok sc_law_tree (fun vs H Q E h => ?_) (fun cdv A outer s H vs Q E hr h => ?_)
  · obtain ⟨a, ns, first, count, mark, rfl, _⟩ := h
    rfl
  obtain ⟨a, ns, first, count, mark, rfl, hS, hl, c1, c64, q⟩ := h
  have hsz := PySem.sizeLine_eq
  refine ⟨_, (pss_cons (ps_set (i := 4) sc_law_tree.nd rfl (Or.inl rfl) (pe_lst (pa_cons pe_int pa_nil)))
    (pss_cons (ps_set (i := 5) sc_law_tree.nd rfl (Or.inl rfl) (pe_lst (pa_cons (pe_un un_neg pe_int) pa_nil)))
    (pss_cons (ps_set (i := 6) sc_law_tree.nd rfl (Or.inl rfl) (pe_lst (pa_cons (pe_ca (P := P) (w := w) (K := K) (mg := mg) (base := base) ⟨rfl, rfl, rfl, rfl, rfl⟩ hr rfl (pa_cons (pe_ca (P := P) (w := w) (K := K) (mg := mg) (base := base) ⟨rfl, rfl, rfl, rfl, rfl⟩ hr rfl (pa_cons (pv 0) (pa_cons (pv 1) pa_nil))) (pa_cons (pe_ca (P := P) (w := w) (K := K) (mg := mg) (base := base) ⟨rfl, rfl, rfl, rfl, rfl⟩ hr rfl (pa_cons (pv 0) (pa_cons (pe_op op_add (pv 1) pe_int) pa_nil))) pa_nil))) pa_nil)))
    (C8.pss_cut (ps_if (pt_cmpR op_lt (pe_op op_mod (pe_op op_fdiv (pv 3) pe_int) pe_int) pe_int (nomark _)) (pss_one (ps_asg pe_str (pg_sub (pe_ix (kIxL (K := K) rfl) (pv 6) pe_int (fun _ _ => rfl)) pe_int set_list))) pss_nil)
    (pss_cons (ps_set (i := 7) sc_law_tree.nd rfl (Or.inl rfl) (pe_lst (pa_cons pe_int pa_nil)))
    (pss_cons (ps_for PassesOwn.never rfl (pi_range2 rfl T.range (pa_cons pe_int (pa_cons (pv 2) pa_nil))) (pg_name (i := 8) sc_law_tree.nd rfl (Or.inl rfl)) (pss_cons (ps_set (i := 9) sc_law_tree.nd rfl (Or.inl rfl) (pe_op op_add (pe_ca (P := P) (w := w) (K := K) (mg := mg) (base := base) ⟨rfl, rfl, rfl, rfl, rfl⟩ hr rfl (pa_cons (pv 0) (pa_cons (pe_op op_add (pv 1) (pv 8)) pa_nil))) (pe_op op_mul pe_int (pv 8))))
    (pss_cons (ps_set (i := 10) sc_law_tree.nd rfl (Or.inl rfl) (pe_op op_add (pe_ca (P := P) (w := w) (K := K) (mg := mg) (base := base) ⟨rfl, rfl, rfl, rfl, rfl⟩ hr rfl (pa_cons (pv 0) (pa_cons (pe_op op_add (pe_op op_add (pv 1) (pv 8)) pe_int) pa_nil))) (pv 8)))
    (C8.pss_cut (ps_if (pt_cmpR op_lt (pe_op op_mod (pv 3) pe_int) pe_int (nomark _)) (pss_one (ps_set (i := 7) sc_law_tree.nd rfl (Or.inl rfl) (pe_slice (kSlL (K := K) rfl) (pv 7) po_none (po_some (pe_op op_add pe_int (pe_op op_mod (pe_op op_fdiv (pv 9) pe_int) (pe_callB (kLenL (K := K) rfl) (by rfl) T.len (by decide +kernel) (pa_cons (pv 7) pa_nil)))))))) pss_nil)
    (pss_cons (ps_expr (kBm (K := K) rfl PySem.F.plainAttrs_list PySem.F.slot_list_append PySem.F.type_list_append mt_append (pv 4) (pa_cons (pe_callB (kLenL (K := K) rfl) (by rfl) T.len (by decide +kernel) (pa_cons (pv 7) pa_nil)) pa_nil)))
    (pss_cons (ps_expr (kBm (K := K) rfl PySem.F.plainAttrs_list PySem.F.slot_list_append PySem.F.type_list_append mt_append (pv 5) (pa_cons (pe_ix (kIxL (K := K) rfl) (pv 7) (pe_un un_neg pe_int) (fun _ _ => rfl)) pa_nil)))
    (pss_one (ps_if (PW.pt (pw_or (pt_cmpR op_lt (pe_op op_mod (pv 9) pe_int) pe_int (nomark _)) (pw_or1 (PW.pt (pw_and (pt_cmpR op_eq (pe_op op_mod (pv 3) pe_int) pe_int (nomark _)) (pw_and1 (pt_cmpR op_lt (pe_callB (kLenL (K := K) rfl) (by rfl) T.len (by decide +kernel) (pa_cons (pv 7) pa_nil)) pe_int (nomark _)))))))) (pss_cons (ps_expr (kBm (K := K) rfl PySem.F.plainAttrs_list PySem.F.slot_list_append PySem.F.type_list_append mt_append (pv 6) (pa_cons (pe_ca (P := P) (w := w) (K := K) (mg := mg) (base := base) ⟨rfl, rfl, rfl, rfl, rfl⟩ hr rfl (pa_cons (pv 9) (pa_cons (pv 10) pa_nil))) pa_nil)))
    (pss_one (ps_if (pt_cmpR op_lt (pe_callB (kLenL (K := K) rfl) (by rfl) T.len (by decide +kernel) (pa_cons (pv 7) pa_nil)) pe_int (nomark _)) (pss_one (ps_set (i := 7) sc_law_tree.nd rfl (Or.inl rfl) (pe_op op_cat (pv 7) (pe_lst (pa_cons (pv 8) pa_nil))))) pss_nil))) (pss_one (ps_expr (kBm (K := K) rfl PySem.F.plainAttrs_list PySem.F.slot_list_append PySem.F.type_list_append mt_append (pv 6) (pa_cons (pe_ca (P := P) (w := w) (K := K) (mg := mg) (base := base) ⟨rfl, rfl, rfl, rfl, rfl⟩ hr rfl (pa_cons (pv 9) (pa_cons (pv 10) pa_nil))) pa_nil))))))))))))
    (pss_cons (ps_setLc (i := 11) (own := [("_law_k", 8)]) (g := gName 8) (by rfl) sc_law_tree.nd rfl rfl (sw_true rfl rfl rfl (by decide +kernel)) (pi_range1 rfl T.range (pa_cons (pv 2) pa_nil)) (blkOk_by (own := [("_law_k", 8)]) (N := ["_law_script", "_law_first", "_law_count", "_law_mark", "_law_depths", "_law_elders", "_law_words", "_law_path", "_law_k", "_law_cell", "_law_other", "_law_names"]) (sc := defScope s_law_tree) (by decide +kernel)) (fun _ _ _ _ _ => pg_name (i := 8) sc_law_tree.nd rfl (Or.inl rfl)) (fun _ _ _ _ _ => pts_nil) (fun _ _ _ _ _ => by exact (pe_ca (P := P) (w := w) (K := K) (mg := mg) (base := base) ⟨rfl, rfl, rfl, rfl, rfl⟩ hr rfl (pa_cons (pv 8) (pa_cons (pv 3) pa_nil)))))
    (pss_one (ps_ret (pe_tup (pa_cons (pv 4) (pa_cons (pv 5) (pa_cons (pv 6) (pa_cons (pv 11) pa_nil)))))))))))))), ?_⟩
  walk_at "rd"
  refine ⟨by walk_at "sz", fun x hx => ?_⟩
  walk_at "rd"
  refine ⟨by walk_at "sz", fun y hy => ?_⟩
  walk_at "rd"
  have s1 := same_new hx (.lst [V.int 0])
  have s2 := same_upd (o := .lst [V.int (-1)]) s1 hy
  have nxy : x ≠ y := ne_of_none upd_same hy
  have ex : upd (upd H x (.lst [V.int 0])) y (.lst [V.int (-1)]) x = some (.lst [V.int 0]) := by rw [upd_ne nxy, upd_same]
  have ey : upd (upd H x (.lst [V.int 0])) y (.lst [V.int (-1)]) y = some (.lst [V.int (-1)]) := upd_same
  have fy := updN hy
  generalize upd (upd H x (.lst [V.int 0])) y (.lst [V.int (-1)]) = H2 at s2 ex ey ⊢
  refine w_ca CM (by decide) ?_
  walk_at "rd"
  refine w_ca C0 (by decide) ?_
  walk_at "rd"
  refine ⟨a, ns, first, rfl, s2.seq hS, hl, ?_⟩
  walk_at "rd"
  refine w_ca C0 (by decide) ?_
  walk_at "rd"
  refine ⟨a, ns, first + 1, by rw [Int.natCast_add]; rfl, s2.seq hS, hl, ?_⟩
  walk_at "rd"
  refine ⟨_, _, rfl, mkS (nameL 0 mark), nameL_fit 0 mark, fun s0 r0 H3 en ok hk hr0 s3 e3 => ?_⟩
  walk_at "rd"
  refine ⟨by walk_at "sz", fun z hz => ?_⟩
  walk_at "rd"
  have s4 := s2.trans s3
  have ex := s3 _ _ ex
  have ey := s3 _ _ ey
  have nxz : x ≠ z := ne_of_none ex hz
  have nyz : y ≠ z := ne_of_none ey hz
  have nrx : r0 ≠ x := (neN hr0 (show H2 x = some _ from by assumption)).symm
  have nry : r0 ≠ y := (neN hr0 (show H2 y = some _ from by assumption)).symm
  have nrz : r0 ≠ z := ne_of_none e3 hz
  have fz : H z = none := s4.free hz
  have fr0 : H r0 = none := s2.free hr0
  have s5 := same_upd (o := .lst [V.ref r0]) s4 hz
  have ex : upd H3 z (.lst [V.ref r0]) x = _ := (upd_ne nxz).trans ex
  have ey : upd H3 z (.lst [V.ref r0]) y = _ := (upd_ne nyz).trans ey
  have ez : upd H3 z (.lst [V.ref r0]) z = some (.lst [V.ref r0]) := upd_same
  have e3 : upd H3 z (.lst [V.ref r0]) r0 = _ := (upd_ne nrz).trans e3
  generalize upd H3 z (.lst [V.ref r0]) = H4 at s5 ex ey ez e3 ⊢
  refine w_cut (fun σ H' => ∃ s1 : Shp, σ = [some (.ref a), some (.int (first : Int)), some (.int (count : Int)), some (.int mark), some (.ref x), some (.ref y), some (.ref z), none, none, none, none, none] ∧ s1.name = mkS (nameL 0 mark) ∧ OkS s1 ∧ 3 ≤ s1.kind ∧ Same H H' ∧ H' x = some (.lst [V.int 0]) ∧ H' y = some (.lst [V.int (-1)]) ∧ H' z = some (.lst [V.ref r0]) ∧ H' r0 = some (.lst ((shW s1).map V.str))) ?_ (fun σ H' hm => ?_)
  · walk_at "rd"
    walk_at "if"
    all_goals walk_at "rd"
    · refine w_ixL (SqL.of ez) (at_nat (i := 0) rfl rfl) ?_
      walk_at "rd"
      have es : shW s0 = minWords s0.keep (wayS s0.kind) s0.a s0.b := by
        unfold shW
        rw [if_neg (by omega)]
      refine w_setL (k := 3) e3 (ixN_of rfl (by rw [es]; show 3 < 5; decide)) ?_
      walk_at "rd"
      refine ⟨{ s0 with a := 100 }, rfl, en, okS_mk ok.kd ok.kp ok.nm ⟨by decide, by decide⟩ ok.b0 ok.m0 ok.mz ok.b1, hk, same_mut s5 fr0, (upd_ne nrx.symm).trans ex, (upd_ne nry.symm).trans ey, (upd_ne nrz.symm).trans ez, ?_⟩
      rw [upd_same, es]
      unfold shW
      rw [if_neg (by dsimp only; omega)]
      rfl
    · exact ⟨s0, rfl, en, ok, hk, s5, ex, ey, ez, e3⟩
  obtain ⟨s1, rfl, en, ok, hk, s5, ex, ey, ez, e3⟩ := hm
  walk_at "rd"
  refine ⟨by walk_at "sz", fun q0 hq => ?_⟩
  walk_at "rd"
  have gp := good_top ok hk
  have nqx : q0 ≠ x := (neN hq ex).symm
  have nqy : q0 ≠ y := (neN hq ey).symm
  have nqz : q0 ≠ z := (neN hq ez).symm
  have nqr : q0 ≠ r0 := (neN hq e3).symm
  have e00 : (TreeD.nil.add s1 (-1)).dps = [0] := by
    show [] ++ [if (-1 : Int) < 0 then 0 else _] = _
    rw [if_pos (by decide)]
    rfl
  refine w_forR2 (lo := 1) (hi := (count : Int)) (TInv H a first count mark) (by omega) ⟨TreeD.nil.add s1 (-1), [0], x, y, z, q0, [r0], _, _, _, rfl, same_upd s5 hq, ⟨hx, fy, fz⟩, ⟨nxy, nxz, nyz⟩, ⟨nqx, nqy, nqz⟩, fun w hw => ?_, by rw [e00]; exact (upd_ne nqx.symm).trans ex, (upd_ne nqy.symm).trans ey, (upd_ne nqz.symm).trans ez, upd_same, rfl, fun i w hw => ?_, gp.1, gp.2, rfl, fun i hi => ?_⟩ (fun i σ H5 hi hm => ?_) (fun σ H5 hm => ?_)
  · rw [List.mem_singleton] at hw
    rw [hw]
    exact ⟨nrx, nry, nrz⟩
  · have hi := (List.getElem?_eq_some_iff.mp hw).choose
    have : i = 0 := by have : i < 1 := hi; omega
    subst this
    obtain rfl := Option.some.inj hw
    exact (upd_ne nqr.symm).trans e3
  · have : i = 0 := by have : i < 1 := hi; omega
    subst this
    exact en
  · obtain ⟨D, p, x, y, z, q0, ws, v8, v9, v10, rfl, s6, ⟨hx, hy, hz⟩, ⟨nxy, nxz, nyz⟩, ⟨nqx, nqy, nqz⟩, nw, ex, ey, ez, eq, lw, ew, g, P, en, nm⟩ := hm
    have hS6 := s6.seq hS
    have hp8 := P.le
    have hp1 := P.ne
    walk_at "rd"
    refine w_ca C0 (by decide) ?_
    walk_at "rd"
    refine ⟨a, ns, first + (1 + i), by rw [Int.natCast_add, Int.natCast_add]; rfl, hS6, hl, ?_⟩
    walk_at "rd"
    refine ⟨_, _, rfl, rfl, .inl ⟨by decide, by decide⟩, ?_⟩
    walk_at "rd"
    refine w_ca C0 (by decide) ?_
    walk_at "rd"
    refine ⟨a, ns, first + (1 + i) + 1, by rw [Int.natCast_add, Int.natCast_add, Int.natCast_add]; rfl, hS6, hl, ?_⟩
    walk_at "rd"
    generalize cellAt ns (first + (1 + i)) + 3 * (1 + (i : Int)) = cell
    generalize cellAt ns (first + (1 + i) + 1) + (1 + (i : Int)) = other
    refine w_cut (fun σ H' => ∃ (q1 : Addr) (j : Nat), σ = [some (.ref a), some (.int (first : Int)), some (.int (count : Int)), some (.int mark), some (.ref x), some (.ref y), some (.ref z), some (.ref q1), some (.int (1 + (i : Int))), some (.int cell), some (.int other), none] ∧ 1 ≤ j ∧ j ≤ p.length ∧ Same H5 H' ∧ (q1 ≠ x ∧ q1 ≠ y ∧ q1 ≠ z) ∧ H' q1 = some (.lst ((p.take j).map fun n : Nat => V.int n))) ?_ (fun σ H6 hm => ?_)
    · walk_at "rd"
      walk_at "if"
      all_goals walk_at "rd"
      · rw [List.length_map]
        refine w_I (show (0 : Int) < (p.length : Int) by omega) ?_
        walk_at "rd"
        have b0 := Int.emod_nonneg (cell / 80) (show (p.length : Int) ≠ 0 by omega)
        have b1 := Int.emod_lt_of_pos (cell / 80) (show (0 : Int) < (p.length : Int) by omega)
        obtain ⟨j, ej⟩ : ∃ j : Nat, 1 + cell / 80 % (p.length : Int) = (j : Int) := ⟨(1 + cell / 80 % (p.length : Int)).toNat, by omega⟩
        rw [ej]
        refine w_slL (SqL.of eq) fun q1 hq1 => ?_
        walk_at "rd"
        refine ⟨q1, j, rfl, by omega, by omega, same_new hq1 _, ⟨(neN hq1 ex).symm, (neN hq1 ey).symm, (neN hq1 ez).symm⟩, ?_⟩
        rw [upd_same, cutV_to, List.map_take]
      · refine ⟨q0, p.length, rfl, hp1, Nat.le_refl _, Same.refl _, ⟨nqx, nqy, nqz⟩, ?_⟩
        rw [List.take_length]
        exact eq
    obtain ⟨q1, j, rfl, j1, jp, s7, ⟨mqx, mqy, mqz⟩, eq1⟩ := hm
    have ex := s7 _ _ ex
    have ey := s7 _ _ ey
    have ez := s7 _ _ ez
    have ew : ∀ i w, ws[i]? = some w → H6 w = some (.lst ((shW (D.sh i)).map V.str)) := fun i w hw => s7 _ _ (ew i w hw)
    have lt : (p.take j).length = j := by rw [List.length_take]; omega
    have hb : p[j - 1]? = some p[j - 1] := List.getElem?_eq_getElem (by omega)
    generalize p[j - 1] = b at hb
    have hbt : (p.take j)[j - 1]? = some b := by rw [List.getElem?_take_of_lt (by omega)]; exact hb
    have sz := g.wf.sz
    have ld := g.wf.ld
    have le := g.wf.le
    walk_at "rd"
    rw [List.length_map, lt]
    refine w_ixL (SqL.of ((upd_ne mqx).trans eq1)) (at_last (v := .int (b : Int)) (by rw [List.length_map]; omega) (by rw [List.length_map, List.getElem?_map, lt, hbt]; rfl)) ?_
    have ey' : upd H6 x (.lst ((D.dps.map fun n : Nat => V.int n) ++ [.int (j : Int)])) y = _ := (upd_ne nxy.symm).trans ey
    refine w_nil ?_
    refine w_app ey' (by rw [List.length_map]; omega) ?_
    walk_at "rd"
    have s8 : Same H (upd (upd H6 x (.lst ((D.dps.map fun n : Nat => V.int n) ++ [.int (j : Int)]))) y (.lst (D.eld.map V.int ++ [.int (b : Int)]))) := same_mut (same_mut (s6.trans s7) hx) hy
    have fx : upd (upd H6 x (.lst ((D.dps.map fun n : Nat => V.int n) ++ [.int (j : Int)]))) y (.lst (D.eld.map V.int ++ [.int (b : Int)])) x = some (.lst ((D.dps.map fun n : Nat => V.int n) ++ [.int (j : Int)])) := (upd_ne nxy).trans upd_same
    have fy : upd (upd H6 x (.lst ((D.dps.map fun n : Nat => V.int n) ++ [.int (j : Int)]))) y (.lst (D.eld.map V.int ++ [.int (b : Int)])) y = some (.lst (D.eld.map V.int ++ [.int (b : Int)])) := upd_same
    have fo : ∀ c o, c ≠ x → c ≠ y → H6 c = some o → upd (upd H6 x (.lst ((D.dps.map fun n : Nat => V.int n) ++ [.int (j : Int)]))) y (.lst (D.eld.map V.int ++ [.int (b : Int)])) c = some o := fun c o h1 h2 h3 => by rw [upd_ne h2, upd_ne h1]; exact h3
    have fz := fo z _ nxz.symm nyz.symm ez
    have fq := fo q1 _ mqx mqy eq1
    have fw : ∀ i w, ws[i]? = some w → _ := fun i w hw => fo w _ (nw w (List.mem_of_getElem? hw)).1 (nw w (List.mem_of_getElem? hw)).2.1 (ew i w hw)
    generalize upd (upd H6 x (.lst ((D.dps.map fun n : Nat => V.int n) ++ [.int (j : Int)]))) y (.lst (D.eld.map V.int ++ [.int (b : Int)])) = H7 at s8 fx fy fz fq fw ⊢
    -- the row's shape s: what stands behind
    have new : ∀ s : Shp, s.name = mkS (nameL (i + 1) mark) → s.name ∉ D.shs.map Shp.name := fun s hs hm => by
      obtain ⟨t, ht, e⟩ := List.mem_map.mp hm
      obtain ⟨k, hk, e2⟩ := List.getElem_of_mem ht
      have e3 := nm k hk
      have e4 : D.sh k = t := by
        unfold TreeD.sh
        rw [List.getD_eq_getElem?_getD, List.getElem?_eq_getElem hk, e2]
        rfl
      rw [e4, e, hs] at e3
      have := nameL_inj (by omega) (by have : k < D.n := hk; omega) (congrArg tl e3)
      have : k < D.n := hk
      omega
    have fin : ∀ (s : Shp) (r : Addr) (H8 : Hp) (p' : List Nat) (q2 : Addr), s.name = mkS (nameL (i + 1) mark) → OkS s → H7 r = none → Same H H8 → (q2 ≠ x ∧ q2 ≠ y ∧ q2 ≠ z) → H8 x = some (.lst ((D.dps.map fun n : Nat => V.int n) ++ [.int (j : Int)])) → H8 y = some (.lst (D.eld.map V.int ++ [.int (b : Int)])) →
        H8 z = some (.lst ((ws ++ [r]).map V.ref)) → H8 q2 = some (.lst (p'.map fun n : Nat => V.int n)) → (∀ i w, ws[i]? = some w → H8 w = some (.lst ((shW (D.sh i)).map V.str))) → H8 r = some (.lst ((shW s).map V.str)) → PathOK (D.add s (b : Int)) p' →
        TInv H a first count mark (i + 1) [some (.ref a), some (.int (first : Int)), some (.int (count : Int)), some (.int mark), some (.ref x), some (.ref y), some (.ref z), some (.ref q2), some (.int (1 + (i : Int))), some (.int cell), some (.int other), none] H8 := fun s r H8 p' q2 hn ok hr8 s9 nq2 gx gy gz gq gw gr P' => by
      have hd := (P.at_ _ _ hb)
      have gr' := good_row g P j1 jp hb ok (new s hn) (by omega)
      have ed : (D.add s (b : Int)).dps = D.dps ++ [j] := by
        show D.dps ++ [if (b : Int) < 0 then 0 else D.dp ((b : Int)).toNat + 1] = _
        rw [if_neg (by omega), Int.toNat_natCast, hd.2.1, show j - 1 + 1 = j by omega]
      refine ⟨D.add s (b : Int), p', x, y, z, q2, ws ++ [r], _, _, _, rfl, s9, ⟨hx, hy, hz⟩, ⟨nxy, nxz, nyz⟩, nq2, fun w hw => ?_, ?_, ?_, gz, gq, ?_, fun k w hw => ?_, gr'.1, P', ?_, fun k hk => ?_⟩
      · rcases List.mem_append.mp hw with hw | hw
        · exact nw w hw
        · rw [List.mem_singleton] at hw
          rw [hw]
          exact ⟨(neN hr8 fx).symm, (neN hr8 fy).symm, (neN hr8 fz).symm⟩
      · rw [ed, List.map_append]
        exact gx
      · show H8 y = some (.lst ((D.eld ++ [(b : Int)]).map V.int))
        rw [List.map_append]
        exact gy
      · rw [List.length_append, lw, add_n]
        rfl
      · by_cases hk : k < ws.length
        · rw [List.getElem?_append_left hk] at hw
          rw [add_sh_lt (by omega)]
          exact gw k w hw
        · have hk2 : k = ws.length := by
            have := (List.getElem?_eq_some_iff.mp hw).choose
            rw [List.length_append, List.length_singleton] at this
            omega
          rw [List.getElem?_append_right (by omega), hk2, Nat.sub_self] at hw
          obtain rfl := Option.some.inj hw
          rw [hk2, lw, add_sh_eq]
          exact gr
      · rw [add_n]
        omega
      · rw [add_n] at hk
        by_cases h : k < D.n
        · rw [add_sh_lt h]
          exact nm k h
        · have : k = D.n := by omega
          rw [this, add_sh_eq, en]
          exact hn
    -- a minder | a leaf
    by_cases c5 : cell % 5 < 2
    · rw [decide_eq_true c5]
      walk_at "rd"
      refine w_ca CM (by decide) ?_
      walk_at "rd"
      refine ⟨_, _, rfl, mkS (nameL (i + 1) mark), nameL_fit (i + 1) mark, fun s r H8 hn ok hk hr8 s9 er => ?_⟩
      refine w_nil ?_
      refine w_app (s9 _ _ fz) (by rw [List.length_map]; omega) ?_
      have nrx : r ≠ x := (neN hr8 fx).symm
      have nry : r ≠ y := (neN hr8 fy).symm
      have nrz : r ≠ z := (neN hr8 fz).symm
      have gq := (upd_ne (o := .lst (ws.map V.ref ++ [.ref r])) mqz).trans (s9 _ _ fq)
      have s10 := same_mut (o := .lst (ws.map V.ref ++ [.ref r])) (s8.trans s9) hz
      have gx := (upd_ne (o := .lst (ws.map V.ref ++ [.ref r])) nxz).trans (s9 _ _ fx)
      have gy := (upd_ne (o := .lst (ws.map V.ref ++ [.ref r])) nyz).trans (s9 _ _ fy)
      have gz : upd H8 z (.lst (ws.map V.ref ++ [.ref r])) z = some (.lst ((ws ++ [r]).map V.ref)) := by rw [upd_same, List.map_append]; rfl
      have gw : ∀ i w, ws[i]? = some w → upd H8 z (.lst (ws.map V.ref ++ [.ref r])) w = some (.lst ((shW (D.sh i)).map V.str)) := fun i w hw => (upd_ne (nw w (List.mem_of_getElem? hw)).2.2).trans (s9 _ _ (fw i w hw))
      have gr := (upd_ne (o := .lst (ws.map V.ref ++ [.ref r])) nrz).trans er
      generalize upd H8 z (.lst (ws.map V.ref ++ [.ref r])) = H9 at gq s10 gx gy gz gw gr ⊢
      have gro := good_row g P j1 jp hb ok (new s hn) (by omega)
      walk_at "rd"
      rw [List.length_map, lt]
      by_cases h8 : j < 8
      · rw [decide_eq_true (show (j : Int) < 8 by omega)]
        walk_at "rd"
        refine ⟨by walk_at "sz", fun r9 h9 => ?_⟩
        have gq2 := (upd_ne (o := .lst [V.int (1 + (i : Int))]) (ne_of_none gq h9)).trans gq
        refine w_cat gq2 upd_same (by rw [List.length_map, lt]; show j + 1 ≤ _; omega) fun r10 h10 => ?_
        walk_at "rd"
        have ko : ∀ c o, H9 c = some o → upd (upd H9 r9 (.lst [V.int (1 + (i : Int))])) r10 (.lst (((p.take j).map fun n : Nat => V.int n) ++ [V.int (1 + (i : Int))])) c = some o := fun c o hc => by
          have h1 := (upd_ne (o := .lst [V.int (1 + (i : Int))]) (ne_of_none hc h9)).trans hc
          exact (upd_ne (ne_of_none h1 h10)).trans h1
        refine fin s r _ (p.take j ++ [D.n]) r10 hn ok hr8 (same_upd (same_upd s10 h9) h10) ⟨(neN (updN h10) gx).symm, (neN (updN h10) gy).symm, (neN (updN h10) gz).symm⟩ (ko _ _ gx) (ko _ _ gy) (ko _ _ gz) ?_ (fun i w hw => ko _ _ (gw i w hw)) (ko _ _ gr) (gro.2.1 h8 hk)
        rw [upd_same, List.map_append, en]
        show some (HO.lst (_ ++ [V.int (1 + (i : Int))])) = some (HO.lst (_ ++ [V.int ((i + 1 : Nat) : Int)]))
        rw [show (1 + (i : Int)) = ((i + 1 : Nat) : Int) by omega]
      · rw [decide_eq_false (show ¬ (j : Int) < 8 by omega)]
        walk_at "rd"
        exact fin s r _ (p.take j) q1 hn ok hr8 s10 ⟨mqx, mqy, mqz⟩ gx gy gz gq gw gr gro.2.2

    rw [decide_eq_false c5]
    walk_at "rd"
    by_cases c6 : mark % 5 = 4
    case neg =>
      rw [decide_eq_false (fun z => c6 (V.int.inj z))]
      walk_at "rd"
      refine w_ca CL (by decide) ?_
      walk_at "rd"
      refine ⟨_, _, rfl, mkS (nameL (i + 1) mark), nameL_fit (i + 1) mark, fun s r H8 hn ok hk hr8 s9 er => ?_⟩
      refine w_nil ?_
      refine w_app (s9 _ _ fz) (by rw [List.length_map]; omega) ?_
      have nrz : r ≠ z := (neN hr8 fz).symm
      have gro := good_row g P j1 jp hb ok (new s hn) (by omega)
      walk_at "rd"
      refine fin s r _ (p.take j) q1 hn ok hr8 (same_mut (s8.trans s9) hz) ⟨mqx, mqy, mqz⟩ ((upd_ne nxz).trans (s9 _ _ fx)) ((upd_ne nyz).trans (s9 _ _ fy)) ?_ ((upd_ne mqz).trans (s9 _ _ fq)) (fun i w hw => (upd_ne (nw w (List.mem_of_getElem? hw)).2.2).trans (s9 _ _ (fw i w hw))) ((upd_ne nrz).trans er) gro.2.2
      rw [upd_same, List.map_append]
      rfl

    rw [decide_eq_true (congrArg V.int c6)]
    walk_at "rd"
    rw [List.length_map, lt]
    by_cases c7 : j < 8
    · rw [decide_eq_true (show (j : Int) < 8 by omega)]
      walk_at "rd"
      refine w_ca CM (by decide) ?_
      walk_at "rd"
      refine ⟨_, _, rfl, mkS (nameL (i + 1) mark), nameL_fit (i + 1) mark, fun s r H8 hn ok hk hr8 s9 er => ?_⟩
      refine w_nil ?_
      refine w_app (s9 _ _ fz) (by rw [List.length_map]; omega) ?_
      have nrx : r ≠ x := (neN hr8 fx).symm
      have nry : r ≠ y := (neN hr8 fy).symm
      have nrz : r ≠ z := (neN hr8 fz).symm
      have gq := (upd_ne (o := .lst (ws.map V.ref ++ [.ref r])) mqz).trans (s9 _ _ fq)
      have s10 := same_mut (o := .lst (ws.map V.ref ++ [.ref r])) (s8.trans s9) hz
      have gx := (upd_ne (o := .lst (ws.map V.ref ++ [.ref r])) nxz).trans (s9 _ _ fx)
      have gy := (upd_ne (o := .lst (ws.map V.ref ++ [.ref r])) nyz).trans (s9 _ _ fy)
      have gz : upd H8 z (.lst (ws.map V.ref ++ [.ref r])) z = some (.lst ((ws ++ [r]).map V.ref)) := by rw [upd_same, List.map_append]; rfl
      have gw : ∀ i w, ws[i]? = some w → upd H8 z (.lst (ws.map V.ref ++ [.ref r])) w = some (.lst ((shW (D.sh i)).map V.str)) := fun i w hw => (upd_ne (nw w (List.mem_of_getElem? hw)).2.2).trans (s9 _ _ (fw i w hw))
      have gr := (upd_ne (o := .lst (ws.map V.ref ++ [.ref r])) nrz).trans er
      generalize upd H8 z (.lst (ws.map V.ref ++ [.ref r])) = H9 at gq s10 gx gy gz gw gr ⊢
      have gro := good_row g P j1 jp hb ok (new s hn) (by omega)
      walk_at "rd"
      rw [List.length_map, lt]
      by_cases h8 : j < 8
      · rw [decide_eq_true (show (j : Int) < 8 by omega)]
        walk_at "rd"
        refine ⟨by walk_at "sz", fun r9 h9 => ?_⟩
        have gq2 := (upd_ne (o := .lst [V.int (1 + (i : Int))]) (ne_of_none gq h9)).trans gq
        refine w_cat gq2 upd_same (by rw [List.length_map, lt]; show j + 1 ≤ _; omega) fun r10 h10 => ?_
        walk_at "rd"
        have ko : ∀ c o, H9 c = some o → upd (upd H9 r9 (.lst [V.int (1 + (i : Int))])) r10 (.lst (((p.take j).map fun n : Nat => V.int n) ++ [V.int (1 + (i : Int))])) c = some o := fun c o hc => by
          have h1 := (upd_ne (o := .lst [V.int (1 + (i : Int))]) (ne_of_none hc h9)).trans hc
          exact (upd_ne (ne_of_none h1 h10)).trans h1
        refine fin s r _ (p.take j ++ [D.n]) r10 hn ok hr8 (same_upd (same_upd s10 h9) h10) ⟨(neN (updN h10) gx).symm, (neN (updN h10) gy).symm, (neN (updN h10) gz).symm⟩ (ko _ _ gx) (ko _ _ gy) (ko _ _ gz) ?_ (fun i w hw => ko _ _ (gw i w hw)) (ko _ _ gr) (gro.2.1 h8 hk)
        rw [upd_same, List.map_append, en]
        show some (HO.lst (_ ++ [V.int (1 + (i : Int))])) = some (HO.lst (_ ++ [V.int ((i + 1 : Nat) : Int)]))
        rw [show (1 + (i : Int)) = ((i + 1 : Nat) : Int) by omega]
      · rw [decide_eq_false (show ¬ (j : Int) < 8 by omega)]
        walk_at "rd"
        exact fin s r _ (p.take j) q1 hn ok hr8 s10 ⟨mqx, mqy, mqz⟩ gx gy gz gq gw gr gro.2.2

    rw [decide_eq_false (show ¬ (j : Int) < 8 by omega)]
    walk_at "rd"
    refine w_ca CL (by decide) ?_
    walk_at "rd"
    refine ⟨_, _, rfl, mkS (nameL (i + 1) mark), nameL_fit (i + 1) mark, fun s r H8 hn ok hk hr8 s9 er => ?_⟩
    refine w_nil ?_
    refine w_app (s9 _ _ fz) (by rw [List.length_map]; omega) ?_
    have nrz : r ≠ z := (neN hr8 fz).symm
    have gro := good_row g P j1 jp hb ok (new s hn) (by omega)
    walk_at "rd"
    refine fin s r _ (p.take j) q1 hn ok hr8 (same_mut (s8.trans s9) hz) ⟨mqx, mqy, mqz⟩ ((upd_ne nxz).trans (s9 _ _ fx)) ((upd_ne nyz).trans (s9 _ _ fy)) ?_ ((upd_ne mqz).trans (s9 _ _ fq)) (fun i w hw => (upd_ne (nw w (List.mem_of_getElem? hw)).2.2).trans (s9 _ _ (fw i w hw))) ((upd_ne nrz).trans er) gro.2.2
    rw [upd_same, List.map_append]
    rfl
  · obtain ⟨D, p, x, y, z, q0, ws, v8, v9, v10, rfl, s6, ⟨hx, hy, hz⟩, ⟨nxy, nxz, nyz⟩, ⟨nqx, nqy, nqz⟩, nw, ex, ey, ez, eq, lw, ew, g, P, en, nm⟩ := hm
    have hn : D.n = count := by omega
    walk_at "rd"
    refine w_lcR (fun C i H' => Same H5 H' ∧ H' C = some (.lst ((List.range i).map fun k => V.str (mkS (nameL k mark))))) (by omega) (by omega) (fun C hC => ⟨same_new hC _, upd_same⟩) (fun C i H' hC hi hm => ?_) (fun C H' hC hm => ?_)
    · obtain ⟨t1, t2⟩ := hm
      walk_at "rd"
      refine w_ca CN (by decide) ?_
      walk_at "rd"
      refine ⟨i, mark, by rw [Int.zero_add]; rfl, fun yy ey => ⟨_, t2, by rw [List.length_map, List.length_range]; omega, same_mut t1 hC, ?_⟩⟩
      rw [upd_same, List.range_succ, List.map_append]
      have : yy = mkS (nameL i mark) := ext_tl ey
      rw [this]
      rfl
    · obtain ⟨t1, t2⟩ := hm
      walk_at "rd"
      refine ⟨by walk_at "sz", fun t ht => ?_⟩
      walk_at "rd"
      refine q D t _ g nm ⟨_, P⟩ hn (same_upd (s6.trans t1) ht) ⟨x, y, z, C, ws, upd_same, ?_, ?_, ?_, lw, fun i w hw => ?_, ?_⟩
      · exact (upd_ne (ne_of_none (t1 _ _ ex) ht)).trans (t1 _ _ ex)
      · exact (upd_ne (ne_of_none (t1 _ _ ey) ht)).trans (t1 _ _ ey)
      · exact (upd_ne (ne_of_none (t1 _ _ ez) ht)).trans (t1 _ _ ez)
      · exact (upd_ne (ne_of_none (t1 _ _ (ew i w hw)) ht)).trans (t1 _ _ (ew i w hw))
      · refine (upd_ne (ne_of_none t2 ht)).trans ?_
        rw [t2, Int.toNat_natCast, ← hn]
        congr 2
        refine List.ext_getElem (by rw [List.length_map, List.length_map, List.length_range]; rfl) fun k h1 h2 => ?_
        rw [List.getElem_map, List.getElem_map, List.getElem_range]
        have hk : k < D.n := by rw [List.length_map, List.length_range] at h1; exact h1
        have := nm k hk
        unfold TreeD.sh at this
        rw [List.getD_eq_getElem?_getD, List.getElem?_eq_getElem hk] at this
        rw [← this]
        rfl
end
end Mn

namespace Mn
open PySem PySem.Spec PyProof.Rows L2 TL
/-! ### law k06, no program in sight -/
def rowS (D : TreeD) (i : Nat) : Str := mkS (rowTextL D i)
abbrev rowsS (D : TreeD) : List Str := (List.range D.n).map (rowS D)
def ln (ws : List Str) : Str := Txt.join "\n" ws
theorem tl_ln (ws : List Str) : tl (ln ws) = joinL [10] (ws.map tl) := tl_joinT "\n" ws
theorem rowsM_ln {ws : List Str} (ne : ws ≠ []) (fr : ∀ w ∈ ws, 10 ∉ tl w) : rowsM (ln ws) = ws := by
  rw [rows_is, tl_ln, splitL_join 10 _ (fun z => ne (List.map_eq_nil_iff.mp z))]
  have e : ∀ ws : List Str, (∀ w ∈ ws, 10 ∉ tl w) → (ws.map tl).flatMap (splitL 10) = ws.map tl := by
    intro ws
    induction ws with
    | nil => intro _; rfl
    | cons a r ih =>
      intro fr
      rw [List.map_cons, List.flatMap_cons, splitL_free (fr a List.mem_cons_self), ih fun w hw => fr w (List.mem_cons_of_mem _ hw)]
      rfl
  rw [e ws fr, List.map_map]
  exact (List.map_congr_left fun x _ => mkS_tl x).trans (List.map_id _)
theorem ln_len {ws : List Str} {m : Nat} (h : ∀ w ∈ ws, w.length ≤ m) : (ln ws).length ≤ ws.length * (m + 1) := by
  rw [len_tl, tl_ln]
  have := joinL_len (m := m) [10] (ws.map tl) fun p hp => by
    obtain ⟨x, hx, rfl⟩ := List.mem_map.mp hp
    rw [← len_tl]
    exact h x hx
  rw [List.length_map] at this
  exact this
/-- a text that read may be asked: short rows, no line's end in them -/
structure Lns (ws : List Str) : Prop where
  ne : ws ≠ []
  fr : ∀ w ∈ ws, 10 ∉ tl w
  le : ∀ w ∈ ws, w.length ≤ 640
  ct : ws.length ≤ 70
theorem Lns.rd {ws : List Str} (h : Lns ws) : rowsM (ln ws) = ws ∧ (ln ws).length ≤ 100000 ∧ ∀ r ∈ rowsM (ln ws), r.length ≤ 640 := by
  have e := rowsM_ln h.ne h.fr
  refine ⟨e, ?_, by rw [e]; exact h.le⟩
  have h1 := ln_len h.le
  have h2 := Nat.mul_le_mul h.ct (Nat.le_refl (640 + 1))
  omega
theorem readM_ln {ws : List Str} (h : Lns ws) : readM (ln ws) = readGo ws .nil 0 := by
  unfold readM
  rw [h.rd.1]
theorem go_pre {D : TreeD} (g : Good D) (rest : List Str) : ∀ (m i k : Nat), i + m ≤ D.n → readGo ((List.range' i m).map (rowS D) ++ rest) (D.takeN i) k = readGo rest (D.takeN (i + m)) (k + m)
  | 0, i, k, _ => rfl
  | m + 1, i, k, h => by
    have W := g.wf
    rw [List.range'_succ, List.map_cons, List.cons_append]
    show (match rowM (D.takeN i) (mkS (rowTextL D i)) with
      | .skip => _
      | .bad => _
      | .many => _
      | .add s e => readGo _ ((D.takeN i).add s e) _) = _
    rw [row_good g (by omega) ⟨0, 0, by rw [List.replicate_zero, List.append_nil]; rfl⟩]
    dsimp only
    rw [g.add (by omega), go_pre g rest m (i + 1) (k + 1) (by omega), show i + 1 + m = i + (m + 1) by omega, show k + 1 + m = k + (m + 1) by omega]
theorem go_skip {D : TreeD} {r : Str} {rs : List Str} {k : Nat} (h : rowM D r = .skip) : readGo (r :: rs) D k = readGo rs D (k + 1) := by
  rw [readGo, h]
theorem go_bad {D : TreeD} {r : Str} {rs : List Str} {k : Nat} (h : rowM D r = .bad) : readGo (r :: rs) D k = .bad (k + 1) := by
  rw [readGo, h]
theorem go_many {D : TreeD} {r : Str} {rs : List Str} {k : Nat} (h : rowM D r = .many) : readGo (r :: rs) D k = .many := by
  rw [readGo, h]
theorem sk_one (D : TreeD) : rowM D "# one" = .skip := row_skip (p := tl "# one") (.inr ⟨0, tl " one", rfl⟩) D
theorem sk_nil (D : TreeD) : rowM D "" = .skip := row_skip (p := []) (.inl ⟨0, rfl⟩) D
/-! the odd rows -/
def isBadW (l : List Nat) : Bool :=
  let ws := (wordsL l).map mkS
  !ws.isEmpty && (!decide ((tl (wAt ws 0)).head? = some 35) && (shapeM ws).isNone)
theorem words_is (row : Str) : wordsM row = (wordsL (tl row)).map mkS := by
  rw [← wordsM_tl, List.map_map]
  exact ((List.map_congr_left fun x _ => mkS_tl x).trans (List.map_id _)).symm
theorem bad_none {row : Str} (h : isBadW (tl row) = true) (D : TreeD) : rowM D row = .bad := by
  unfold isBadW at h
  rw [← words_is] at h
  dsimp only at h
  rw [Bool.and_eq_true, Bool.and_eq_true] at h
  obtain ⟨h1, h2, h3⟩ := h
  unfold rowM
  have e : Txt.startswith (wAt (wordsM row) 0) "#" = decide ((tl (wAt (wordsM row) 0)).head? = some 35) := starts_one _ 35
  rw [if_neg, Option.isNone_iff_eq_none.mp h3]
  rintro (z | z)
  · rw [z] at h1; cases h1
  · rw [e] at z
    rw [z] at h2
    cases h2
/-- a row with words, no remark -/
def isRowW (l : List Nat) : Bool := !((wordsL l).map mkS).isEmpty && !decide ((tl (wAt ((wordsL l).map mkS) 0)).head? = some 35)
theorem row_un {row : Str} (h : isRowW (tl row) = true) (D : TreeD) : rowM D row = match shapeM (wordsM row) with
  | none => .bad
  | some s =>
    if 0 < blanksM row % 2 ∨ 8 < blanksM row / 2 ∨ elderM D ((blanksM row / 2 : Nat) : Int) = -2 ∨ s.name ∈ D.shs.map Shp.name then .bad
    else if elderM D ((blanksM row / 2 : Nat) : Int) = -1 ∧ s.kind < 3 then .bad
    else if D.n = 64 then .many
    else .add s (elderM D ((blanksM row / 2 : Nat) : Int)) := by
  unfold isRowW at h
  rw [← words_is] at h
  rw [Bool.and_eq_true] at h
  obtain ⟨h1, h2⟩ := h
  have e : Txt.startswith (wAt (wordsM row) 0) "#" = decide ((tl (wAt (wordsM row) 0)).head? = some 35) := starts_one _ 35
  have neg : ¬ (wordsM row = [] ∨ Txt.startswith (wAt (wordsM row) 0) "#" = true) := by
    rintro (z | z)
    · rw [z] at h1; cases h1
    · rw [e] at z
      rw [z] at h2
      cases h2
  unfold rowM
  exact if_neg neg
theorem bad_blk {row : Str} (h : isRowW (tl row) = true) {D : TreeD} (b : 0 < blanksM row % 2 ∨ elderM D ((blanksM row / 2 : Nat) : Int) = -2) : rowM D row = .bad := by
  rw [row_un h]
  split
  · rfl
  · exact if_pos (b.elim .inl fun z => .inr (.inr (.inl z)))
theorem elder_0 {D : TreeD} (h : D.n ≠ 0) : elderM D ((0 : Nat) : Int) = -2 := by
  unfold elderM
  rw [if_pos (show ((0 : Nat) : Int) = 0 from rfl), if_neg h]
theorem takeN_dp {D : TreeD} {i k : Nat} (h : k < i) : (D.takeN i).dp k = D.dp k := getD_take _ _ h
theorem takeN_sh {D : TreeD} {i k : Nat} (h : k < i) : (D.takeN i).sh k = D.sh k := getD_take _ _ h
def deepOf (D : TreeD) (a : Nat) : Nat := if (D.sh (a - 1)).kind < 3 then D.dp (a - 1) + 1 else D.dp (a - 1) + 2
theorem elder_deep {D : TreeD} {a : Nat} (h1 : 1 ≤ a) (h2 : a ≤ D.n) : elderM (D.takeN a) (deepOf D a : Int) = -2 := by
  have hn : (D.takeN a).n = a := Good.takeN_n h2
  have hd : D.dp (a - 1) < deepOf D a ∧ 1 ≤ deepOf D a := by
    unfold deepOf
    split <;> omega
  unfold elderM
  rw [if_neg (by omega), hn, if_neg (by omega)]
  have ec : climb (D.takeN a) (deepOf D a : Int) (a + 1) ((a : Int) - 1) = (a : Int) - 1 := by
    rw [climb, if_neg]
    rintro ⟨_, z⟩
    rw [show ((a : Int) - 1).toNat = a - 1 by omega, takeN_dp (by omega)] at z
    omega
  rw [ec, if_neg (by omega), show ((a : Int) - 1).toNat = a - 1 by omega, takeN_dp (by omega), takeN_sh (by omega), if_pos]
  unfold deepOf
  by_cases k : (D.sh (a - 1)).kind < 3
  · exact .inr k
  · rw [if_neg k]
    exact .inl (by omega)
def oddA (nm : Str) : List Str := ["leaf always 0 0 idle", "leaf often 0 0 idle zzz", "leaf always 0 0 steady zzz", "leaf always 01 0 idle zzz", "leaf always 0 1000001 idle zzz", "leaf always 0 0 rest 1 zzz", "minder always one 1 0 zzz", "minder always two 1 1 zzz", "minder always one 1 zzz",
  "twig always 0 0 idle zzz", "leaf always 0 0 idle z_", "leaf always 0 0 idle abcdefghijklm", ("leaf always 0 0 idle " : Str) ++ nm, "leaf always 0 0 falls 1 2 zzz"]
def oddB : List Str := ["leaf always 0 0\tidle zzz", "leaf always 0 0 idle zzz\t", "\t", "leaf always 0 0 idle zzz # one", "leaf always 0 0 steady 01 zzz", "leaf always 0 0 falls +1 zzz", "minder always one 1_0 1 zzz", "minder always one 1 01 zzz", "minder always one 1000001 1 zzz", "leaf always - 0 idle zzz", "leaf always 0 0 idle Zzz"]
def oddK : List Str := ["  leaf always 0 0 idle", "  leaf often 0 0 idle zzz", "  leaf always 0 0 steady zzz", "  leaf always 01 0 idle zzz", "  leaf always 0 1000001 idle zzz", "  leaf always 0 0 rest 1 zzz", "  minder always one 1 0 zzz", "  minder always two 1 1 zzz", "  minder always one 1 zzz",
  "  twig always 0 0 idle zzz", "  leaf always 0 0 idle z_", "  leaf always 0 0 idle abcdefghijklm", "", "  leaf always 0 0 falls 1 2 zzz", "leaf always 0 0 idle zzz", "   leaf always 0 0 idle zzz", "", "minder always one 1 1 zzz",
  "  leaf always 0 0\tidle zzz", "  leaf always 0 0 idle zzz\t", "  \t", "  leaf always 0 0 idle zzz # one", "  leaf always 0 0 steady 01 zzz", "  leaf always 0 0 falls +1 zzz", "  minder always one 1_0 1 zzz", "  minder always one 1 01 zzz", "  minder always one 1000001 1 zzz", "  leaf always - 0 idle zzz", "  leaf always 0 0 idle Zzz"]
def oddS (way : Nat) (nm : Str) (deep : Nat) : Str := if way = 12 then ("  " : Str) ++ (("leaf always 0 0 idle " : Str) ++ nm) else if way = 16 then Txt.mul "  " deep ++ ("leaf always 0 0 idle zzz" : Str) else oddK.getD way ""
theorem oddA_is {way : Nat} (nm : Str) (deep : Nat) (h : way < 14) : ("  " : Str) ++ (oddA nm).getD way "" = oddS way nm deep := by
  unfold oddS
  by_cases c : way = 12
  · subst c
    rw [if_pos rfl]
    rfl
  rw [if_neg c, if_neg (by omega)]
  have e : (oddA nm).getD way "" = (oddA "").getD way "" := by
    have : way = 0 ∨ way = 1 ∨ way = 2 ∨ way = 3 ∨ way = 4 ∨ way = 5 ∨ way = 6 ∨ way = 7 ∨ way = 8 ∨ way = 9 ∨ way = 10 ∨ way = 11 ∨ way = 13 := by omega
    rcases this with rfl | rfl | rfl | rfl | rfl | rfl | rfl | rfl | rfl | rfl | rfl | rfl | rfl <;> rfl
  rw [e]
  have k : ((List.range 14).all fun way => way == 12 || decide (("  " : Str) ++ (oddA "").getD way "" = oddK.getD way "")) = true := by decide +kernel
  have := List.all_eq_true.mp k way (List.mem_range.mpr h)
  rw [Bool.or_eq_true, beq_iff_eq] at this
  exact this.elim (fun z => absurd z c) of_decide_eq_true
theorem oddB_is {way : Nat} (nm : Str) (deep : Nat) (h : 17 < way) (h2 : way < 29) : ("  " : Str) ++ oddB.getD (way - 18) "" = oddS way nm deep := by
  unfold oddS
  rw [if_neg (by omega), if_neg (by omega)]
  have k : ((List.range 11).all fun w => decide (("  " : Str) ++ oddB.getD w "" = oddK.getD (w + 18) "")) = true := by decide +kernel
  have := of_decide_eq_true (List.all_eq_true.mp k (way - 18) (List.mem_range.mpr (by omega)))
  rw [this, show way - 18 + 18 = way by omega]
theorem tl_cat (a b : Str) : tl (a ++ b) = tl a ++ tl b := tl_append a b
theorem odd_const {way : Nat} (h1 : way ≠ 12) (h2 : way ≠ 16) (nm : Str) (deep : Nat) : oddS way nm deep = oddK.getD way "" := by
  unfold oddS
  rw [if_neg h1, if_neg h2]
theorem odd_shape {way : Nat} (h : way < 29) (h1 : way ≠ 12) (h2 : way ≠ 14) (h3 : way ≠ 15) (h4 : way ≠ 16) (h5 : way ≠ 17) : isBadW (tl (oddK.getD way "")) = true := by
  have k : ((List.range 29).all fun way => way == 12 || way == 14 || way == 15 || way == 16 || way == 17 || isBadW (tl (oddK.getD way ""))) = true := by decide +kernel
  have := List.all_eq_true.mp k way (List.mem_range.mpr h)
  simp only [Bool.or_eq_true, beq_iff_eq] at this
  rcases this with ((((z | z) | z) | z) | z) | z
  · exact absurd z h1
  · exact absurd z h2
  · exact absurd z h3
  · exact absurd z h4
  · exact absurd z h5
  · exact z
theorem odd_plain {way : Nat} (h : way < 29) : 10 ∉ tl (oddK.getD way "") ∧ (tl (oddK.getD way "")).length ≤ 100 := by
  have k : ((List.range 29).all fun way => !(tl (oddK.getD way "")).contains 10 && decide ((tl (oddK.getD way "")).length ≤ 100)) = true := by decide +kernel
  have := List.all_eq_true.mp k way (List.mem_range.mpr h)
  rw [Bool.and_eq_true, decide_eq_true_eq] at this
  refine ⟨fun z => ?_, this.2⟩
  have := this.1
  rw [List.contains_iff_mem.mpr z] at this
  cases this
/-- a leaf's row -/
def lf (nm : Str) : Shp := ⟨0, nm, "always", 0, 0, 0⟩
theorem okS_lf {nm : Str} (h : fitL (tl nm) = true) : OkS (lf nm) := okS_mk (by decide) (by decide) h (by decide) (by decide) (by decide) (fun _ _ => rfl) (fun z => absurd z (by decide))
theorem lf_row {nm : Str} (h : fitL (tl nm) = true) (n : Nat) {row : Str} (e : tl row = List.replicate n 32 ++ (tl "leaf always 0 0 idle " ++ tl nm)) : wordsM row = shW (lf nm) ++ [nm] ∧ blanksM row = n ∧ isRowW (tl row) = true := by
  have f := (fit_ne h).1.1
  have e2 : wordsL (tl row) = (shW (lf nm) ++ [nm]).map tl := by
    rw [e, wordsL_blanks]
    have e3 : tl "leaf always 0 0 idle " ++ tl nm = joinL [32] ((shW (lf nm) ++ [nm]).map tl) := rfl
    rw [e3]
    refine wordsL_join 0 _ fun p hp => ?_
    obtain ⟨x, hx, rfl⟩ := List.mem_map.mp hp
    have := shW_free (okS_lf h) x hx
    exact ⟨this.1.1, fun z => this.2 (eq_nil_tl.mpr z)⟩
  have ew := wordsM_of e2
  refine ⟨ew, blanks_is e fun d r z => ?_, ?_⟩
  · have : (108 : Nat) = d := by
      have : (tl "leaf always 0 0 idle " ++ tl nm).head? = some d := by rw [z]; rfl
      exact Option.some.inj this
    omega
  · unfold isRowW
    rw [e2]
    rfl
theorem lf_shape {nm : Str} (h : fitL (tl nm) = true) : shapeM (shW (lf nm) ++ [nm]) = some (lf nm) := shapeM_back (okS_lf h)
theorem len_cat (a b : Str) : (a ++ b).length = a.length + b.length := by rw [len_tl, tl_append, List.length_append, ← len_tl, ← len_tl]
theorem odd_12 (nm : Str) (deep : Nat) : tl (oddS 12 nm deep) = List.replicate 2 32 ++ (tl "leaf always 0 0 idle " ++ tl nm) := by
  show tl (("  " : Str) ++ (("leaf always 0 0 idle " : Str) ++ nm)) = _
  rw [tl_cat, tl_cat]
  rfl
theorem odd_16 (nm : Str) (deep : Nat) : tl (oddS 16 nm deep) = List.replicate (2 * deep) 32 ++ (tl "leaf always 0 0 idle " ++ tl "zzz") := by
  show tl (Txt.mul "  " deep ++ ("leaf always 0 0 idle zzz" : Str)) = _
  rw [tl_cat, show ("  " : Str) = ⟨#[32, 32]⟩ from rfl, tl_mul2]
  rfl
theorem fit_len {x : Str} (h : fitL (tl x) = true) : (tl x).length ≤ 12 := by
  unfold fitL at h
  rw [Bool.and_eq_true, Bool.and_eq_true, decide_eq_true_eq, decide_eq_true_eq] at h
  omega
/-- the odd row, behind the first a rows -/
theorem odd_bad {D : TreeD} (g : Good D) {a way j : Nat} (h1 : 1 ≤ a) (h2 : a ≤ D.n) (hw : way < 29) (hj : j < a) : rowM (D.takeN a) (oddS way (D.sh j).name (deepOf D a)) = .bad ∧ 10 ∉ tl (oddS way (D.sh j).name (deepOf D a)) ∧ (oddS way (D.sh j).name (deepOf D a)).length ≤ 640 := by
  have W := g.wf
  have hn : (D.takeN a).n = a := Good.takeN_n h2
  have ok := W.ok _ (sh_mem (show j < D.n by omega))
  by_cases c12 : way = 12
  · subst c12
    have fit := ok.nm
    obtain ⟨e1, e2, e3⟩ := lf_row fit 2 (odd_12 (D.sh j).name (deepOf D a))
    refine ⟨?_, ?_, ?_⟩
    · rw [row_un e3, e1, lf_shape fit]
      refine if_pos (.inr (.inr (.inr ?_)))
      refine List.mem_map.mpr ⟨D.sh j, ?_, rfl⟩
      have : (D.takeN a).sh j ∈ (D.takeN a).shs := sh_mem (by rw [hn]; exact hj)
      rw [takeN_sh hj] at this
      exact this
    · rw [odd_12]
      intro z
      rcases List.mem_append.mp z with z | z
      · exact absurd (List.eq_of_mem_replicate z) (by decide)
      · rcases List.mem_append.mp z with z | z
        · exact absurd z (by decide)
        · exact (fit_ne fit).1.2 z
    · rw [len_tl, odd_12, List.length_append, List.length_append]
      have := fit_len fit
      have : (tl "leaf always 0 0 idle ").length = 21 := rfl
      have : (List.replicate 2 32).length = 2 := rfl
      omega
  by_cases c16 : way = 16
  · subst c16
    have fit : fitL (tl "zzz") = true := by decide
    obtain ⟨e1, e2, e3⟩ := lf_row fit (2 * deepOf D a) (odd_16 (D.sh j).name (deepOf D a))
    refine ⟨?_, ?_, ?_⟩
    · refine bad_blk e3 (.inr ?_)
      rw [e2, Nat.mul_div_cancel_left _ (by decide)]
      exact elder_deep h1 h2
    · rw [odd_16]
      intro z
      rcases List.mem_append.mp z with z | z
      · exact absurd (List.eq_of_mem_replicate z) (by decide)
      · exact absurd z (by decide)
    · rw [len_tl, odd_16, List.length_append, List.length_replicate]
      have d8 := W.d8 (a - 1) (by omega)
      have : deepOf D a ≤ D.dp (a - 1) + 2 := by unfold deepOf; split <;> omega
      have : (tl "leaf always 0 0 idle " ++ tl "zzz").length = 24 := rfl
      omega
  rw [odd_const c12 c16]
  obtain ⟨p1, p2⟩ := odd_plain hw
  refine ⟨?_, p1, by rw [len_tl]; omega⟩
  by_cases c14 : way = 14
  · subst c14
    refine bad_blk (by decide +kernel) (.inr ?_)
    rw [show blanksM (oddK.getD 14 "") = 0 from blanks_is (n := 0) (l := tl "leaf always 0 0 idle zzz") rfl (fun d r z => by
      have := congrArg List.head? z
      have : some (108 : Nat) = some d := this
      injection this
      omega)]
    exact elder_0 (by omega)
  by_cases c15 : way = 15
  · subst c15
    refine bad_blk (by decide +kernel) (.inl ?_)
    rw [show blanksM (oddK.getD 15 "") = 3 from blanks_is (n := 3) (l := tl "leaf always 0 0 idle zzz") rfl (fun d r z => by
      have := congrArg List.head? z
      have : some (108 : Nat) = some d := this
      injection this
      omega)]
    decide
  by_cases c17 : way = 17
  · subst c17
    refine bad_blk (by decide +kernel) (.inr ?_)
    rw [show blanksM (oddK.getD 17 "") = 0 from blanks_is (n := 0) (l := tl "minder always one 1 1 zzz") rfl (fun d r z => by
      have := congrArg List.head? z
      have : some (109 : Nat) = some d := this
      injection this
      omega)]
    exact elder_0 (by omega)
  exact bad_none (odd_shape hw c12 c14 c15 c16 c17) _
/-! texts: the good rows, the odd row among them -/
theorem rowS_ok {D : TreeD} (g : Good D) : ∀ w ∈ rowsS D, 10 ∉ tl w ∧ w.length ≤ 640 := fun w hw => by
  obtain ⟨i, hi, rfl⟩ := List.mem_map.mp hw
  have hi := List.mem_range.mp hi
  exact ⟨row_free g.wf hi, by rw [len_tl]; exact Nat.le_trans (rowText_len g.wf hi) (by decide)⟩
theorem lns_app {a b : List Str} (ha : ∀ w ∈ a, 10 ∉ tl w ∧ w.length ≤ 640) (hb : ∀ w ∈ b, 10 ∉ tl w ∧ w.length ≤ 640) (ne : a ++ b ≠ []) (c : a.length + b.length ≤ 70) : Lns (a ++ b) :=
  ⟨ne, fun w h => (List.mem_append.mp h).elim (fun h => (ha w h).1) fun h => (hb w h).1, fun w h => (List.mem_append.mp h).elim (fun h => (ha w h).2) fun h => (hb w h).2, by rw [List.length_append]; exact c⟩
theorem rows_split {D : TreeD} {a : Nat} (h : a ≤ D.n) : rowsS D = (List.range' 0 a).map (rowS D) ++ (List.range' a (D.n - a)).map (rowS D) := by
  rw [rowsS, ← List.map_append, List.range_eq_range']
  congr 1
  have := List.range'_append (s := 0) (m := a) (n := D.n - a) (step := 1)
  rw [Nat.zero_add, Nat.one_mul] at this
  rw [this]
  congr 1
  omega
/-- the rows with sk ahead of the row at a -/
def midS (sk : Bool) : List Str := if sk then ["# one", ""] else []
theorem mid_ok (sk : Bool) : (∀ w ∈ midS sk, 10 ∉ tl w ∧ w.length ≤ 640) ∧ (midS sk).length ≤ 2 ∧ ∀ D rs k, readGo (midS sk ++ rs) D k = readGo rs D (k + (midS sk).length) := by
  cases sk with
  | false => exact ⟨fun w h => absurd h List.not_mem_nil, by decide, fun _ _ _ => rfl⟩
  | true =>
    refine ⟨by decide, by decide, fun D rs k => ?_⟩
    show readGo ("# one" :: "" :: rs) D k = _
    rw [go_skip (sk_one D), go_skip (sk_nil D)]
    rfl
theorem read_mid {D : TreeD} (g : Good D) {a : Nat} (h : a ≤ D.n) (sk : Bool) : Lns ((rowsS D).take a ++ midS sk ++ (rowsS D).drop a) ∧ readM (ln ((rowsS D).take a ++ midS sk ++ (rowsS D).drop a)) = .ok D := by
  have W := g.wf
  have pos := g.pos
  have e := rows_split h
  have e1 : (rowsS D).take a = (List.range' 0 a).map (rowS D) := by rw [e, List.take_left' (by rw [List.length_map, List.length_range'])]
  have e2 : (rowsS D).drop a = (List.range' a (D.n - a)).map (rowS D) := by rw [e, List.drop_left' (by rw [List.length_map, List.length_range'])]
  have ok := rowS_ok g
  obtain ⟨m1, m2, m3⟩ := mid_ok sk
  have sz := W.sz
  have l : (rowsS D).length = D.n := by rw [List.length_map, List.length_range]
  have L : Lns ((rowsS D).take a ++ midS sk ++ (rowsS D).drop a) := by
    refine lns_app (fun w hw => (List.mem_append.mp hw).elim (fun z => ok w (List.mem_of_mem_take z)) (m1 w)) (fun w hw => ok w (List.mem_of_mem_drop hw)) (fun z => ?_) ?_
    · have := congrArg List.length z
      rw [List.length_append, List.length_append, List.length_take, List.length_drop, l] at this
      have : min a D.n + (midS sk).length + (D.n - a) = 0 := this
      omega
    · rw [List.length_append, List.length_take, List.length_drop, l]
      omega
  refine ⟨L, ?_⟩
  rw [readM_ln L, List.append_assoc, e1, e2]
  have h1 := go_pre g (midS sk ++ (List.range' a (D.n - a)).map (rowS D)) a 0 0 (by omega)
  rw [show D.takeN 0 = .nil from rfl, Nat.zero_add] at h1
  rw [h1, m3]
  have h2 := go_pre g [] (D.n - a) a (a + (midS sk).length) (by omega)
  rw [List.append_nil] at h2
  rw [h2, show a + (D.n - a) = D.n by omega, takeN_all W]
  show (if D.n = 0 then RR.top else .ok D) = _
  rw [if_neg (by omega)]
end Mn

namespace Mn
open PySem PySem.Spec PyProof.Rows L2 TL
theorem read_odd {D : TreeD} (g : Good D) {a way j : Nat} (h1 : 1 ≤ a) (h2 : a ≤ D.n) (hw : way < 29) (hj : j < a) (sk : Bool) {post : List Str} (hp : ∀ w ∈ post, 10 ∉ tl w ∧ w.length ≤ 640) (lp : a + post.length ≤ 66) :
    Lns ((rowsS D).take a ++ midS sk ++ oddS way (D.sh j).name (deepOf D a) :: post) ∧ readM (ln ((rowsS D).take a ++ midS sk ++ oddS way (D.sh j).name (deepOf D a) :: post)) = .bad (a + (midS sk).length + 1) := by
  obtain ⟨o1, o2, o3⟩ := odd_bad g h1 h2 hw hj
  have e := rows_split h2
  have e1 : (rowsS D).take a = (List.range' 0 a).map (rowS D) := by rw [e, List.take_left' (by rw [List.length_map, List.length_range'])]
  have ok := rowS_ok g
  obtain ⟨m1, m2, m3⟩ := mid_ok sk
  have l : (rowsS D).length = D.n := by rw [List.length_map, List.length_range]
  have L : Lns ((rowsS D).take a ++ midS sk ++ oddS way (D.sh j).name (deepOf D a) :: post) := by
    refine lns_app (fun w hw => (List.mem_append.mp hw).elim (fun z => ok w (List.mem_of_mem_take z)) (m1 w)) (fun w hw => ?_) (fun z => ?_) ?_
    · rcases List.mem_cons.mp hw with rfl | hw
      · exact ⟨o2, o3⟩
      · exact hp w hw
    · have := congrArg List.length z
      rw [List.length_append, List.length_cons] at this
      have : _ + (post.length + 1) = 0 := this
      omega
    · rw [List.length_append, List.length_take, List.length_cons, l]
      omega
  refine ⟨L, ?_⟩
  rw [readM_ln L, List.append_assoc, e1]
  have h1 := go_pre g (midS sk ++ oddS way (D.sh j).name (deepOf D a) :: post) a 0 0 (by omega)
  rw [show D.takeN 0 = .nil from rfl, Nat.zero_add] at h1
  rw [h1, m3, go_bad o1]
theorem ext_ln {x : Str} {ws : List Str} (h : tl x = joinL [10] (ws.map tl)) : x = ln ws := by
  have e := (mkS_tl x).symm
  rw [h, ← tl_ln, mkS_tl] at e
  exact e
theorem joinL_snoc {x : List Nat} : ∀ {ws : List (List Nat)}, ws ≠ [] → joinL [10] (ws ++ [x]) = joinL [10] ws ++ 10 :: x
  | [a], _ => by simp [joinL]
  | a :: b :: r, _ => by
    show a ++ ([10] ++ joinL [10] ((b :: r) ++ [x])) = _
    rw [joinL_snoc (List.cons_ne_nil _ _)]
    show _ = (a ++ ([10] ++ joinL [10] (b :: r))) ++ 10 :: x
    simp only [List.append_assoc]
theorem ln_snoc {ws : List Str} {x y : Str} (ne : ws ≠ []) (h : tl y = 10 :: tl x) : ln ws ++ y = ln (ws ++ [x]) := ext_ln (by
  rw [tl_cat, tl_ln, h, List.map_append, List.map_cons, List.map_nil, joinL_snoc (fun z => ne (List.map_eq_nil_iff.mp z))])
theorem ln_cons2 {x y : Str} {ws : List Str} (ne : ws ≠ []) : (((x ++ ("\n" : Str)) ++ y) ++ ("\n" : Str)) ++ ln ws = ln (x :: y :: ws) := ext_ln (by
  obtain ⟨a, r, rfl⟩ := List.exists_cons_of_ne_nil ne
  rw [tl_cat, tl_cat, tl_cat, tl_cat, tl_ln]
  show _ = tl x ++ ([10] ++ (tl y ++ ([10] ++ joinL [10] ((a :: r).map tl))))
  rw [show tl ("\n" : Str) = [10] from rfl]
  simp only [List.append_assoc])
theorem go_end {D : TreeD} {k : Nat} : readGo [] D k = if D.n = 0 then .top else .ok D := rfl
theorem top_1 : readM "# q\n\n   " = .top ∧ (∀ r ∈ rowsM "# q\n\n   ", r.length ≤ 640) ∧ ("# q\n\n   " : Str).length ≤ 100000 := by
  have e : rowsM "# q\n\n   " = (["# q", "", "   "] : List Str) := by rw [rows_is]; rfl
  refine ⟨?_, by rw [e]; decide, by decide⟩
  unfold readM
  have k1 : rowM .nil "# q" = .skip := row_skip (p := tl "# q") (.inr ⟨0, tl " q", rfl⟩) _
  have k3 : rowM .nil "   " = .skip := row_skip (p := tl "   ") (.inl ⟨3, rfl⟩) _
  rw [e, go_skip k1, go_skip (sk_nil _), go_skip k3]
  rfl
theorem top_2 : readM "" = .top ∧ (∀ r ∈ rowsM "", r.length ≤ 640) ∧ ("" : Str).length ≤ 100000 := by
  have e : rowsM "" = ([""] : List Str) := by rw [rows_is]; rfl
  refine ⟨?_, by rw [e]; decide, by decide⟩
  unfold readM
  rw [e, go_skip (sk_nil _)]
  rfl
/-! nine minders above one another -/
def zs (n : Nat) : Str := Txt.mul "z" n
theorem tl_zs (n : Nat) : tl (zs n) = List.replicate n 122 := by
  unfold zs
  rw [show ("z" : Str) = ⟨#[122]⟩ from rfl, tl_mul1]
def mz (k : Nat) : Shp := ⟨3, zs (k + 3), "always", 1, 1, 0⟩
theorem fit_zs {n : Nat} (h1 : 1 ≤ n) (h2 : n ≤ 12) : fitL (tl (zs n)) = true := by
  rw [tl_zs]
  unfold fitL
  rw [List.length_replicate, decide_eq_true h1, decide_eq_true h2, List.all_replicate]
  rw [show alnum 122 = true by decide]
  simp
theorem okS_mz {k : Nat} (h : k ≤ 9) : OkS (mz k) := okS_mk (by decide) (by decide) (fit_zs (by omega) (by omega)) (by decide) (by decide) (by decide) (fun _ _ => rfl) (fun _ => by decide)
def steepS (k : Nat) : Str := (Txt.mul "  " k ++ ("minder always one 1 1 " : Str)) ++ Txt.mul "z" (k + 3)
structure Stp (D : TreeD) (n : Nat) : Prop where
  g : Good D
  n_ : D.n = n
  sh : ∀ i, i < n → D.sh i = mz i ∧ D.dp i = i
theorem zs_inj {a b : Nat} (h : zs a = zs b) : a = b := by
  have := congrArg (fun x : Str => (tl x).length) h
  have this : (tl (zs a)).length = (tl (zs b)).length := this
  rw [tl_zs, tl_zs, List.length_replicate, List.length_replicate] at this
  exact this
theorem Stp.new {D : TreeD} {n : Nat} (S : Stp D n) : (mz n).name ∉ D.shs.map Shp.name := fun z => by
  obtain ⟨s, hs, e⟩ := List.mem_map.mp z
  obtain ⟨i, hi, rfl⟩ := List.getElem_of_mem hs
  have hi2 : i < D.n := hi
  have es : D.shs[i]'hi = D.sh i := by
    unfold TreeD.sh
    rw [List.getD_eq_getElem?_getD, List.getElem?_eq_getElem hi]
    rfl
  rw [S.n_] at hi2
  rw [es, (S.sh i hi2).1] at e
  have := zs_inj (a := i + 3) (b := n + 3) e
  omega
theorem Stp.add {D : TreeD} {n b : Nat} (S : Stp D n) (hn : 1 ≤ n) (g : Good (D.add (mz n) (b : Int))) (hb : D.dp b + 1 = n) : Stp (D.add (mz n) (b : Int)) (n + 1) := by
  have W := S.g.wf
  refine ⟨g, by rw [add_n, S.n_], fun i hi => ?_⟩
  by_cases c : i < n
  · rw [add_sh_lt (by rw [S.n_]; exact c), add_dp_lt W (by rw [S.n_]; exact c)]
    exact S.sh i c
  · have : i = n := by omega
    subst this
    have h1 := add_sh_eq (D := D) (s := mz i) (e := (b : Int))
    have h2 := add_dp_eq W (s := mz i) (e := (b : Int))
    rw [S.n_] at h1 h2
    rw [h1, h2, if_neg (by omega), Int.toNat_natCast, hb]
    exact ⟨rfl, rfl⟩
theorem steep_pre : ∀ k, k < 8 → ∃ D p, Stp D (k + 1) ∧ PathOK D p ∧ p.length = k + 1
  | 0, _ => by
    obtain ⟨g, P⟩ := good_top (okS_mz (k := 0) (by decide)) (by decide)
    refine ⟨_, _, ⟨g, rfl, fun i hi => ?_⟩, P, rfl⟩
    have : i = 0 := by omega
    subst this
    exact ⟨rfl, rfl⟩
  | k + 1, h => by
    obtain ⟨D, p, S, P, lp⟩ := steep_pre k (by omega)
    have hb : p[k + 1 - 1]? = some p[k + 1 - 1] := List.getElem?_eq_getElem (by omega)
    obtain ⟨g, P2, _⟩ := good_row S.g P (j := k + 1) (by omega) (by omega) hb (okS_mz (k := k + 1) (by omega)) S.new (by rw [S.n_]; omega)
    refine ⟨_, _, S.add (by omega) g (by have := (P.at_ _ _ hb).2.1; omega), P2 (by omega) (Nat.le_refl 3), ?_⟩
    rw [List.length_append, List.length_take, lp, Nat.min_self]
    rfl
theorem steep_D : ∃ D, Stp D 9 := by
  obtain ⟨D, p, S, P, lp⟩ := steep_pre 7 (by decide)
  have hb : p[8 - 1]? = some p[8 - 1] := List.getElem?_eq_getElem (by omega)
  obtain ⟨g, _, _⟩ := good_row S.g P (j := 8) (by omega) (by omega) hb (okS_mz (k := 8) (by omega)) S.new (by rw [S.n_]; omega)
  exact ⟨_, S.add (by omega) g (by have := (P.at_ _ _ hb).2.1; omega)⟩
theorem Stp.row {D : TreeD} {n i : Nat} (S : Stp D n) (h : i < n) : rowS D i = steepS i := by
  have e : tl (rowS D i) = tl (steepS i) := by
    unfold rowS
    rw [tl_mkS]
    unfold rowTextL
    obtain ⟨e1, e2⟩ := S.sh i h
    rw [e1, e2]
    unfold steepS
    rw [tl_cat, tl_cat, show ("  " : Str) = ⟨#[32, 32]⟩ from rfl, tl_mul2]
    show List.replicate (2 * i) 32 ++ (tl "minder" ++ ([32] ++ (tl "always" ++ ([32] ++ (tl "one" ++ ([32] ++ (tl (Str.ofString (toString (1 : Int))) ++ ([32] ++ (tl (Str.ofString (toString (1 : Int))) ++ ([32] ++ tl (zs (i + 3)))))))))))) = _
    rw [List.append_assoc]
    rfl
  rw [← mkS_tl (rowS D i), e, mkS_tl]
theorem Stp.rows {D : TreeD} {n : Nat} (S : Stp D n) : rowsS D = (List.range n).map steepS := by
  rw [rowsS, S.n_]
  exact List.map_congr_left fun i hi => S.row (List.mem_range.mp hi)
theorem read_all {D : TreeD} (g : Good D) : Lns (rowsS D) ∧ readM (ln (rowsS D)) = .ok D := by
  have := read_mid g (Nat.zero_le _) false
  simp only [List.take_zero, List.drop_zero, List.nil_append] at this
  exact this
/-- what is read behind the whole tree -/
theorem read_more {D : TreeD} (g : Good D) {r : Str} {rs : List Str} (h : ∀ w ∈ r :: rs, 10 ∉ tl w ∧ w.length ≤ 640) (l : rs.length ≤ 4) : Lns (rowsS D ++ r :: rs) ∧ readM (ln (rowsS D ++ r :: rs)) = readGo (r :: rs) D D.n := by
  have W := g.wf
  have sz := W.sz
  have le : (rowsS D).length = D.n := by rw [List.length_map, List.length_range]
  have L : Lns (rowsS D ++ r :: rs) := lns_app (rowS_ok g) h (by simp) (by rw [le, List.length_cons]; omega)
  refine ⟨L, ?_⟩
  have h1 := go_pre g (r :: rs) D.n 0 0 (by omega)
  rw [show D.takeN 0 = .nil from rfl, Nat.zero_add, takeN_all W] at h1
  rw [readM_ln L, rowsS, List.range_eq_range', h1]
theorem steep_bad {D : TreeD} (S : Stp D 9) : rowM D (Txt.mul "  " 9 ++ ("leaf always 0 0 idle zz" : Str)) = .bad := by
  have e : tl (Txt.mul "  " 9 ++ ("leaf always 0 0 idle zz" : Str)) = List.replicate 18 32 ++ (tl "leaf always 0 0 idle " ++ tl "zz") := by
    rw [tl_cat, show ("  " : Str) = ⟨#[32, 32]⟩ from rfl, show tl (Txt.mul ⟨#[32, 32]⟩ 9) = _ from tl_mul2 32 9]
    rfl
  have fit : fitL (tl "zz") = true := by decide
  obtain ⟨e1, e2, e3⟩ := lf_row fit 18 e
  rw [row_un e3, e1, lf_shape fit, e2]
  exact if_pos (.inr (.inl (by decide)))
/-! a row ahead of all; one more than sixty-four -/
theorem first_bad {way : Nat} (h : way < 15) : rowM .nil (oddS way "zzz" 1) = .bad := by
  have fit : fitL (tl "zzz") = true := by decide
  by_cases c12 : way = 12
  · subst c12
    obtain ⟨e1, e2, e3⟩ := lf_row fit 2 (odd_12 "zzz" 1)
    refine bad_blk e3 (.inr ?_)
    rw [e2]
    rfl
  rw [odd_const c12 (by omega)]
  by_cases c14 : way = 14
  · subst c14
    obtain ⟨e1, e2, e3⟩ := lf_row (row := oddK.getD 14 "") fit 0 rfl
    rw [row_un e3, e1, lf_shape fit, e2]
    have el : elderM .nil ((0 / 2 : Nat) : Int) = -1 := rfl
    dsimp only
    rw [el, if_neg, if_pos ⟨rfl, show 0 < 3 by decide⟩]
    rintro (z | z | z | z)
    · exact absurd z (by decide)
    · exact absurd z (by decide)
    · exact absurd z (by decide)
    · exact absurd z List.not_mem_nil
  · exact bad_none (odd_shape (by omega) c12 c14 (by omega) (by omega) (by omega)) _
theorem first_ok {way : Nat} (h : way < 15) : 10 ∉ tl (oddS way "zzz" 1) ∧ (oddS way "zzz" 1).length ≤ 640 := by
  by_cases c12 : way = 12
  · subst c12
    decide +kernel
  · rw [odd_const c12 (by omega)]
    obtain ⟨p1, p2⟩ := odd_plain (way := way) (by omega)
    exact ⟨p1, by rw [len_tl]; omega⟩
theorem read_first {D : TreeD} (g : Good D) {way : Nat} (h : way < 15) : Lns ("#" :: oddS way "zzz" 1 :: rowsS D) ∧ readM (ln ("#" :: oddS way "zzz" 1 :: rowsS D)) = .bad 2 := by
  have sz := g.wf.sz
  have le : (rowsS D).length = D.n := by rw [List.length_map, List.length_range]
  have L : Lns ((["#", oddS way "zzz" 1] : List Str) ++ rowsS D) := lns_app (fun w hw => by
    rcases List.mem_cons.mp hw with rfl | hw
    · decide
    · rw [List.mem_singleton.mp hw]
      exact first_ok h) (rowS_ok g) (by simp) (by rw [le]; show 2 + _ ≤ _; omega)
  refine ⟨L, ?_⟩
  have e := readM_ln L
  rw [List.cons_append, List.cons_append, List.nil_append] at e
  have k1 : rowM .nil "#" = .skip := row_skip (p := tl "#") (.inr ⟨0, [], rfl⟩) _
  rw [e, go_skip k1, go_bad (first_bad h)]
theorem nameL_zzz (k : Nat) (mark : Int) : nameL k mark ≠ tl "zzz" := fun e => by
  have e : nameL k mark = [122, 122, 122] := e
  unfold nameL at e
  split at e
  · have l := congrArg List.length e
    simp at l
  · have l := congrArg List.length e
    rw [List.length_append, List.length_append, List.length_replicate, List.length_replicate] at l
    have l : (mark % 7).toNat + (2 + (mark / 7 % 5).toNat) = 3 := l
    have : 113 ∈ ([122, 122, 122] : List Nat) := by
      rw [← e]
      by_cases z : (mark % 7).toNat = 0
      · have : (mark / 7 % 5).toNat = 1 := by omega
        rw [this, z]
        simp
      · have : (mark % 7).toNat = 1 := by omega
        rw [this]
        simp
    revert this
    decide
theorem many_row {D : TreeD} (g : Good D) {p : List Nat} (P : PathOK D p) {mark : Int} (nm : named mark D) (hn : D.n = 64) : rowM D "  leaf always 0 0 idle zzz" = .many := by
  have W := g.wf
  have fit : fitL (tl "zzz") = true := by decide
  obtain ⟨e1, e2, e3⟩ := lf_row (row := "  leaf always 0 0 idle zzz") fit 2 rfl
  have pne := P.ne
  have hb : p[1 - 1]? = some (p[0]'pne) := List.getElem?_eq_getElem pne
  have el := elder_path W P (j := 1) (by decide) P.ne hb
  rw [row_un e3, e1, lf_shape fit, e2]
  have el : elderM D ((2 / 2 : Nat) : Int) = ((p[0]'pne : Nat) : Int) := el
  dsimp only
  rw [el, if_neg, if_neg, if_pos hn]
  · rintro ⟨z, _⟩
    omega
  · rintro (z | z | z | z)
    · exact absurd z (by decide)
    · exact absurd z (by decide)
    · omega
    · obtain ⟨s, hs, e⟩ := List.mem_map.mp z
      obtain ⟨i, hi, rfl⟩ := List.getElem_of_mem hs
      have es : D.shs[i]'hi = D.sh i := by
        unfold TreeD.sh
        rw [List.getD_eq_getElem?_getD, List.getElem?_eq_getElem hi]
        rfl
      rw [es, nm i hi] at e
      have := congrArg tl e
      rw [tl_mkS] at this
      exact nameL_zzz _ _ this
theorem z_row (D : TreeD) : rowM D "  leaf always 0 0 idle z_" = .bad := by
  have := bad_none (odd_shape (way := 10) (by decide) (by decide) (by decide) (by decide) (by decide) (by decide)) D
  exact this
end Mn

namespace Mn
open PySem PySem.Spec PyProof.Rows L2 TL
/-! ### law k06's own functions -/
/-- what isinstance says of an error of class c -/
structure Sev (K : PySem.W.Frag) (mg : Str → Option Value) (c : Addr) (b1 b2 b3 b4 b5 b6 b7 : Bool) : Prop where
  xc : ExcC K c
  k1 : ∃ C, mg "BadRow" = some (.ref C) ∧ PySem.W.kitOne K (.ref c) (.ref C) = some b1
  k2 : ∃ C, mg "TooMany" = some (.ref C) ∧ PySem.W.kitOne K (.ref c) (.ref C) = some b2
  k3 : ∃ C, mg "NoTop" = some (.ref C) ∧ PySem.W.kitOne K (.ref c) (.ref C) = some b3
  k4 : ∃ C, mg "NoLeaf" = some (.ref C) ∧ PySem.W.kitOne K (.ref c) (.ref C) = some b4
  k5 : ∃ C, mg "NoName" = some (.ref C) ∧ PySem.W.kitOne K (.ref c) (.ref C) = some b5
  k6 : ∃ C, mg "NoNumber" = some (.ref C) ∧ PySem.W.kitOne K (.ref c) (.ref C) = some b6
  k7 : ∃ C, mg "NotOn" = some (.ref C) ∧ PySem.W.kitOne K (.ref c) (.ref C) = some b7
section
variable {P : Program} {w : World} {K : PySem.W.Frag} {mg : Str → Option Value} {base : Heap} {cB cM cN : Addr}
def kindsW (b1 b2 b3 : Bool) : List Str := (if b1 then ([("row" : Str)] : List Str) else []) ++ ((if b2 then ([("many" : Str)] : List Str) else []) ++ (if b3 then ([("top" : Str)] : List Str) else []))
def spKinds (mg : Str → Option Value) (K : PySem.W.Frag) : Addr → Value → Option Addr → Sp := fun a c d vs H Q _ => ∃ (C : Addr) (b1 b2 b3 : Bool), vs = [.ref a] ∧ c = .ref C ∧ Sev K mg C b1 b2 b3 false false false false ∧ (d = none ∨ ∃ dd fs, d = some dd ∧ H dd = some (.xd fs)) ∧ ∀ r H', Same H H' → H r = none → H' r = some (.lst ((kindsW b1 b2 b3).map V.str)) → Q (.ref r) H'
theorem ok_kinds {f : Addr} {fd : FuncData} (F : Fun K "_law_kinds" "_law_kinds" s_law_kinds f fd) (T : Bt mg) : FnE P w K mg base 1 f fd ["_law_error"] (spKinds mg K) := by
  refine fnE_of F sc_law_kinds (fun a c d vs H Q E h => ?_) (fun cdv A outer s H vs Q E q c d hot hz hr h => ?_)
  · obtain ⟨_, _, _, _, rfl, _⟩ := h
    rfl
  obtain ⟨C, b1, b2, b3, rfl, rfl, S, hd, h⟩ := h
  have zl := PySem.sizeLine_eq
  have hzc := hz.zc
  have hvf := hot_fields hot
  obtain ⟨C1, m1, k1⟩ := S.k1
  obtain ⟨C2, m2, k2⟩ := S.k2
  obtain ⟨C3, m3, k3⟩ := S.k3
  obtain ⟨C4, m4, k4⟩ := S.k4
  obtain ⟨C5, m5, k5⟩ := S.k5
  obtain ⟨C6, m6, k6⟩ := S.k6
  obtain ⟨C7, m7, k7⟩ := S.k7
  have hd' : ∀ H', Same H H' → d = none ∨ ∃ dd fs, d = some dd ∧ H' dd = some (.xd fs) := fun H' s => hd.imp id fun ⟨dd, fs, e, h⟩ => ⟨dd, fs, e, s _ _ h⟩
  refine ⟨_, (pss_cons (ps_set (i := 1) sc_law_kinds.nd rfl (Or.inl rfl) (pe_lst pa_nil))
    (C8.pss_cut (ps_if (pt_val (pe_callB (kIsQ (K := K) (q := q) rfl List.mem_cons_self hz hvf) (by rfl) T.isinstance (by decide +kernel) (pa_cons (pv 0) (pa_cons (pe_gv (mg := mg) rfl rfl) pa_nil)))) (pss_one (ps_expr (kBm (K := K) rfl PySem.F.plainAttrs_list PySem.F.slot_list_append PySem.F.type_list_append mt_append (pv 1) (pa_cons pe_str pa_nil)))) pss_nil)
    (C8.pss_cut (ps_if (pt_val (pe_callB (kIsQ (K := K) (q := q) rfl List.mem_cons_self hz hvf) (by rfl) T.isinstance (by decide +kernel) (pa_cons (pv 0) (pa_cons (pe_gv (mg := mg) rfl rfl) pa_nil)))) (pss_one (ps_expr (kBm (K := K) rfl PySem.F.plainAttrs_list PySem.F.slot_list_append PySem.F.type_list_append mt_append (pv 1) (pa_cons pe_str pa_nil)))) pss_nil)
    (C8.pss_cut (ps_if (pt_val (pe_callB (kIsQ (K := K) (q := q) rfl List.mem_cons_self hz hvf) (by rfl) T.isinstance (by decide +kernel) (pa_cons (pv 0) (pa_cons (pe_gv (mg := mg) rfl rfl) pa_nil)))) (pss_one (ps_expr (kBm (K := K) rfl PySem.F.plainAttrs_list PySem.F.slot_list_append PySem.F.type_list_append mt_append (pv 1) (pa_cons pe_str pa_nil)))) pss_nil)
    (C8.pss_cut (ps_if (PW.pt (pw_or (pt_val (pe_callB (kIsQ (K := K) (q := q) rfl List.mem_cons_self hz hvf) (by rfl) T.isinstance (by decide +kernel) (pa_cons (pv 0) (pa_cons (pe_gv (mg := mg) rfl rfl) pa_nil)))) (pw_or (pt_val (pe_callB (kIsQ (K := K) (q := q) rfl List.mem_cons_self hz hvf) (by rfl) T.isinstance (by decide +kernel) (pa_cons (pv 0) (pa_cons (pe_gv (mg := mg) rfl rfl) pa_nil)))) (pw_or1 (pt_val (pe_callB (kIsQ (K := K) (q := q) rfl List.mem_cons_self hz hvf) (by rfl) T.isinstance (by decide +kernel) (pa_cons (pv 0) (pa_cons (pe_gv (mg := mg) rfl rfl) pa_nil)))))))) (pss_one (ps_expr (kBm (K := K) rfl PySem.F.plainAttrs_list PySem.F.slot_list_append PySem.F.type_list_append mt_append (pv 1) (pa_cons pe_str pa_nil)))) pss_nil)
    (C8.pss_cut (ps_if (pt_val (pe_callB (kIsQ (K := K) (q := q) rfl List.mem_cons_self hz hvf) (by rfl) T.isinstance (by decide +kernel) (pa_cons (pv 0) (pa_cons (pe_gv (mg := mg) rfl rfl) pa_nil)))) (pss_one (ps_expr (kBm (K := K) rfl PySem.F.plainAttrs_list PySem.F.slot_list_append PySem.F.type_list_append mt_append (pv 1) (pa_cons pe_str pa_nil)))) pss_nil)
    (pss_one (ps_ret (pv 1))))))))), ?_⟩
  walk_at "rd"
  refine ⟨Nat.zero_le _, fun r nr => ?_⟩
  have s1 := same_new nr (.lst [])
  have e1 : upd H r (.lst []) r = some (.lst []) := upd_same
  generalize upd H r (.lst []) = H1 at s1 e1 ⊢
  walk_at "rd"
  refine w_cut (fun σ H' => Same H H' ∧ H' r = some (.lst ((kindsW b1 false false).map V.str)) ∧ σ = [some (.ref q.1), some (.ref r)]) ?_ (fun σ H' hm => ?_)
  · walk_at "rd"
    refine w_gv (v := .ref C1) m1 rfl ?_
    walk_at "rd"
    refine w_isQ S.xc (hd' _ s1) (fun u h => h) k1 ?_
    walk_at "rd"
    cases b1 with
    | false =>
      walk_at "rd"
      exact ⟨s1, e1, rfl⟩
    | true =>
      walk_at "rd"
      exact ⟨same_mut s1 nr, upd_same.trans rfl, rfl⟩
  obtain ⟨s2, e2, rfl⟩ := hm
  refine w_cut (fun σ H' => Same H H' ∧ H' r = some (.lst ((kindsW b1 b2 false).map V.str)) ∧ σ = [some (.ref q.1), some (.ref r)]) ?_ (fun σ H' hm => ?_)
  · walk_at "rd"
    refine w_gv (v := .ref C2) m2 rfl ?_
    walk_at "rd"
    refine w_isQ S.xc (hd' _ s2) (fun u h => h) k2 ?_
    walk_at "rd"
    cases b2 with
    | false =>
      walk_at "rd"
      exact ⟨s2, e2, rfl⟩
    | true =>
      have l : (kindsW b1 false false).length ≤ 1 := by cases b1 <;> decide
      walk_at "rd"
      refine ⟨same_mut s2 nr, upd_same.trans ?_, rfl⟩
      cases b1 <;> rfl
  obtain ⟨s3, e3, rfl⟩ := hm
  refine w_cut (fun σ H' => Same H H' ∧ H' r = some (.lst ((kindsW b1 b2 b3).map V.str)) ∧ σ = [some (.ref q.1), some (.ref r)]) ?_ (fun σ H' hm => ?_)
  · walk_at "rd"
    refine w_gv (v := .ref C3) m3 rfl ?_
    walk_at "rd"
    refine w_isQ S.xc (hd' _ s3) (fun u h => h) k3 ?_
    walk_at "rd"
    cases b3 with
    | false =>
      walk_at "rd"
      exact ⟨s3, e3, rfl⟩
    | true =>
      have l : (kindsW b1 b2 false).length ≤ 2 := by cases b1 <;> cases b2 <;> decide
      walk_at "rd"
      refine ⟨same_mut s3 nr, upd_same.trans ?_, rfl⟩
      cases b1 <;> cases b2 <;> rfl
  obtain ⟨s4, e4, rfl⟩ := hm
  refine w_cut (fun σ H' => Same H H' ∧ H' r = some (.lst ((kindsW b1 b2 b3).map V.str)) ∧ σ = [some (.ref q.1), some (.ref r)]) ?_ (fun σ H' hm => ?_)
  · walk_at "rd"
    refine w_gv (v := .ref C4) m4 rfl ?_
    walk_at "rd"
    refine w_isQ S.xc (hd' _ s4) (fun u h => h) k4 ?_
    walk_at "rd"
    refine w_gv (v := .ref C5) m5 rfl ?_
    walk_at "rd"
    refine w_isQ S.xc (hd' _ s4) (fun u h => h) k5 ?_
    walk_at "rd"
    refine w_gv (v := .ref C6) m6 rfl ?_
    walk_at "rd"
    refine w_isQ S.xc (hd' _ s4) (fun u h => h) k6 ?_
    walk_at "rd"
    exact ⟨s4, e4, rfl⟩
  obtain ⟨s5, e5, rfl⟩ := hm
  refine w_cut (fun σ H' => Same H H' ∧ H' r = some (.lst ((kindsW b1 b2 b3).map V.str)) ∧ σ = [some (.ref q.1), some (.ref r)]) ?_ (fun σ H' hm => ?_)
  · walk_at "rd"
    refine w_gv (v := .ref C7) m7 rfl ?_
    walk_at "rd"
    refine w_isQ S.xc (hd' _ s5) (fun u h => h) k7 ?_
    walk_at "rd"
    exact ⟨s5, e5, rfl⟩
  obtain ⟨s6, e6, rfl⟩ := hm
  walk_at "rd"
  exact h r _ s6 nr e6
/-! what a reading says -/
def resR : RR → List Str × Int
  | .ok _ => ([], 0)
  | .bad k => (["row"], (k : Int))
  | .many => (["many"], 0)
  | .top => (["top"], 0)
structure Ers (K : PySem.W.Frag) (mg : Str → Option Value) (cB cM cN CE : Addr) : Prop where
  sB : Sev K mg cB true false false false false false false
  sM : Sev K mg cM false true false false false false false
  sN : Sev K mg cN false false true false false false false
  bb : PySem.W.exmOne K (.ref cB) (.ref cB) = some true
  mb : PySem.W.exmOne K (.ref cM) (.ref cB) = some false
  nb : PySem.W.exmOne K (.ref cN) (.ref cB) = some false
  mm : PySem.W.exmOne K (.ref cM) (.ref CE) = some true
  nm : PySem.W.exmOne K (.ref cN) (.ref CE) = some true
def spRefused : Sp := fun vs H Q _ => ∃ x : Str, vs = [.str x] ∧ x.length ≤ 100000 ∧ (∀ r ∈ rowsM x, r.length ≤ 640) ∧ ∀ r p H', Same H H' → H' r = some (.lst ((resR (readM x)).1.map V.str)) → H' p = some (.tup [.ref r, .int (resR (readM x)).2]) → Q (.ref p) H'
theorem ok_refused {CE f CT : Addr} {cls : Nat → Addr} {fd : FuncData} (F : Fun K "_law_refused" "_law_refused" s_law_refused f fd) (T : Bt mg) (e_BadRow : NamK K mg "BadRow" cB) (e_MinderError : NamK K mg "MinderError" CE) (xf_row : XfC K cB ∧ PySem.W.findIn K (.ref cB) "row" = some none) (ER : Ers K mg cB cM cN CE)
    (CR : Cal P w K mg base (CXN P w) "read" 7 ["text"] [] (spRead CT cls cB cM cN)) (CK : CalE P w K mg base "_law_kinds" 1 ["_law_error"] (spKinds mg K)) : FnOk P w K mg base CX0 8 f fd ["_law_text"] spRefused := by
  refine F.ok sc_law_refused (fun vs H Q E h => ?_) (fun cdv A0 outer s0 H vs Q E hr h => ?_)
  · obtain ⟨x, rfl, _⟩ := h
    rfl
  obtain ⟨x, rfl, lx, lr, q⟩ := h
  have zl := PySem.sizeLine_eq
  refine ⟨_, (pss_cons (L2N.ps_try_manyA (i := 1) (Wout := fun _ _ _ _ => False) rfl rfl sc_law_refused.nd rfl rfl takesN0 (fun W pn xe tk _ => by exact (pss_one (ps_expr (pe_cae (P := P) (w := w) (K := K) (mg := mg) (base := base) ⟨rfl, rfl, rfl, rfl, rfl⟩ hr rfl tk (pa_cons (pv 0) pa_nil))))) (L2N.HdsA.cons ⟨rfl, by decide, Or.inl e_BadRow.g⟩ (fun a oe cls d pn hz hv => by exact (pss_one (ps_ret (pe_tup (pa_cons (pe_cas (P := P) (w := w) (K := K) (mg := mg) (base := base) ⟨rfl, rfl, rfl, rfl, rfl⟩ (roomH_mark hr) hz (hot_mark hz hv) List.mem_cons_self rfl (pa_cons (pv 1) pa_nil)) (pa_cons (kXf (K := K) rfl xf_row.1 xf_row.2 hz.zc hv (pv 1)) pa_nil)))))) (L2N.HdsA.cons ⟨rfl, by decide, Or.inl e_MinderError.g⟩ (fun a oe cls d pn hz hv => by exact (pss_one (ps_ret (pe_tup (pa_cons (pe_cas (P := P) (w := w) (K := K) (mg := mg) (base := base) ⟨rfl, rfl, rfl, rfl, rfl⟩ (roomH_mark hr) hz (hot_mark hz hv) List.mem_cons_self rfl (pa_cons (pv 1) pa_nil)) (pa_cons pe_int pa_nil)))))) L2N.HdsA.nil)))
    (pss_one (ps_ret (pe_tup (pa_cons (pe_lst pa_nil) (pa_cons pe_int pa_nil)))))), ?_⟩
  walk_at "rd"
  refine w_cae CR (by decide) ?_
  walk_at "rd"
  refine ⟨x, rfl, lx, lr, fun Df e A H1 s1 R W n0 fr => ?_, fun k e dd H1 s1 hx hn => ?_, fun e H1 s1 => ?_, fun e H1 s1 => ?_⟩
  · rw [e] at q
    walk_at "rd"
    refine ⟨Nat.zero_le _, fun r nr => ?_⟩
    have s2 := same_upd (o := .lst []) s1 nr
    have e2 : upd H1 r (.lst []) r = some (.lst []) := upd_same
    generalize upd H1 r (.lst []) = H2 at s2 e2 ⊢
    walk_at "rd"
    refine ⟨by show 2 ≤ _; omega, fun p np => ?_⟩
    walk_at "rd"
    exact q r p _ (same_upd s2 np) ((upd_ne (neN np e2)).trans e2) upd_same
  · rw [e] at q
    refine ⟨true, ER.bb, fun _ a ha => ?_, fun z => by cases z⟩
    walk_at "rd"
    refine w_cah CK (by decide) ?_
    walk_at "rd"
    refine ⟨cB, _, _, _, rfl, rfl, ER.sB, .inr ⟨dd, _, rfl, hx⟩, fun r H2 s2 nr er => ?_⟩
    walk_at "rd"
    refine ⟨_, rfl, rfl, rfl, dd, _, .int (k : Int), rfl, s2 _ _ hx, rfl, ?_⟩
    walk_at "rd"
    refine ⟨by show 2 ≤ _; omega, fun p np => ?_⟩
    walk_at "rd"
    exact q r p _ (same_upd (s1.trans s2) np) ((upd_ne (neN np er)).trans er) upd_same
  · rw [e] at q
    refine ⟨false, ER.mb, (fun z => by cases z), fun _ => ⟨true, ER.mm, fun _ a ha => ?_, fun z => by cases z⟩⟩
    walk_at "rd"
    refine w_cah CK (by decide) ?_
    walk_at "rd"
    refine ⟨cM, _, _, _, rfl, rfl, ER.sM, .inl rfl, fun r H2 s2 nr er => ?_⟩
    walk_at "rd"
    refine ⟨by show 2 ≤ _; omega, fun p np => ?_⟩
    walk_at "rd"
    exact q r p _ (same_upd (s1.trans s2) np) ((upd_ne (neN np er)).trans er) upd_same
  · rw [e] at q
    refine ⟨false, ER.nb, (fun z => by cases z), fun _ => ⟨true, ER.nm, fun _ a ha => ?_, fun z => by cases z⟩⟩
    walk_at "rd"
    refine w_cah CK (by decide) ?_
    walk_at "rd"
    refine ⟨cN, _, _, _, rfl, rfl, ER.sN, .inl rfl, fun r H2 s2 nr er => ?_⟩
    walk_at "rd"
    refine ⟨by show 2 ≤ _; omega, fun p np => ?_⟩
    walk_at "rd"
    exact q r p _ (same_upd (s1.trans s2) np) ((upd_ne (neN np er)).trans er) upd_same
def spSteep : Sp := fun vs H Q _ => vs = [] ∧ ∀ H', Same H H' → Q (.str (ln ((List.range 9).map steepS))) H'
theorem ok_steep {f : Addr} {fd : FuncData} (F : Fun K "_law_steep" "_law_steep" s_law_steep f fd) (T : Bt mg) : FnOk P w K mg base CX0 1 f fd [] spSteep := by
  refine F.ok sc_law_steep (fun vs H Q E h => ?_) (fun cdv A0 outer s0 H vs Q E hr h => ?_)
  · obtain ⟨rfl, _⟩ := h
    rfl
  obtain ⟨rfl, q⟩ := h
  have zl := PySem.sizeLine_eq
  refine ⟨_, (pss_cons (ps_setLc (i := 0) (own := [("_law_k", 1)]) (g := gName 1) (by rfl) sc_law_steep.nd rfl rfl (sw_true rfl rfl rfl (by decide +kernel)) (pi_range1 rfl T.range (pa_cons pe_int pa_nil)) (blkOk_by (own := [("_law_k", 1)]) (N := ["_law_rows", "_law_k"]) (sc := defScope s_law_steep) (by decide +kernel)) (fun _ _ _ _ _ => pg_name (i := 1) sc_law_steep.nd rfl (Or.inl rfl)) (fun _ _ _ _ _ => pts_nil) (fun _ _ _ _ _ => by exact (pe_op op_addS (pe_op op_addS (pe_op op_mul_str pe_str (pv 1)) pe_str) (pe_op op_mul_str pe_str (pe_op op_add (pv 1) pe_int)))))
    (pss_one (ps_ret (pe_join pe_str (pv 0))))), ?_⟩
  walk_at "rd"
  refine w_lcR (fun C i H' => Same H H' ∧ H' C = some (.lst ((List.range i).map fun k => V.str (steepS k)))) (by omega) (by omega) (fun C hC => ⟨same_new hC _, upd_same⟩) (fun C i H' hC hi hm => ?_) (fun o H6 no hm => ?_)
  · obtain ⟨s6, e6⟩ := hm
    have hi : i < 9 := hi
    rw [Int.zero_add]
    have l1 : (Txt.mul "  " ((i : Nat) : Int)).length = 2 * i := by rw [len_tl, show ("  " : Str) = ⟨#[32, 32]⟩ from rfl, tl_mul2, List.length_replicate]
    have l2 : (Txt.mul "z" ((i + 3 : Nat) : Int)).length = i + 3 := by rw [len_tl, show ("z" : Str) = ⟨#[122]⟩ from rfl, tl_mul1, List.length_replicate]
    have l3 : (Txt.mul "  " ((i : Nat) : Int) ++ ("minder always one 1 1 " : Str)).length = 2 * i + 22 := by rw [len_cat, l1]; rfl
    walk_at "rd"
    refine w_mulS (by decide) (by omega) ?_
    walk_at "rd"
    refine w_addS (by rw [l1]; show 2 * i + 22 ≤ _; omega) ?_
    walk_at "rd"
    have e3 : (i : Int) + 3 = ((i + 3 : Nat) : Int) := by omega
    rw [e3]
    refine w_mulS (by decide) (by omega) ?_
    have hz : (Txt.mul "  " ((i : Nat) : Int) ++ ("minder always one 1 1 " : Str)).length + (Txt.mul "z" ((i + 3 : Nat) : Int)).length ≤ sizeLine := by
      rw [l3, l2]
      omega
    walk_at "rd"
    refine ⟨_, e6, by rw [List.length_map, List.length_range]; omega, same_mut s6 hC, ?_⟩
    rw [upd_same, List.range_succ, List.map_append]
    rfl
  obtain ⟨s6, e6⟩ := hm
  walk_at "rd"
  refine ⟨"\n", o, (List.range 9).map steepS, rfl, rfl, .inl (SqL.of (e6.trans (by rw [List.map_map]; rfl))), ?_, q _ s6⟩
  decide +kernel
end
end Mn

namespace Mn
open PySem PySem.Spec PyProof.Rows L2 TL
theorem oddA_at {way : Nat} {nm : Str} (h : way < 14) : ((oddA nm).map V.str)[way]? = some (.str ((oddA nm).getD way "")) := by
  have l : (oddA nm).length = 14 := rfl
  rw [List.getElem?_map, List.getD_eq_getElem?_getD, List.getElem?_eq_getElem (by omega)]
  rfl
theorem oddB_at {way : Nat} (h : way < 11) : (oddB.map V.str)[way]? = some (.str (oddB.getD way "")) := by
  have l : oddB.length = 11 := rfl
  rw [List.getElem?_map, List.getD_eq_getElem?_getD, List.getElem?_eq_getElem (by omega)]
  rfl
theorem oddA_len {way : Nat} {nm : Str} (hn : nm.length ≤ 12) : ((oddA nm).getD way "").length ≤ 60 := by
  by_cases h : way < 14
  · by_cases c : way = 12
    · subst c
      show (("leaf always 0 0 idle " : Str) ++ nm).length ≤ 60
      rw [len_cat]
      show 21 + nm.length ≤ 60
      omega
    · have k : ((List.range 14).all fun way => way == 12 || decide (((oddA "").getD way "").length ≤ 60)) = true := by decide +kernel
      have := List.all_eq_true.mp k way (List.mem_range.mpr h)
      rw [Bool.or_eq_true, beq_iff_eq, decide_eq_true_eq] at this
      have e : (oddA nm).getD way "" = (oddA "").getD way "" := by
        have : way = 0 ∨ way = 1 ∨ way = 2 ∨ way = 3 ∨ way = 4 ∨ way = 5 ∨ way = 6 ∨ way = 7 ∨ way = 8 ∨ way = 9 ∨ way = 10 ∨ way = 11 ∨ way = 13 := by omega
        rcases this with rfl | rfl | rfl | rfl | rfl | rfl | rfl | rfl | rfl | rfl | rfl | rfl | rfl <;> rfl
      rw [e]
      exact this.elim (fun z => absurd z c) id
  · have : (oddA nm).getD way "" = "" := by rw [List.getD_eq_getElem?_getD, List.getElem?_eq_none (by show 14 ≤ way; omega)]; rfl
    rw [this]
    decide
theorem oddB_len {way : Nat} : (oddB.getD way "").length ≤ 60 := by
  by_cases h : way < 11
  · have k : ((List.range 11).all fun way => decide ((oddB.getD way "").length ≤ 60)) = true := by decide +kernel
    exact of_decide_eq_true (List.all_eq_true.mp k way (List.mem_range.mpr h))
  · have : oddB.getD way "" = "" := by rw [List.getD_eq_getElem?_getD, List.getElem?_eq_none (by show 11 ≤ way; omega)]; rfl
    rw [this]
    decide
theorem w_catN {xs ys zs : List V} {H0 H : Hp} {p b : Addr} {R : VK} (s : Same H0 H) (e : H p = some (.lst xs)) (nb : H b = none) (ez : xs ++ ys = zs) (l : xs.length + ys.length ≤ sizeLine) (q : ∀ c H', Same H0 H' → H' c = some (.lst zs) → R (.ref c) H') : rCat (.ref p) (.ref b) (upd H b (.lst ys)) R := by
  have s1 := same_new nb (.lst ys)
  refine w_cat (s1 _ _ e) upd_same l fun c nc => ?_
  subst ez
  exact q c _ (same_upd (s.trans s1) nc) upd_same
/-- what was read, told as a pair, is as it should be -/
theorem w_eqRes {K : PySem.W.Frag} {H : Hp} {p q r1 r2 : Addr} {ks : List Str} {i : Int} {Q : VK} (h1 : H p = some (.tup [.ref r1, .int i])) (h2 : H r1 = some (.lst (ks.map V.str))) (h3 : H q = some (.tup [.ref r2, .int i])) (h4 : H r2 = some (.lst (ks.map V.str))) (o : okStrs ks = true) (h : Q (.bl true) H) : rEqD K (.ref p) (.ref q) H Q := by
  have d : ∀ {p r}, H p = some (.tup [.ref r, .int i]) → H r = some (.lst (ks.map V.str)) → Dp K H (.ref p) (.tuple [.list (ks.map PyData.str), .int i]) := fun h1 h2 => .tup (SqT.of h1) (.cons (.lst (SqL.of h2) (dpAll_strs ks)) (.cons (.int i) .nil))
  have s : SeqAt.shaped (.tuple [.list (ks.map PyData.str), .int i]) = true := by
    have h1 := depth_strs ks
    have h2 : PyData.depth (.tuple [.list (ks.map PyData.str), .int i]) ≤ 64 := by simp only [PyData.depth, PyData.depthAll]; omega
    show (PyData.canLay0 (.tuple [.list (ks.map PyData.str), .int i]) && decide (PyData.depth (.tuple [.list (ks.map PyData.str), .int i]) ≤ 64)) = true
    rw [Bool.and_eq_true]
    refine ⟨?_, decide_eq_true h2⟩
    simp only [PyData.canLay0, PyData.canLayAll0, Bool.and_true]
    exact canLay_strs ks o
  refine ⟨_, _, d h1 h2, d h3 h4, s, s, ?_⟩
  have e : PyData.eqv (.tuple [.list (ks.map PyData.str), .int i]) (.tuple [.list (ks.map PyData.str), .int i]) = true := by
    simp [PyData.eqv, PyData.eqvAll, eqvAll_strs]
  rw [e]
  exact h
section
variable {P : Program} {w : World} {K : PySem.W.Frag} {mg : Str → Option Value} {base : Heap} {cB cM cN : Addr}
def spOdd : Sp := fun vs H Q _ => ∃ (way deep : Nat) (nm : Str), vs = [.int (way : Int), .str nm, .int (deep : Int)] ∧ way < 29 ∧ nm.length ≤ 12 ∧ deep ≤ 12 ∧ ∀ H', Same H H' → Q (.str (oddS way nm deep)) H'
theorem ok_odd {f : Addr} {fd : FuncData} (F : Fun K "_law_odd" "_law_odd" s_law_odd f fd) (T : Bt mg) : FnOk P w K mg base CX0 1 f fd ["_law_way", "_law_name_here", "_law_deep"] spOdd := by
  refine F.ok sc_law_odd (fun vs H Q E h => ?_) (fun cdv A0 outer s0 H vs Q E hr h => ?_)
  · obtain ⟨way, deep, nm, rfl, _⟩ := h
    rfl
  obtain ⟨way, deep, nm, rfl, hw, hn, hd, q⟩ := h
  have zl := PySem.sizeLine_eq
  refine ⟨_, (pss_cons (ps_set (i := 3) sc_law_odd.nd rfl (Or.inl rfl) (pe_lst (pa_cons pe_str (pa_cons pe_str (pa_cons pe_str pa_nil)))))
    (pss_cons (ps_set (i := 3) sc_law_odd.nd rfl (Or.inl rfl) (pe_op op_cat (pv 3) (pe_lst (pa_cons pe_str (pa_cons pe_str (pa_cons pe_str pa_nil))))))
    (pss_cons (ps_set (i := 3) sc_law_odd.nd rfl (Or.inl rfl) (pe_op op_cat (pv 3) (pe_lst (pa_cons pe_str (pa_cons pe_str (pa_cons pe_str pa_nil))))))
    (pss_cons (ps_set (i := 3) sc_law_odd.nd rfl (Or.inl rfl) (pe_op op_cat (pv 3) (pe_lst (pa_cons pe_str (pa_cons pe_str (pa_cons pe_str pa_nil))))))
    (pss_cons (ps_set (i := 3) sc_law_odd.nd rfl (Or.inl rfl) (pe_op op_cat (pv 3) (pe_lst (pa_cons (pe_op op_addS pe_str (pv 1)) (pa_cons pe_str pa_nil)))))
    (pss_cons (ps_if (pt_cmpR op_gt (pv 0) pe_int (nomark _)) (pss_cons (ps_set (i := 4) sc_law_odd.nd rfl (Or.inl rfl) (pe_lst (pa_cons pe_str (pa_cons pe_str (pa_cons pe_str (pa_cons pe_str pa_nil))))))
    (pss_cons (ps_set (i := 4) sc_law_odd.nd rfl (Or.inl rfl) (pe_op op_cat (pv 4) (pe_lst (pa_cons pe_str (pa_cons pe_str (pa_cons pe_str pa_nil))))))
    (pss_cons (ps_set (i := 4) sc_law_odd.nd rfl (Or.inl rfl) (pe_op op_cat (pv 4) (pe_lst (pa_cons pe_str (pa_cons pe_str (pa_cons pe_str pa_nil))))))
    (pss_cons (ps_set (i := 4) sc_law_odd.nd rfl (Or.inl rfl) (pe_op op_cat (pv 4) (pe_lst (pa_cons pe_str pa_nil))))
    (pss_one (ps_ret (pe_op op_addS pe_str (pe_ix (kIxL (K := K) rfl) (pv 4) (pe_op op_sub (pv 0) pe_int) (fun _ _ => rfl))))))))) pss_nil)
    (pss_cons (ps_if (pt_cmpR op_eq (pv 0) pe_int (nomark _)) (pss_one (ps_ret pe_str)) pss_nil)
    (pss_cons (ps_if (pt_cmpR op_eq (pv 0) pe_int (nomark _)) (pss_one (ps_ret pe_str)) pss_nil)
    (pss_cons (ps_if (pt_cmpR op_eq (pv 0) pe_int (nomark _)) (pss_one (ps_ret (pe_op op_addS (pe_op op_mul_str pe_str (pv 2)) pe_str))) pss_nil)
    (pss_cons (ps_if (pt_cmpR op_eq (pv 0) pe_int (nomark _)) (pss_one (ps_ret pe_str)) pss_nil)
    (pss_one (ps_ret (pe_op op_addS pe_str (pe_ix (kIxL (K := K) rfl) (pv 3) (pv 0) (fun _ _ => rfl))))))))))))))), ?_⟩
  walk_at "rd"
  refine ⟨by show 3 ≤ _; omega, fun p1 n1 => ?_⟩
  have s1 := same_new n1 (.lst (((oddA nm).take 3).map V.str))
  have e1 : upd H p1 (.lst (((oddA nm).take 3).map V.str)) p1 = some (.lst (((oddA nm).take 3).map V.str)) := upd_same
  change gName 3 (V.ref p1) _ (upd H p1 (.lst (((oddA nm).take 3).map V.str))) _
  generalize upd H p1 (.lst (((oddA nm).take 3).map V.str)) = H1 at s1 e1 ⊢
  walk_at "rd"
  refine ⟨by show 3 ≤ _; omega, fun b nb => ?_⟩
  refine w_catN (zs := ((oddA nm).take 6).map V.str) s1 e1 nb rfl (by show 3 + 3 ≤ _; omega) fun c H2 s2 e2 => ?_
  walk_at "rd"
  refine ⟨by show 3 ≤ _; omega, fun b nb => ?_⟩
  refine w_catN (zs := ((oddA nm).take 9).map V.str) s2 e2 nb rfl (by show 6 + 3 ≤ _; omega) fun c H3 s3 e3 => ?_
  walk_at "rd"
  refine ⟨by show 3 ≤ _; omega, fun b nb => ?_⟩
  refine w_catN (zs := ((oddA nm).take 12).map V.str) s3 e3 nb rfl (by show 9 + 3 ≤ _; omega) fun c H4 s4 e4 => ?_
  walk_at "rd"
  refine w_addS (by show 21 + nm.length ≤ _; omega) ?_
  walk_at "rd"
  refine ⟨by show 2 ≤ _; omega, fun b nb => ?_⟩
  refine w_catN (zs := ((oddA nm).take 14).map V.str) s4 e4 nb rfl (by show 12 + 2 ≤ _; omega) fun c H5 s5 e5 => ?_
  have e5 : H5 c = some (.lst ((oddA nm).map V.str)) := e5
  walk_at "rd"
  walk_at "if"
  all_goals rename_i c1
  · have c1 : 17 < way := by omega
    walk_at "rd"
    refine ⟨by show 4 ≤ _; omega, fun p6 n6 => ?_⟩
    have s6 := same_upd s5 n6 (o := .lst ((oddB.take 4).map V.str))
    have e6 : upd H5 p6 (.lst ((oddB.take 4).map V.str)) p6 = some (.lst ((oddB.take 4).map V.str)) := upd_same
    change gName 4 (V.ref p6) _ (upd H5 p6 (.lst ((oddB.take 4).map V.str))) _
    generalize upd H5 p6 (.lst ((oddB.take 4).map V.str)) = H6 at s6 e6 ⊢
    walk_at "rd"
    refine ⟨by show 3 ≤ _; omega, fun b nb => ?_⟩
    refine w_catN (zs := (oddB.take 7).map V.str) s6 e6 nb rfl (by show 4 + 3 ≤ _; omega) fun c H7 s7 e7 => ?_
    walk_at "rd"
    refine ⟨by show 3 ≤ _; omega, fun b nb => ?_⟩
    refine w_catN (zs := (oddB.take 10).map V.str) s7 e7 nb rfl (by show 7 + 3 ≤ _; omega) fun c H8 s8 e8 => ?_
    walk_at "rd"
    refine ⟨by show 1 ≤ _; omega, fun b nb => ?_⟩
    refine w_catN (zs := (oddB.take 11).map V.str) s8 e8 nb rfl (by show 10 + 1 ≤ _; omega) fun c H9 s9 e9 => ?_
    have e9 : H9 c = some (.lst (oddB.map V.str)) := e9
    walk_at "rd"
    refine w_ixL (SqL.of e9) (at_nat (i := way - 18) (by omega) (oddB_at (by omega))) ?_
    walk_at "rd"
    refine w_addS (by have := oddB_len (way := way - 18); show 2 + _ ≤ _; omega) ?_
    rw [oddB_is nm deep c1 hw]
    exact q _ s9
  have c1 : way ≤ 17 := by omega
  walk_at "rd"
  walk_at "if"
  all_goals rename_i c14
  · have c14 := V.int.inj c14
    have c14 : way = 14 := by omega
    subst c14
    walk_at "rd"
    exact q _ s5
  have c14 : way ≠ 14 := fun z => c14 (by rw [z]; rfl)
  walk_at "rd"
  walk_at "if"
  all_goals rename_i c15
  · have c15 := V.int.inj c15
    have c15 : way = 15 := by omega
    subst c15
    walk_at "rd"
    exact q _ s5
  have c15 : way ≠ 15 := fun z => c15 (by rw [z]; rfl)
  walk_at "rd"
  walk_at "if"
  all_goals rename_i c16
  · have c16 := V.int.inj c16
    have c16 : way = 16 := by omega
    subst c16
    walk_at "rd"
    refine w_mulS (by decide) (by omega) ?_
    have hz : (Txt.mul "  " ((deep : Nat) : Int)).length = 2 * deep := by rw [len_tl, show ("  " : Str) = ⟨#[32, 32]⟩ from rfl, tl_mul2, List.length_replicate]
    have hz2 : (Txt.mul "  " ((deep : Nat) : Int)).length + ("leaf always 0 0 idle zzz" : Str).length ≤ sizeLine := by
      rw [hz]
      show 2 * deep + 24 ≤ _
      omega
    walk_at "rd"
    exact q _ s5
  have c16 : way ≠ 16 := fun z => c16 (by rw [z]; rfl)
  walk_at "rd"
  walk_at "if"
  all_goals rename_i c17
  · have c17 := V.int.inj c17
    have c17 : way = 17 := by omega
    subst c17
    walk_at "rd"
    exact q _ s5
  have c17 : way ≠ 17 := fun z => c17 (by rw [z]; rfl)
  walk_at "rd"
  refine w_ixL (SqL.of e5) (at_nat (i := way) rfl (oddA_at (by omega))) ?_
  walk_at "rd"
  refine w_addS (by have := oddA_len (way := way) hn; show 2 + _ ≤ _; omega) ?_
  rw [oddA_is nm deep (by omega)]
  exact q _ s5
end
end Mn

namespace Mn
open PySem PySem.Spec PyProof.Rows L2 TL
section
variable {P : Program} {w : World} {K : PySem.W.Frag} {mg : Str → Option Value} {base : Heap} {σ : L2.St} {H : Hp} {Q : VK} {E : XK}
theorem w_refEq {x : Str} {tl' : TE} {ks : List Str} {i : Int} (hl : x.length ≤ 100000) (hr : ∀ r ∈ rowsM x, r.length ≤ 640) (e : resR (readM x) = (ks, i)) (o : okStrs ks = true) (ht : ∀ H1 (R : VK), (∀ p r H2, Same H1 H2 → H2 p = some (.tup [.ref r, .int i]) → H2 r = some (.lst (ks.map V.str)) → R (.ref p) H2) → tl' σ H1 R)
    (q : ∀ H', Same H H' → Q (.bl true) H') : spRefused [.str x] H (fun v H2 => tl' σ H2 fun y H3 => rEqD K v y H3 Q) E :=
  ⟨x, rfl, hl, hr, fun r p H1 s1 er ep => by
    rw [e] at er ep
    exact ht H1 _ fun p2 r2 H2 s2 ep2 er2 => w_eqRes (s2 _ _ ep) (s2 _ _ er) ep2 er2 o (q H2 (s1.trans s2))⟩
theorem ht_1 {s : Str} {te : TE} {i : Int} {H1 : Hp} {R : VK} (hi : ∀ H R, R (.int i) H → te σ H R) (q : ∀ p r H2, Same H1 H2 → H2 p = some (.tup [.ref r, .int i]) → H2 r = some (.lst (([s] : List Str).map V.str)) → R (.ref p) H2) : tTup (tCons (tLst (tCons (tC (.str s)) tNil)) (tCons te tNil)) σ H1 R := by
  have zl := PySem.sizeLine_eq
  walk_at "rd"
  refine ⟨by show 1 ≤ _; omega, fun r nr => ?_⟩
  have e2 : upd H1 r (.lst [V.str s]) r = some (.lst [V.str s]) := upd_same
  have s1 := same_new nr (.lst [V.str s])
  generalize upd H1 r (.lst [V.str s]) = H2 at e2 s1 ⊢
  walk_at "rd"
  refine hi _ _ ?_
  walk_at "rd"
  refine ⟨by show 2 ≤ _; omega, fun p np => ?_⟩
  exact q p r _ (same_upd s1 np) upd_same ((upd_ne (neN np e2)).trans e2)
theorem ht_0 {te : TE} {i : Int} {H1 : Hp} {R : VK} (hi : ∀ H R, R (.int i) H → te σ H R) (q : ∀ p r H2, Same H1 H2 → H2 p = some (.tup [.ref r, .int i]) → H2 r = some (.lst (([] : List Str).map V.str)) → R (.ref p) H2) : tTup (tCons (tLst tNil) (tCons te tNil)) σ H1 R := by
  have zl := PySem.sizeLine_eq
  walk_at "rd"
  refine ⟨by show 0 ≤ _; omega, fun r nr => ?_⟩
  have e2 : upd H1 r (.lst []) r = some (.lst []) := upd_same
  have s1 := same_new nr (.lst [])
  generalize upd H1 r (.lst []) = H2 at e2 s1 ⊢
  walk_at "rd"
  refine hi _ _ ?_
  walk_at "rd"
  refine ⟨by show 2 ≤ _; omega, fun p np => ?_⟩
  exact q p r _ (same_upd s1 np) upd_same ((upd_ne (neN np e2)).trans e2)
theorem Lns.sum {ws : List Str} (L : Lns ws) : (ws.map fun x => x.length).sum + ws.length * 1 ≤ 16777216 := by
  have h1 := sum_le ws L.le
  have h2 := Nat.mul_le_mul L.ct (Nat.le_refl 640)
  have h3 := L.ct
  omega
theorem okRow : okStrs ([("row" : Str)] : List Str) = true := okStrs_cons (strOk_of "row") rfl
theorem okMany : okStrs ([("many" : Str)] : List Str) = true := okStrs_cons (strOk_of "many") rfl
theorem okTop : okStrs ([("top" : Str)] : List Str) = true := okStrs_cons (strOk_of "top") rfl
theorem okNil : okStrs ([] : List Str) = true := rfl
def whatS (b : Bool) : List Str := if b then ["what"] else []
theorem what_ok (b : Bool) : (∀ w ∈ whatS b, 10 ∉ tl w ∧ w.length ≤ 640) ∧ (whatS b).length ≤ 1 := by
  cases b with
  | false => exact ⟨fun w h => absurd h List.not_mem_nil, by decide⟩
  | true => exact ⟨by decide, by decide⟩
def spPut : Sp := fun vs H Q _ => ∃ (D : TreeD) (rr : Addr) (way j a : Nat) (other : Int), vs = [.ref rr, .str (oddS way (D.sh j).name (deepOf D a)), .int (a : Int), .int other] ∧ Good D ∧ H rr = some (.lst ((rowsS D).map V.str)) ∧ 1 ≤ a ∧ a ≤ D.n ∧ j < a ∧ way < 29 ∧ ∀ H', Same H H' → Q (.bl true) H'
theorem ok_put {f : Addr} {fd : FuncData} (F : Fun K "_law_put_in" "_law_put_in" s_law_put_in f fd) (T : Bt mg) (CRf : Cal P w K mg base CX0 "_law_refused" 8 ["_law_text"] [] spRefused) : FnOk P w K mg base CX0 9 f fd ["_law_rows", "_law_odd_here", "_law_at", "_law_other"] spPut := by
  refine F.ok sc_law_put_in (fun vs H Q E h => ?_) (fun cdv A0 outer s0 H vs Q E hr h => ?_)
  · obtain ⟨D, rr, way, j, a, other, rfl, _⟩ := h
    rfl
  obtain ⟨D, rr, way, j, a, other, rfl, g, hrr, h1, h2, hj, hw, q⟩ := h
  have zl := PySem.sizeLine_eq
  have sz := g.wf.sz
  have lr : (rowsS D).length = D.n := by rw [List.length_map, List.length_range]
  refine ⟨_, (C8.pss_cut (ps_if (pt_cmpR op_eq (pe_op op_mod (pv 3) pe_int) pe_int (nomark _)) (pss_cons (ps_set (i := 0) sc_law_put_in.nd rfl (Or.inl rfl) (pe_op op_cat (pe_op op_cat (pe_slice (kSlL (K := K) rfl) (pv 0) po_none (po_some (pv 2))) (pe_lst (pa_cons pe_str (pa_cons pe_str pa_nil)))) (pe_slice (kSlL (K := K) rfl) (pv 0) (po_some (pv 2)) po_none)))
    (pss_one (ps_set (i := 2) sc_law_put_in.nd rfl (Or.inl rfl) (pe_op op_add (pv 2) pe_int)))) pss_nil)
    (pss_cons (ps_set (i := 4) sc_law_put_in.nd rfl (Or.inl rfl) (pe_op op_cat (pe_op op_cat (pe_slice (kSlL (K := K) rfl) (pv 0) po_none (po_some (pv 2))) (pe_lst (pa_cons (pv 1) pa_nil))) (pe_slice (kSlL (K := K) rfl) (pv 0) (po_some (pv 2)) po_none)))
    (C8.pss_cut (ps_if (pt_cmpR op_eq (pe_op op_mod (pv 3) pe_int) pe_int (nomark _)) (pss_one (ps_set (i := 4) sc_law_put_in.nd rfl (Or.inl rfl) (pe_op op_cat (pv 4) (pe_lst (pa_cons pe_str pa_nil))))) pss_nil)
    (pss_one (ps_ret (pe_and (pe_cmpR (kEqD (K := K) rfl hr.units) (pe_ca (P := P) (w := w) (K := K) (mg := mg) (base := base) ⟨rfl, rfl, rfl, rfl, rfl⟩ hr rfl (pa_cons (pe_join pe_str (pv 4)) pa_nil)) (pe_tup (pa_cons (pe_lst (pa_cons pe_str pa_nil)) (pa_cons (pe_op op_add (pv 2) pe_int) pa_nil))) (nomark _)) (pe_one (pe_cmpR (kEqD (K := K) rfl hr.units) (pe_ca (P := P) (w := w) (K := K) (mg := mg) (base := base) ⟨rfl, rfl, rfl, rfl, rfl⟩ hr rfl (pa_cons (pe_join pe_str (pv 0)) pa_nil)) (pe_tup (pa_cons (pe_lst pa_nil) (pa_cons pe_int pa_nil))) (nomark _))))))))), ?_⟩
  refine w_cut (fun σ H2 => ∃ (sk : Bool) (r2 : Addr), Same H H2 ∧ H2 r2 = some (.lst (((rowsS D).take a ++ midS sk ++ (rowsS D).drop a).map V.str)) ∧ σ = [some (.ref r2), some (.str (oddS way (D.sh j).name (deepOf D a))), some (.int ((a + (midS sk).length : Nat) : Int)), some (.int other), none]) ?_ (fun σ H2 hm => ?_)
  · walk_at "rd"
    walk_at "if"
    all_goals rename_i c
    · walk_at "rd"
      refine w_slL (SqL.of hrr) fun p1 n1 => ?_
      rw [cutV_to, ← List.map_take]
      have s1 := same_new n1 (.lst (((rowsS D).take a).map V.str))
      have e1 : upd H p1 (.lst (((rowsS D).take a).map V.str)) p1 = some (.lst (((rowsS D).take a).map V.str)) := upd_same
      generalize upd H p1 (.lst (((rowsS D).take a).map V.str)) = H1 at s1 e1 ⊢
      walk_at "rd"
      refine ⟨by show 2 ≤ _; omega, fun b nb => ?_⟩
      refine w_catN (zs := ((rowsS D).take a ++ midS true).map V.str) s1 e1 nb (by rw [List.map_append]; rfl) (by rw [List.length_map, List.length_take, lr]; show _ + 2 ≤ _; omega) fun p3 H3 s3 e3 => ?_
      walk_at "rd"
      refine w_slL (SqL.of (s3 _ _ hrr)) fun p4 n4 => ?_
      rw [cutV_from, ← List.map_drop]
      refine w_catN (zs := ((rowsS D).take a ++ midS true ++ (rowsS D).drop a).map V.str) s3 e3 n4 (by rw [← List.map_append]) (by rw [List.length_map, List.length_map, List.length_append, List.length_take, List.length_drop, lr]; show _ + 2 + _ ≤ _; omega) fun p5 H5 s5 e5 => ?_
      walk_at "rd"
      exact ⟨true, p5, s5, e5, rfl⟩
    · walk_at "rd"
      refine ⟨false, rr, Same.refl _, hrr.trans ?_, rfl⟩
      rw [show midS false = [] from rfl, List.append_nil, List.take_append_drop]
  obtain ⟨sk, r2, s2, e2, rfl⟩ := hm
  obtain ⟨m1, m2, m3⟩ := mid_ok sk
  have lt : ((rowsS D).take a ++ midS sk).length = a + (midS sk).length := by rw [List.length_append, List.length_take, lr, Nat.min_eq_left h2]
  have et : ((rowsS D).take a ++ midS sk ++ (rowsS D).drop a).take (a + (midS sk).length) = (rowsS D).take a ++ midS sk := by rw [← lt, List.take_left]
  have ed : ((rowsS D).take a ++ midS sk ++ (rowsS D).drop a).drop (a + (midS sk).length) = (rowsS D).drop a := by rw [← lt, List.drop_left]
  walk_at "rd"
  refine w_slL (SqL.of e2) fun p1 n1 => ?_
  rw [cutV_to, ← List.map_take, et]
  have s3 := s2.trans (same_new n1 (.lst (((rowsS D).take a ++ midS sk).map V.str)))
  have f2 := same_new n1 (.lst (((rowsS D).take a ++ midS sk).map V.str)) _ _ e2
  have e3 : upd H2 p1 (.lst (((rowsS D).take a ++ midS sk).map V.str)) p1 = some (.lst (((rowsS D).take a ++ midS sk).map V.str)) := upd_same
  have sk3 := same_new n1 (.lst (((rowsS D).take a ++ midS sk).map V.str))
  generalize upd H2 p1 (.lst (((rowsS D).take a ++ midS sk).map V.str)) = H3 at s3 f2 e3 sk3 ⊢
  walk_at "rd"
  refine ⟨by show 1 ≤ _; omega, fun b nb => ?_⟩
  generalize hod : oddS way (D.sh j).name (deepOf D a) = od at *
  refine w_catN (zs := ((rowsS D).take a ++ midS sk ++ [od]).map V.str) (Same.refl _) e3 nb (by rw [show ([V.str od] : List V) = ([od] : List Str).map V.str from rfl, ← List.map_append]) (by rw [List.length_map, lt]; show _ + 1 ≤ _; omega) fun p5 H5 s5 e5 => ?_
  walk_at "rd"
  refine w_slL (SqL.of (s5 _ _ f2)) fun p6 n6 => ?_
  rw [cutV_from, ← List.map_drop, ed]
  refine w_catN (zs := ((rowsS D).take a ++ midS sk ++ od :: (rowsS D).drop a).map V.str) s5 e5 n6 (by rw [← List.map_append]; simp) (by rw [List.length_map, List.length_map, List.length_append, lt, List.length_drop, lr]; show _ + 1 + _ ≤ _; omega) fun p7 H7 s7 e7 => ?_
  have s37 := s3.trans s7
  have f7 := s7 _ _ f2
  walk_at "rd"
  refine w_cut (fun σ H8 => ∃ (b : Bool) (p8 : Addr), Same H7 H8 ∧ H8 p8 = some (.lst (((rowsS D).take a ++ midS sk ++ od :: ((rowsS D).drop a ++ whatS b)).map V.str)) ∧ σ = [some (.ref r2), some (.str od), some (.int ((a + (midS sk).length : Nat) : Int)), some (.int other), some (.ref p8)]) ?_ (fun σ H8 hm => ?_)
  · walk_at "rd"
    walk_at "if"
    all_goals rename_i c
    · walk_at "rd"
      refine ⟨by show 1 ≤ _; omega, fun b nb => ?_⟩
      refine w_catN (zs := ((rowsS D).take a ++ midS sk ++ od :: ((rowsS D).drop a ++ whatS true)).map V.str) (Same.refl _) e7 nb (by rw [show ([V.str "what"] : List V) = (whatS true).map V.str from rfl, ← List.map_append]; simp) (by rw [List.length_map, List.length_append, List.length_cons, lt, List.length_drop, lr]; show _ + 1 ≤ _; omega) fun p9 H9 s9 e9 => ?_
      walk_at "rd"
      exact ⟨true, p9, s9, e9, rfl⟩
    · walk_at "rd"
      exact ⟨false, p7, Same.refl _, by rw [show whatS false = [] from rfl, List.append_nil]; exact e7, rfl⟩
  obtain ⟨bw, p8, s8, e8, rfl⟩ := hm
  obtain ⟨w1, w2⟩ := what_ok bw
  have RO := read_odd g h1 h2 hw hj sk (post := (rowsS D).drop a ++ whatS bw) (fun x hx => (List.mem_append.mp hx).elim (fun z => rowS_ok g x (List.mem_of_mem_drop z)) (w1 x)) (by rw [List.length_append, List.length_drop, lr]; omega)
  rw [hod] at RO
  obtain ⟨L1, R1⟩ := RO
  obtain ⟨L2', R2⟩ := read_mid g h2 sk
  walk_at "rd"
  refine w_ca CRf (by decide) ?_
  walk_at "rd"
  refine ⟨"\n", p8, _, rfl, rfl, .inl (SqL.of e8), L1.sum, ?_⟩
  walk_at "rd"
  refine w_refEq (σ := _) (ks := ["row"]) (i := ((a + (midS sk).length : Nat) : Int) + 1) L1.rd.2.1 L1.rd.2.2 (by rw [show Txt.join "\n" _ = ln _ from rfl, R1]; rfl) okRow (fun H1 R h => ht_1 (fun H R q => ?_) h) fun H9 s9 => ?_
  · walk_at "rd"
    exact q
  walk_at "rd"
  refine w_ca CRf (by decide) ?_
  walk_at "rd"
  refine ⟨"\n", r2, _, rfl, rfl, .inl (SqL.of (s9 _ _ (s8 _ _ f7))), L2'.sum, ?_⟩
  walk_at "rd"
  refine w_refEq (σ := _) (ks := []) (i := 0) L2'.rd.2.1 L2'.rd.2.2 (by rw [show Txt.join "\n" _ = ln _ from rfl, R2]; rfl) okNil (fun H1 R h => ht_0 (fun H R q => ?_) h) fun H10 s10 => ?_
  · walk_at "rd"
    exact q
  exact q _ (((s37.trans s8).trans s9).trans s10)
end
end Mn

/-! ### a method that may raise -/
namespace Mn
open PySem PySem.Spec PyProof.Rows L2 L2H
section
variable {X : Cx} {P : Program} {w : World} {K : PySem.W.Frag} {mg : Str → Option Value} {base : Heap} {k : Nat} {W : WX} {x m : Str} {p pos apos : Pos} {e o : Expr} {es : List Expr} {ta : TE} {t : L2.TA}
def tME (P : Program) (w : World) (K : PySem.W.Frag) (mg : Str → Option Value) (base : Heap) (m : Str) (k : Nat) (W : WX) (ta : TE) (t : L2.TA) : TE := fun σ H Q => ta σ H fun xv H1 => ∃ a C dx fs j ps dvs sp, xv = .ref a ∧ H1 a = some (.ins C dx fs) ∧ Cls K C ∧ fs.lookup m = none ∧ Mth P w K mg base (CXN P w) C m j ps dvs sp ∧ j ≤ k ∧
  t σ H1 fun vs H2 => sp (xv :: (vs ++ dvs)) H2 Q (WE W σ)
theorem pe_mae {pl : Sem Bool} (hX : Sx X P w K mg base) (hr : Room k X.A) (tk : L2N.Takes X W) (he : PE X o ta) (ha : PA X (e :: es) t)
    (hst : starEach (e :: es) X.env = (false, eval e X.env) :: starEach es X.env := by rfl) (hpl : (backTo pos (starEach es X.env)).any (·.1) = false := by rfl)
    (ht : eval (.Call (.Attribute o m apos) (e :: es) [] pos) X.env = (do
      let ov ← eval o X.env
      standAt apos.atName
      let (f, first) ← holding [ov] (getMethod ov m pl)
      callWith pos f first (backTo pos (starEach (e :: es) X.env)) (backToKw pos (keywordEach [] X.env))) := by rfl) :
    PE X (.Call (.Attribute o m apos) (e :: es) [] pos) (tME P w K mg base m k W ta t) := by
  obtain ⟨rfl, rfl, rfl, rfl, rfl⟩ := hX
  refine ⟨fun pins s σ H Q I h => ?_⟩
  refine PySem.W.methodCall_KW (pl := pl) (thn (he.run pins s σ H _ I h) fun u s1 ⟨xv, H1, I1, rx, a, C, dx, fs, j, ps, dvs, sp, ex, ea, c, l, M, hj, q⟩ => ?_) ht
  subst ex
  obtain rfl : u = Value.ref a := rx
  obtain ⟨f, fd, ds, F, hm, hb, hd⟩ := M.ex
  refine getmeth_ok I1 ea c hm l ?_
  refine PySem.W.callWith_K (first := [.ref a]) (h₀ := X.base) I.ok.mod.kin hm.kp (thn (ha.run pos pins s1 σ H1 _ I1 q) fun us s2 ⟨vs, H2, I2, r, q2⟩ => ⟨I2.kIn, ?_⟩) hst hpl
  exact run_fnSD (us := .ref a :: us) (vs := .ref a :: vs) F (hr.mono hj) hb hd (L2N.passAt tk σ) I2 (.cons rfl r) q2
theorem pe_mae0 {pl : Sem Bool} (hX : Sx X P w K mg base) (hr : Room k X.A) (tk : L2N.Takes X W) (he : PE X o ta)
    (ht : eval (.Call (.Attribute o m apos) [] [] pos) X.env = (do
      let ov ← eval o X.env
      standAt apos.atName
      let (f, first) ← holding [ov] (getMethod ov m pl)
      callWith pos f first (backTo pos (starEach [] X.env)) (backToKw pos (keywordEach [] X.env))) := by rfl) :
    PE X (.Call (.Attribute o m apos) [] [] pos) (tME P w K mg base m k W ta tNil) := by
  obtain ⟨rfl, rfl, rfl, rfl, rfl⟩ := hX
  refine ⟨fun pins s σ H Q I h => ?_⟩
  refine PySem.W.methodCall_KW (pl := pl) (thn (he.run pins s σ H _ I h) fun u s1 ⟨xv, H1, I1, rx, a, C, dx, fs, j, ps, dvs, sp, ex, ea, c, l, M, hj, q⟩ => ?_) ht
  subst ex
  obtain rfl : u = Value.ref a := rx
  obtain ⟨f, fd, ds, F, hm, hb, hd⟩ := M.ex
  refine getmeth_ok I1 ea c hm l ?_
  exact PySem.W.callWith_K0 (first := [.ref a]) I1.kIn hm.kp (run_fnSD (us := [.ref a]) (vs := [.ref a]) F (hr.mono hj) hb hd (L2N.passAt tk σ) I1 (.cons rfl .nil) q)
theorem w_mae {σ : L2.St} {H : Hp} {Q : VK} (q : ta σ H fun xv H1 => ∃ a C dx fs j ps dvs sp, xv = .ref a ∧ H1 a = some (.ins C dx fs) ∧ Cls K C ∧ fs.lookup m = none ∧ Mth P w K mg base (CXN P w) C m j ps dvs sp ∧ j ≤ k ∧ t σ H1 fun vs H2 => sp (xv :: (vs ++ dvs)) H2 Q (WE W σ)) : tME P w K mg base m k W ta t σ H Q := q
theorem w_mae1 {H : Hp} {a C dx : Addr} {fs : List (Str × V)} {j : Nat} {ps : List Str} {dvs : List V} {sp : Sp} {R : List V → Sp → Prop} (h : H a = some (.ins C dx fs)) (c : Cls K C) (l : fs.lookup m = none)
    (M : Mth P w K mg base (CXN P w) C m j ps dvs sp) (hj : j ≤ k) (q : R dvs sp) : ∃ a' C dx fs j ps dvs sp, V.ref a = .ref a' ∧ H a' = some (.ins C dx fs) ∧ Cls K C ∧ fs.lookup m = none ∧ Mth P w K mg base (CXN P w) C m j ps dvs sp ∧ j ≤ k ∧ R dvs sp := ⟨a, C, dx, fs, j, ps, dvs, sp, rfl, h, c, l, M, hj, q⟩
/-- isinstance of the error that the suite holds, its class as it comes -/
def rIsX (K : PySem.W.Frag) (c : Value) (d : Option Addr) (a : Addr) : List V → Hp → VK → Prop := fun xs H Q => ∃ D, c = .ref D ∧ d = none ∧ ExcC K D ∧ rIsE K D a xs H Q
theorem kIsX {q : Addr × Obj} {c : Value} {d : Option Addr} (hK : X.K = K) (hq : q ∈ X.pn) (hz : L2N.Zn c d q.2) (hf : ∃ vs, q.2.data = .fields vs) : CallR X (.builtin "isinstance") (rIsX K c d q.1) := by
  intro pins s σ H xs us Q I r h
  obtain ⟨D, rfl, rfl, C, h⟩ := h
  exact kIsP hK hq C hz.zc hf pins s σ H xs us Q I r h
theorem w_isX {D a : Addr} {v : V} {cv : Value} {b : Bool} {H : Hp} {Q : VK} (C : ExcC K D) (hv : ∀ u, RelV v u → u = cv) (hk : PySem.W.kitOne K (.ref D) cv = some b) (h : Q (.bl b) H) : rIsX K (.ref D) none a [.ref a, v] H Q := ⟨D, rfl, rfl, C, w_isE hv hk h⟩
/-- a def that may raise, where nothing is raised -/
theorem calm {f : Addr} {fd : FuncData} {ps : List Str} {sp : Sp} (F : FnOk P w K mg base (CXN P w) k f fd ps sp) : FnOk P w K mg base CX0 k f fd ps (fun vs H Q _ => sp vs H Q E0) :=
  ⟨fun vs H Q E h => F.len _ _ _ _ h, fun A outer s H args us vs Q E hr e0 hb hv h => codeAny_mono (F.run A outer s H args us vs Q E0 hr e0 hb hv h) fun z s' hs => by
    cases z with
    | error e =>
      obtain ⟨a, B, H', cls, d, h⟩ := hs
      exact h.2.2.2.2.2.2.2.elim
    | ok fl => cases fl <;> exact hs⟩
end
end Mn

namespace Mn
open PySem PySem.Spec PyProof.Rows L2 TL
section
variable {P : Program} {w : World} {K : PySem.W.Frag} {mg : Str → Option Value} {base : Heap}
theorem ln_le {ws : List Str} (L : Lns ws) : (ln ws).length ≤ 44870 := by
  have h1 := ln_len L.le
  have h2 := Nat.mul_le_mul L.ct (Nat.le_refl (640 + 1))
  omega
def spSpecial : Sp := fun vs H Q _ => ∃ (D : TreeD) (mark : Int) (p : List Nat) (way : Nat) (other : Int), vs = [.int (way : Int), .str (ln (rowsS D)), .int (D.n : Int), .int other] ∧ Good D ∧ named mark D ∧ PathOK D p ∧ way < 4 ∧ ∀ H', Same H H' → Q (.bl true) H'
theorem ok_special {f : Addr} {fd : FuncData} (F : Fun K "_law_special" "_law_special" s_law_special f fd) (T : Bt mg) (CRf : Cal P w K mg base CX0 "_law_refused" 8 ["_law_text"] [] spRefused) (CS : Cal P w K mg base CX0 "_law_steep" 1 [] [] spSteep) (CO : Cal P w K mg base CX0 "_law_odd" 1 ["_law_way", "_law_name_here", "_law_deep"] [] spOdd) :
    FnOk P w K mg base CX0 9 f fd ["_law_way", "_law_good", "_law_count", "_law_other"] spSpecial := by
  refine F.ok sc_law_special (fun vs H Q E h => ?_) (fun cdv A0 outer s0 H vs Q E hr h => ?_)
  · obtain ⟨D, mark, p, way, other, rfl, _⟩ := h
    rfl
  obtain ⟨D, mark, p, way, other, rfl, g, nm, PO, hw, q⟩ := h
  have zl := PySem.sizeLine_eq
  obtain ⟨LA, RA⟩ := read_all g
  have la := ln_le LA
  have gne : rowsS D ≠ [] := LA.ne
  refine ⟨_, (pss_cons (ps_if (pt_cmpR op_eq (pv 0) pe_int (nomark _)) (pss_one (ps_ret (pe_and (pe_cmpR (kEqD (K := K) rfl hr.units) (pe_ca (P := P) (w := w) (K := K) (mg := mg) (base := base) ⟨rfl, rfl, rfl, rfl, rfl⟩ hr rfl (pa_cons pe_str pa_nil)) (pe_tup (pa_cons (pe_lst (pa_cons pe_str pa_nil)) (pa_cons pe_int pa_nil))) (nomark _)) (pe_one (pe_cmpR (kEqD (K := K) rfl hr.units) (pe_ca (P := P) (w := w) (K := K) (mg := mg) (base := base) ⟨rfl, rfl, rfl, rfl, rfl⟩ hr rfl (pa_cons pe_str pa_nil)) (pe_tup (pa_cons (pe_lst (pa_cons pe_str pa_nil)) (pa_cons pe_int pa_nil))) (nomark _)))))) pss_nil)
    (pss_cons (ps_if (pt_cmpR op_eq (pv 0) pe_int (nomark _)) (pss_cons (ps_set (i := 4) sc_law_special.nd rfl (Or.inl rfl) (pe_ca (P := P) (w := w) (K := K) (mg := mg) (base := base) ⟨rfl, rfl, rfl, rfl, rfl⟩ hr rfl (pa_cons (pe_op op_addS (pe_op op_addS (pe_op op_addS (pe_ca0 (P := P) (w := w) (K := K) (mg := mg) (base := base) ⟨rfl, rfl, rfl, rfl, rfl⟩ hr rfl) pe_str) (pe_op op_mul_str pe_str pe_int)) pe_str) pa_nil)))
    (pss_one (ps_ret (pe_and (pe_cmpR (kEqD (K := K) rfl hr.units) (pv 4) (pe_tup (pa_cons (pe_lst (pa_cons pe_str pa_nil)) (pa_cons pe_int pa_nil))) (nomark _)) (pe_one (pe_cmpR (kEqD (K := K) rfl hr.units) (pe_ca (P := P) (w := w) (K := K) (mg := mg) (base := base) ⟨rfl, rfl, rfl, rfl, rfl⟩ hr rfl (pa_cons (pe_ca0 (P := P) (w := w) (K := K) (mg := mg) (base := base) ⟨rfl, rfl, rfl, rfl, rfl⟩ hr rfl) pa_nil)) (pe_tup (pa_cons (pe_lst pa_nil) (pa_cons pe_int pa_nil))) (nomark _))))))) pss_nil)
    (pss_cons (ps_if (pt_cmpR op_eq (pv 0) pe_int (nomark _)) (pss_cons (ps_set (i := 5) sc_law_special.nd rfl (Or.inl rfl) (pe_ca (P := P) (w := w) (K := K) (mg := mg) (base := base) ⟨rfl, rfl, rfl, rfl, rfl⟩ hr rfl (pa_cons (pe_op op_mod (pv 3) pe_int) (pa_cons pe_str (pa_cons pe_int pa_nil)))))
    (pss_one (ps_ret (pe_cmpR (kEqD (K := K) rfl hr.units) (pe_ca (P := P) (w := w) (K := K) (mg := mg) (base := base) ⟨rfl, rfl, rfl, rfl, rfl⟩ hr rfl (pa_cons (pe_op op_addS (pe_op op_addS (pe_op op_addS pe_str (pv 5)) pe_str) (pv 1)) pa_nil)) (pe_tup (pa_cons (pe_lst (pa_cons pe_str pa_nil)) (pa_cons pe_int pa_nil))) (nomark _))))) pss_nil)
    (pss_cons (ps_if (pt_cmpR op_lt (pv 2) pe_int (nomark _)) (pss_one (ps_ret pe_bl)) pss_nil)
    (pss_cons (ps_set (i := 6) sc_law_special.nd rfl (Or.inl rfl) (pe_cmpR (kEqD (K := K) rfl hr.units) (pe_ca (P := P) (w := w) (K := K) (mg := mg) (base := base) ⟨rfl, rfl, rfl, rfl, rfl⟩ hr rfl (pa_cons (pe_op op_addS (pv 1) pe_str) pa_nil)) (pe_tup (pa_cons (pe_lst (pa_cons pe_str pa_nil)) (pa_cons pe_int pa_nil))) (nomark _)))
    (pss_one (ps_ret (pe_and (pv 6) (pe_one (pe_cmpR (kEqD (K := K) rfl hr.units) (pe_ca (P := P) (w := w) (K := K) (mg := mg) (base := base) ⟨rfl, rfl, rfl, rfl, rfl⟩ hr rfl (pa_cons (pe_op op_addS (pv 1) pe_str) pa_nil)) (pe_tup (pa_cons (pe_lst (pa_cons pe_str pa_nil)) (pa_cons pe_int pa_nil))) (nomark _))))))))))), ?_⟩
  walk_at "rd"
  walk_at "if"
  all_goals rename_i c0
  · walk_at "rd"
    refine w_ca CRf (by decide) ?_
    walk_at "rd"
    refine w_refEq (σ := _) (ks := ["top"]) (i := 0) top_1.2.2 top_1.2.1 (by rw [top_1.1]; rfl) okTop (fun H1 R h => ht_1 (fun H R q => ?_) h) fun H1 s1 => ?_
    · walk_at "rd"
      exact q
    walk_at "rd"
    refine w_ca CRf (by decide) ?_
    walk_at "rd"
    refine w_refEq (σ := _) (ks := ["top"]) (i := 0) top_2.2.2 top_2.2.1 (by rw [top_2.1]; rfl) okTop (fun H1 R h => ht_1 (fun H R q => ?_) h) fun H2 s2 => ?_
    · walk_at "rd"
      exact q
    exact q _ (s1.trans s2)
  walk_at "rd"
  walk_at "if"
  all_goals rename_i c1
  · obtain ⟨D9, S⟩ := steep_D
    have er := S.rows
    have hb := steep_bad S
    obtain ⟨LS, RS⟩ := read_all S.g
    have ok9 : 10 ∉ tl (Txt.mul "  " 9 ++ ("leaf always 0 0 idle zz" : Str)) ∧ (Txt.mul "  " 9 ++ ("leaf always 0 0 idle zz" : Str)).length ≤ 640 := by decide +kernel
    obtain ⟨L2', R2⟩ := read_more S.g (r := Txt.mul "  " 9 ++ ("leaf always 0 0 idle zz" : Str)) (rs := []) (fun x hx => by rw [List.mem_singleton.mp hx]; exact ok9) (by decide)
    rw [go_bad hb, S.n_] at R2
    rw [er] at LS RS L2' R2
    have ls := ln_le LS
    have l9 : (Txt.mul "  " 9).length = 18 := by decide +kernel
    have lnl : (ln ((List.range 9).map steepS) ++ ("\n" : Str)).length ≤ 44871 := by rw [len_cat]; show _ + 1 ≤ _; omega
    have ln9 : ((ln ((List.range 9).map steepS) ++ ("\n" : Str)) ++ Txt.mul "  " 9).length ≤ 44889 := by rw [len_cat, l9]; omega
    have e9 : ((ln ((List.range 9).map steepS) ++ ("\n" : Str)) ++ Txt.mul "  " 9) ++ ("leaf always 0 0 idle zz" : Str) = ln ((List.range 9).map steepS ++ [Txt.mul "  " 9 ++ ("leaf always 0 0 idle zz" : Str)]) := by
      rw [← ln_snoc (y := ("\n" : Str) ++ (Txt.mul "  " 9 ++ ("leaf always 0 0 idle zz" : Str))) LS.ne (by rw [tl_cat]; rfl)]
      refine ext_tl ?_
      simp only [tl_cat, List.append_assoc]
    have hn1 : ("\n" : Str).length = 1 := rfl
    have l23 : ("leaf always 0 0 idle zz" : Str).length = 23 := rfl
    have l9b : (("  " : Str)).length ≤ 1000 := by decide
    walk_at "rd"
    refine w_ca CRf (by decide) ?_
    walk_at "rd"
    refine w_ca CS (by decide) ?_
    walk_at "rd"
    refine ⟨rfl, fun H1 s1 => ?_⟩
    walk_at "rd"
    refine w_mulS (k := 9) (by decide) (by decide) ?_
    have l9c : (Txt.mul "  " ((9 : Nat) : Int)).length = 18 := l9
    walk_at "rd"
    have e9 : ((ln ((List.range 9).map steepS) ++ ("\n" : Str)) ++ Txt.mul "  " ((9 : Nat) : Int)) ++ ("leaf always 0 0 idle zz" : Str) = ln ((List.range 9).map steepS ++ [Txt.mul "  " 9 ++ ("leaf always 0 0 idle zz" : Str)]) := e9
    rw [e9]
    refine ⟨_, rfl, L2'.rd.2.1, L2'.rd.2.2, fun r p H2 s2 er ep => ?_⟩
    rw [R2] at er ep
    walk_at "rd"
    refine ⟨by show 1 ≤ _; omega, fun r2 nr2 => ?_⟩
    have s3 := same_new nr2 (.lst [V.str "row"])
    have er2 : upd H2 r2 (.lst [V.str "row"]) r2 = some (.lst [V.str "row"]) := upd_same
    generalize upd H2 r2 (.lst [V.str "row"]) = H3' at s3 er2 ⊢
    walk_at "rd"
    refine ⟨by show 2 ≤ _; omega, fun p2 np2 => ?_⟩
    have s3 := same_upd (o := .tup [V.ref r2, V.int 10]) s3 np2
    have ep2 : upd H3' p2 (.tup [V.ref r2, V.int 10]) p2 = some (.tup [V.ref r2, V.int 10]) := upd_same
    have er2 := (upd_ne (o := .tup [V.ref r2, V.int 10]) (neN np2 er2)).trans er2
    generalize upd H3' p2 (.tup [V.ref r2, V.int 10]) = H3 at s3 ep2 er2 ⊢
    refine w_eqRes (ks := ["row"]) (s3 _ _ ep) (s3 _ _ er) ep2 er2 okRow ?_
    walk_at "rd"
    refine w_ca CRf (by decide) ?_
    walk_at "rd"
    refine w_ca CS (by decide) ?_
    walk_at "rd"
    refine ⟨rfl, fun H4 s4 => ?_⟩
    walk_at "rd"
    refine w_refEq (σ := _) (ks := []) (i := 0) LS.rd.2.1 LS.rd.2.2 (by rw [RS]; rfl) okNil (fun H1 R h => ht_0 (fun H R q => ?_) h) fun H5 s5 => ?_
    · walk_at "rd"
      exact q
    exact q _ ((((s1.trans s2).trans s3).trans s4).trans s5)
  walk_at "rd"
  walk_at "if"
  all_goals rename_i c2
  · obtain ⟨w15, ew, hw15⟩ : ∃ n : Nat, other % 15 = (n : Int) ∧ n < 15 := ⟨(other % 15).toNat, by omega, by omega⟩
    obtain ⟨L2', R2⟩ := read_first g hw15
    have hf := (first_ok hw15).2
    have hn1 : ("\n" : Str).length = 1 := rfl
    have hn2 : ("#\n" : Str).length = 2 := rfl
    walk_at "rd"
    refine w_ca CO (by decide) ?_
    walk_at "rd"
    rw [ew]
    refine ⟨w15, 1, "zzz", rfl, by omega, by decide, by decide, fun H1 s1 => ?_⟩
    walk_at "rd"
    refine w_ca CRf (by decide) ?_
    have ha : (("#\n" : Str) ++ oddS w15 "zzz" 1).length ≤ 642 := by rw [len_cat]; omega
    have hb : ((("#\n" : Str) ++ oddS w15 "zzz" 1) ++ ("\n" : Str)).length ≤ 643 := by rw [len_cat]; omega
    walk_at "rd"
    have e9 : ((("#\n" : Str) ++ oddS w15 "zzz" 1) ++ ("\n" : Str)) ++ ln (rowsS D) = ln ("#" :: oddS w15 "zzz" 1 :: rowsS D) := by
      rw [← ln_cons2 gne]
      rfl
    rw [e9]
    refine w_refEq (σ := _) (ks := ["row"]) (i := 2) L2'.rd.2.1 L2'.rd.2.2 (by rw [R2]; rfl) okRow (fun H1 R h => ht_1 (fun H R q => ?_) h) fun H5 s5 => ?_
    · walk_at "rd"
      exact q
    exact q _ (s1.trans s5)
  walk_at "rd"
  walk_at "if"
  all_goals rename_i c3
  · walk_at "rd"
    exact q _ (Same.refl _)
  have n64 : D.n = 64 := by have := g.wf.sz; omega
  have ok1 : 10 ∉ tl ("  leaf always 0 0 idle zzz" : Str) ∧ ("  leaf always 0 0 idle zzz" : Str).length ≤ 640 := by decide +kernel
  have ok2 : 10 ∉ tl ("  leaf always 0 0 idle z_" : Str) ∧ ("  leaf always 0 0 idle z_" : Str).length ≤ 640 := by decide +kernel
  obtain ⟨L1', R1⟩ := read_more g (r := "  leaf always 0 0 idle zzz") (rs := []) (fun x hx => by rw [List.mem_singleton.mp hx]; exact ok1) (by decide)
  obtain ⟨L2', R2⟩ := read_more g (r := "  leaf always 0 0 idle z_") (rs := []) (fun x hx => by rw [List.mem_singleton.mp hx]; exact ok2) (by decide)
  rw [go_many (many_row g PO nm n64)] at R1
  rw [go_bad (z_row D), n64] at R2
  have e1 : ln (rowsS D) ++ ("\n  leaf always 0 0 idle zzz" : Str) = ln (rowsS D ++ (["  leaf always 0 0 idle zzz"] : List Str)) := ln_snoc gne rfl
  have e2 : ln (rowsS D) ++ ("\n  leaf always 0 0 idle z_" : Str) = ln (rowsS D ++ (["  leaf always 0 0 idle z_"] : List Str)) := ln_snoc gne rfl
  have hl1 : ("\n  leaf always 0 0 idle zzz" : Str).length = 27 := rfl
  have hl2 : ("\n  leaf always 0 0 idle z_" : Str).length = 26 := rfl
  walk_at "rd"
  refine w_ca CRf (by decide) ?_
  walk_at "rd"
  rw [e1]
  refine w_refEq (σ := _) (ks := ["many"]) (i := 0) L1'.rd.2.1 L1'.rd.2.2 (by rw [R1]; rfl) okMany (fun H1 R h => ht_1 (fun H R q => ?_) h) fun H1 s1 => ?_
  · walk_at "rd"
    exact q
  walk_at "rd"
  refine w_ca CRf (by decide) ?_
  walk_at "rd"
  rw [e2]
  refine w_refEq (σ := _) (ks := ["row"]) (i := 65) L2'.rd.2.1 L2'.rd.2.2 (by rw [R2]; rfl) okRow (fun H1 R h => ht_1 (fun H R q => ?_) h) fun H2 s2 => ?_
  · walk_at "rd"
    exact q
  exact q _ (s1.trans s2)
end
end Mn

namespace Mn
open PySem PySem.Spec PyProof.Rows L2 TL
theorem kJoin {X : Cx} {K : PySem.W.Frag} {o e : Expr} {to te : TE} {apos pos : Pos} (hK : X.K = K) (ho : PE X o to) (he : PE X e te) (hs : starEach [e] X.env = [(false, eval e X.env)] := by rfl) (hbase : attributeBase o "join" X.env (eval o X.env) = eval o X.env := by rfl) (hline : (apos.endLine == pos.line) = true := by rfl) :
    PE X (.Call (.Attribute o "join" apos) [e] [] pos) (tM1 (fun x xs H Q => ∃ a p, ∃ ys : List Str, x = .str a ∧ xs = [.ref p] ∧ (SqL K H p (ys.map V.str) ∨ SqT K H p (ys.map V.str)) ∧ (ys.map (·.length)).sum + ys.length * a.length ≤ 16777216 ∧ Q (.str (Txt.join a ys)) H) to te) := by
  subst hK
  exact pe_join ho he hs hbase hline
theorem kind_word (D : TreeD) (i : Nat) : (shW (D.sh i))[0]? = some (if (D.sh i).kind < 3 then ("leaf" : Str) else "minder") := by
  unfold shW
  split
  · unfold wordsOf
    split
    · omega
    · rfl
  · unfold minWords
    rfl
theorem leaf_word (D : TreeD) (i : Nat) : decide (V.str (if (D.sh i).kind < 3 then ("leaf" : Str) else "minder") = V.str "leaf") = decide ((D.sh i).kind < 3) := by
  by_cases c : (D.sh i).kind < 3
  · rw [if_pos c, decide_eq_true rfl, decide_eq_true c]
  · rw [if_neg c, decide_eq_false c]
    exact decide_eq_false (fun z => (by decide : ¬ ("minder" : Str) = "leaf") (V.str.inj z))
theorem dps_at {D : TreeD} (W : D.WF) {i : Nat} (hi : i < D.n) : (D.dps.map fun n : Nat => V.int n)[i]? = some (.int (D.dp i : Int)) := by
  have hi2 : i < D.dps.length := by rw [W.ld]; exact hi
  unfold TreeD.dp
  rw [List.getElem?_map, List.getD_eq_getElem?_getD, List.getElem?_eq_getElem hi2]
  rfl
theorem names_at {D : TreeD} {i : Nat} (hi : i < D.n) : (D.shs.map fun s => V.str s.name)[i]? = some (.str (D.sh i).name) := by
  have hi2 : i < D.shs.length := hi
  unfold TreeD.sh
  rw [List.getElem?_map, List.getD_eq_getElem?_getD, List.getElem?_eq_getElem hi2]
  rfl
section
variable {P : Program} {w : World} {K : PySem.W.Frag} {mg : Str → Option Value} {base : Heap} {cB cM cN CT : Addr} {cls : Nat → Addr}
def spLaw (K : PySem.W.Frag) : Sp := fun vs H Q _ => ∃ (a : Addr) (ns : List Int), vs = [.ref a] ∧ SqL K H a (ns.map V.int) ∧ ns.length ≤ 63 ∧ ∀ H', Q (.bl true) H'
theorem ok_law {f : Addr} {fd : FuncData} (F : Fun K "law" "law" s_law f fd) (T : Bt mg) (CC : Cal P w K mg base CX0 "_law_cell_at" 1 ["_law_script", "_law_k"] [] (spCell K)) (CTr : Cal P w K mg base CX0 "_law_tree" 2 ["_law_script", "_law_first", "_law_count", "_law_mark"] [] (spTree K))
    (CO : Cal P w K mg base CX0 "_law_odd" 1 ["_law_way", "_law_name_here", "_law_deep"] [] spOdd) (CP : Cal P w K mg base CX0 "_law_put_in" 9 ["_law_rows", "_law_odd_here", "_law_at", "_law_other"] [] spPut) (CS : Cal P w K mg base CX0 "_law_special" 9 ["_law_way", "_law_good", "_law_count", "_law_other"] [] spSpecial)
    (CR : Cal P w K mg base CX0 "read" 7 ["text"] [] (fun vs H Q _ => spRead CT cls cB cM cN vs H Q E0)) (CW : Cal P w K mg base CX0 "written" 3 ["tree"] [] (spWritten CT cls)) : FnOk P w K mg base CX0 10 f fd ["_law_script"] (spLaw K) := by
  refine F.ok sc_law (fun vs H Q E h => ?_) (fun cdv A0 outer s0 H vs Q E hr h => ?_)
  · obtain ⟨a0, ns, rfl, _⟩ := h
    rfl
  obtain ⟨a0, ns, rfl, hS, hl, q⟩ := h
  have zl := PySem.sizeLine_eq
  refine ⟨_, (pss_cons (ps_set (i := 1) sc_law.nd rfl (Or.inl rfl) (pe_op op_add pe_int (pe_op op_mod (pe_ca (P := P) (w := w) (K := K) (mg := mg) (base := base) ⟨rfl, rfl, rfl, rfl, rfl⟩ hr rfl (pa_cons (pv 0) (pa_cons pe_int pa_nil))) pe_int)))
    (C8.pss_cut (ps_if (pt_cmpR op_eq (pe_op op_mod (pe_op op_fdiv (pe_ca (P := P) (w := w) (K := K) (mg := mg) (base := base) ⟨rfl, rfl, rfl, rfl, rfl⟩ hr rfl (pa_cons (pv 0) (pa_cons pe_int pa_nil))) pe_int) pe_int) pe_int (nomark _)) (pss_one (ps_set (i := 1) sc_law.nd rfl (Or.inl rfl) pe_int)) pss_nil)
    (pss_cons (ps_asg (pe_ca (P := P) (w := w) (K := K) (mg := mg) (base := base) ⟨rfl, rfl, rfl, rfl, rfl⟩ hr rfl (pa_cons (pv 0) (pa_cons pe_int (pa_cons (pv 1) (pa_cons (pe_ca (P := P) (w := w) (K := K) (mg := mg) (base := base) ⟨rfl, rfl, rfl, rfl, rfl⟩ hr rfl (pa_cons (pv 0) (pa_cons pe_int pa_nil))) pa_nil))))) (kTup (K := K) rfl rfl (pgs_cons (pg_name (i := 2) sc_law.nd rfl (Or.inr rfl)) (pgs_cons (pg_name (i := 3) sc_law.nd rfl (Or.inl rfl)) (pgs_cons (pg_name (i := 4) sc_law.nd rfl (Or.inr rfl)) (pgs_cons (pg_name (i := 5) sc_law.nd rfl (Or.inr rfl)) pgs_nil))))))
    (pss_cons (ps_setLc (i := 6) (own := [("_law_k", 7)]) (g := gName 7) (by rfl) sc_law.nd rfl rfl (sw_true rfl rfl rfl (by decide +kernel)) (pi_range1 rfl T.range (pa_cons (pv 1) pa_nil)) (blkOk_by (own := [("_law_k", 7)]) (N := ["_law_script", "_law_count", "_law_depths", "_law_elders", "_law_words", "_law_names", "_law_rows", "_law_k", "_law_good", "_law_many", "_law_cell", "_law_other", "_law_at", "_law_deep", "_law_odd_here", "_law_way"]) (sc := defScope s_law) (by decide +kernel)) (fun _ _ _ _ _ => pg_name (i := 7) sc_law.nd rfl (Or.inl rfl)) (fun _ _ _ _ _ => pts_nil) (fun _ _ _ _ _ => by exact (pe_op op_addS (pe_op op_mul_str pe_str (pe_ix (kIxL (K := K) rfl) (pv 2) (pv 7) (fun _ _ => rfl))) (kJoin (K := K) rfl pe_str (pe_op op_cat (pe_ix (kIxL (K := K) rfl) (pv 4) (pv 7) (fun _ _ => rfl)) (pe_lst (pa_cons (pe_ix (kIxL (K := K) rfl) (pv 5) (pv 7) (fun _ _ => rfl)) pa_nil)))))))
    (pss_cons (ps_set (i := 8) sc_law.nd rfl (Or.inl rfl) (pe_join pe_str (pv 6)))
    (pss_cons (ps_set (i := 9) sc_law.nd rfl (Or.inl rfl) pe_int)
    (C8.pss_cut (ps_if (pt_cmpR op_eq (pv 1) pe_int (nomark _)) (pss_one (ps_set (i := 9) sc_law.nd rfl (Or.inl rfl) pe_int)) pss_nil)
    (pss_cons (ps_for PassesOwn.never rfl (pi_range1 rfl T.range (pa_cons (pv 9) pa_nil)) (pg_name (i := 7) sc_law.nd rfl (Or.inl rfl)) (pss_cons (ps_set (i := 10) sc_law.nd rfl (Or.inl rfl) (pe_op op_add (pe_ca (P := P) (w := w) (K := K) (mg := mg) (base := base) ⟨rfl, rfl, rfl, rfl, rfl⟩ hr rfl (pa_cons (pv 0) (pa_cons pe_int pa_nil))) (pe_op op_mul pe_int (pv 7))))
    (pss_cons (ps_set (i := 11) sc_law.nd rfl (Or.inl rfl) (pe_op op_add (pe_ca (P := P) (w := w) (K := K) (mg := mg) (base := base) ⟨rfl, rfl, rfl, rfl, rfl⟩ hr rfl (pa_cons (pv 0) (pa_cons pe_int pa_nil))) (pv 7)))
    (pss_cons (ps_set (i := 12) sc_law.nd rfl (Or.inl rfl) (pe_op op_add pe_int (pe_op op_mod (pv 11) (pv 1))))
    (pss_cons (ps_set (i := 13) sc_law.nd rfl (Or.inl rfl) (pe_op op_add (pe_ix (kIxL (K := K) rfl) (pv 2) (pe_op op_sub (pv 12) pe_int) (fun _ _ => rfl)) pe_int))
    (C8.pss_cut (ps_if (pt_cmpR op_eq (pe_ix (kIxL (K := K) rfl) (pe_ix (kIxL (K := K) rfl) (pv 4) (pe_op op_sub (pv 12) pe_int) (fun _ _ => rfl)) pe_int (fun _ _ => rfl)) pe_str (nomark _)) (pss_one (ps_set (i := 13) sc_law.nd rfl (Or.inl rfl) (pe_op op_add (pe_ix (kIxL (K := K) rfl) (pv 2) (pe_op op_sub (pv 12) pe_int) (fun _ _ => rfl)) pe_int))) pss_nil)
    (pss_cons (ps_set (i := 14) sc_law.nd rfl (Or.inl rfl) (pe_ca (P := P) (w := w) (K := K) (mg := mg) (base := base) ⟨rfl, rfl, rfl, rfl, rfl⟩ hr rfl (pa_cons (pe_op op_mod (pv 10) pe_int) (pa_cons (pe_ix (kIxL (K := K) rfl) (pv 5) (pe_op op_mod (pe_ca (P := P) (w := w) (K := K) (mg := mg) (base := base) ⟨rfl, rfl, rfl, rfl, rfl⟩ hr rfl (pa_cons (pv 0) (pa_cons pe_int pa_nil))) (pv 12)) (fun _ _ => rfl)) (pa_cons (pv 13) pa_nil)))))
    (pss_one (ps_if (pt_not (pt_val (pe_ca (P := P) (w := w) (K := K) (mg := mg) (base := base) ⟨rfl, rfl, rfl, rfl, rfl⟩ hr rfl (pa_cons (pv 6) (pa_cons (pv 14) (pa_cons (pv 12) (pa_cons (pe_op op_add (pe_op op_fdiv (pv 10) pe_int) (pv 7)) pa_nil))))))) (pss_one (ps_ret pe_bl)) pss_nil)))))))))
    (pss_cons (ps_set (i := 15) sc_law.nd rfl (Or.inl rfl) (pe_op op_mod (pe_ca (P := P) (w := w) (K := K) (mg := mg) (base := base) ⟨rfl, rfl, rfl, rfl, rfl⟩ hr rfl (pa_cons (pv 0) (pa_cons pe_int pa_nil))) pe_int))
    (pss_cons (ps_if (PW.pt (pw_or (pt_not (pt_val (pe_ca (P := P) (w := w) (K := K) (mg := mg) (base := base) ⟨rfl, rfl, rfl, rfl, rfl⟩ hr rfl (pa_cons (pv 15) (pa_cons (pv 8) (pa_cons (pv 1) (pa_cons (pe_ca (P := P) (w := w) (K := K) (mg := mg) (base := base) ⟨rfl, rfl, rfl, rfl, rfl⟩ hr rfl (pa_cons (pv 0) (pa_cons pe_int pa_nil))) pa_nil))))))) (pw_or1 (pt_not (pt_val (pe_ca (P := P) (w := w) (K := K) (mg := mg) (base := base) ⟨rfl, rfl, rfl, rfl, rfl⟩ hr rfl (pa_cons pe_int (pa_cons (pv 8) (pa_cons (pv 1) (pa_cons pe_int pa_nil)))))))))) (pss_one (ps_ret pe_bl)) pss_nil)
    (pss_one (ps_ret (pe_cmpR op_eq (pe_ca (P := P) (w := w) (K := K) (mg := mg) (base := base) ⟨rfl, rfl, rfl, rfl, rfl⟩ hr rfl (pa_cons (pe_ca (P := P) (w := w) (K := K) (mg := mg) (base := base) ⟨rfl, rfl, rfl, rfl, rfl⟩ hr rfl (pa_cons (pv 8) pa_nil)) pa_nil)) (pv 8) (nomark _)))))))))))))), ?_⟩
  walk_at "rd"
  refine w_ca CC (by decide) ?_
  walk_at "rd"
  refine ⟨a0, ns, 0, rfl, hS, by omega, ?_⟩
  walk_at "rd"
  obtain ⟨c14, ec, hc1, hc14⟩ : ∃ n : Nat, (1 : Int) + cellAt ns 0 % 14 = (n : Int) ∧ 1 ≤ n ∧ n ≤ 14 := ⟨((1 : Int) + cellAt ns 0 % 14).toNat, by omega, by omega, by omega⟩
  rw [ec]
  refine w_cut (fun σ H2 => ∃ cnt : Nat, H2 = H ∧ 1 ≤ cnt ∧ cnt ≤ 64 ∧ σ = [some (.ref a0), some (.int (cnt : Int)), none, none, none, none, none, none, none, none, none, none, none, none, none, none]) ?_ (fun σ H2 hm => ?_)
  · walk_at "rd"
    refine w_ca CC (by decide) ?_
    walk_at "rd"
    refine ⟨a0, ns, 0, rfl, hS, by omega, ?_⟩
    walk_at "rd"
    walk_at "if"
    all_goals rename_i c
    · walk_at "rd"
      exact ⟨64, rfl, by decide, by decide, rfl⟩
    · walk_at "rd"
      exact ⟨c14, rfl, hc1, by omega, rfl⟩
  obtain ⟨cnt, rfl, h1, h64, rfl⟩ := hm
  walk_at "rd"
  refine w_ca CTr (by decide) ?_
  walk_at "rd"
  refine w_ca CC (by decide) ?_
  walk_at "rd"
  refine ⟨a0, ns, 1, rfl, hS, by omega, ?_⟩
  walk_at "rd"
  refine ⟨a0, ns, 4, cnt, cellAt ns 1, rfl, hS, by omega, h1, h64, fun D t4 H1 G nm ⟨pp, PO⟩ hn s1 LT1 => ?_⟩
  have W := G.wf
  have pos := G.pos
  have sz := W.sz
  obtain ⟨x, y, z, v, ws, ht, ha, hb, hc, lw, hw, hd⟩ := LT1
  subst hn
  walk_at "rd"
  refine w_lcR (fun C i H' => Same H1 H' ∧ H' C = some (.lst (((List.range i).map (rowS D)).map V.str))) (by omega) (by omega) (fun C hC => ⟨same_new hC _, upd_same⟩) (fun C i H' hC hi hm => ?_) (fun rr H' hC hm => ?_)
  · obtain ⟨t1, er⟩ := hm
    have hi : i < D.n := by omega
    have ok := W.ok _ (sh_mem hi)
    have d8 := W.d8 i hi
    have hp : ws[i]? = some ws[i] := List.getElem?_eq_getElem (by omega)
    generalize ws[i] = p at hp
    have hpw := t1 _ _ (hw i p hp)
    rw [Int.zero_add]
    walk_at "rd"
    refine w_ixL (v := .int (D.dp i : Int)) (SqL.of (t1 _ _ ha)) (at_nat (i := i) rfl (dps_at W hi)) ?_
    refine w_mulS (by decide) (by omega) ?_
    have tt1 : tl (Txt.mul ("  " : Str) ((D.dp i : Nat) : Int)) = List.replicate (2 * D.dp i) 32 := tl_mul2 32 (D.dp i)
    generalize Txt.mul ("  " : Str) ((D.dp i : Nat) : Int) = y1 at tt1
    have l1 : y1.length ≤ 16 := by rw [len_tl, tt1, List.length_replicate]; omega
    walk_at "rd"
    refine w_ixL (v := .ref p) (SqL.of (t1 _ _ hc)) (at_nat (i := i) rfl (by rw [List.getElem?_map, hp]; rfl)) ?_
    walk_at "rd"
    refine w_ixL (v := .str (D.sh i).name) (SqL.of (t1 _ _ hd)) (at_nat (i := i) rfl (names_at hi)) ?_
    walk_at "rd"
    refine ⟨by walk_at "sz", fun e he => ?_⟩
    have sl := shW_len ok
    rw [List.length_append, List.length_singleton] at sl
    refine w_catN (zs := (shW (D.sh i) ++ [(D.sh i).name]).map V.str) (Same.refl _) hpw he (by rw [show ([V.str (D.sh i).name] : List V) = ([(D.sh i).name] : List Str).map V.str from rfl, ← List.map_append]) (by rw [List.length_map]; show _ + 1 ≤ _; omega) fun g4 H4 s4 ed => ?_
    have sw := sum_le _ (shW_len ok).1
    walk_at "rd"
    refine ⟨_, g4, shW (D.sh i) ++ [(D.sh i).name], rfl, rfl, .inl (SqL.of ed), ?_, ?_⟩
    · rw [List.length_append, List.length_singleton] at sw ⊢
      show _ + _ * 1 ≤ _
      omega
    have t2 := tl_joinT " " (shW (D.sh i) ++ [(D.sh i).name])
    have l2 : (Txt.join " " (shW (D.sh i) ++ [(D.sh i).name])).length ≤ 7 * 13 := by
      rw [len_tl, t2]
      refine Nat.le_trans (joinL_len (m := 12) _ _ fun p hp => ?_) ?_
      · obtain ⟨x, hx, rfl⟩ := List.mem_map.mp hp
        rw [← len_tl]
        exact (shW_len ok).1 x hx
      · rw [List.length_map]
        exact Nat.mul_le_mul (shW_len ok).2 (Nat.le_refl _)
    generalize Txt.join " " (shW (D.sh i) ++ [(D.sh i).name]) = y2 at t2 l2
    refine w_addS (by omega) ?_
    refine ⟨_, s4 _ _ er, by rw [List.length_map, List.length_map, List.length_range]; omega, same_mut (t1.trans s4) hC, ?_⟩
    have e9 : y1 ++ y2 = rowS D i := by
      rw [← mkS_tl (y1 ++ y2), tl_append, tt1, t2]
      rfl
    rw [upd_same, List.range_succ, List.map_append, List.map_append, e9]
    rfl
  obtain ⟨s2, er⟩ := hm
  rw [Int.toNat_natCast] at er
  have er : H' rr = some (.lst ((rowsS D).map V.str)) := er
  obtain ⟨LA, RA⟩ := read_all G
  have s12 := s1.trans s2
  have ha := s2 _ _ ha
  have hc := s2 _ _ hc
  have hd := s2 _ _ hd
  have hw := fun i w h => s2 _ _ (hw i w h)
  clear s2 hC ht
  generalize H' = H2 at *
  walk_at "rd"
  refine ⟨"\n", rr, rowsS D, rfl, rfl, .inl (SqL.of er), LA.sum, ?_⟩
  walk_at "rd"
  have el : Txt.join "\n" (rowsS D) = ln (rowsS D) := rfl
  rw [el]
  refine w_cut (fun σ H3 => ∃ m : Nat, H3 = H2 ∧ m ≤ 6 ∧ σ = [some (.ref a0), some (.int (D.n : Int)), some (.ref x), some (.ref y), some (.ref z), some (.ref v), some (.ref rr), none, some (.str (ln (rowsS D))), some (.int (m : Int)), none, none, none, none, none, none]) ?_ (fun σ H3 hm => ?_)
  · walk_at "rd"
    walk_at "if"
    all_goals rename_i c
    · walk_at "rd"
      exact ⟨1, rfl, by decide, rfl⟩
    · walk_at "rd"
      exact ⟨6, rfl, by decide, rfl⟩
  obtain ⟨m, rfl, m6, rfl⟩ := hm
  walk_at "rd"
  refine w_forR (fun k σ H' => ∃ (v7 v10 v11 v12 v13 v14 : Option V), Same H3 H' ∧ σ = [some (.ref a0), some (.int (D.n : Int)), some (.ref x), some (.ref y), some (.ref z), some (.ref v), some (.ref rr), v7, some (.str (ln (rowsS D))), some (.int (m : Int)), v10, v11, v12, v13, v14, none]) (by omega) (by omega) ⟨_, _, _, _, _, _, Same.refl _, rfl⟩ (fun k σ H' hk hm => ?_) (fun σ H' hm => ?_)
  · obtain ⟨v7, v10, v11, v12, v13, v14, s3, rfl⟩ := hm
    rw [Int.zero_add]
    have hS3 := (s12.trans s3).seq hS
    walk_at "rd"
    refine w_ca CC (by decide) ?_
    walk_at "rd"
    refine ⟨a0, ns, 2, rfl, hS3, by omega, ?_⟩
    walk_at "rd"
    refine w_I (.inl ⟨by decide, by decide⟩) ?_
    walk_at "rd"
    refine w_ca CC (by decide) ?_
    walk_at "rd"
    refine ⟨a0, ns, 3, rfl, hS3, by omega, ?_⟩
    walk_at "rd"
    generalize cellAt ns 2 + 5 * (k : Int) = cell
    generalize cellAt ns 3 + (k : Int) = other
    refine w_I (by show (0 : Int) < (D.n : Int); omega) ?_
    obtain ⟨a, ea, a1, an⟩ : ∃ a : Nat, (1 : Int) + other % (D.n : Int) = (a : Int) ∧ 1 ≤ a ∧ a ≤ D.n := by
      have e1 := Int.emod_nonneg other (show (D.n : Int) ≠ 0 by omega)
      have e2 := Int.emod_lt_of_pos other (show (0 : Int) < (D.n : Int) by omega)
      exact ⟨((1 : Int) + other % (D.n : Int)).toNat, by omega, by omega, by omega⟩
    walk_at "rd"
    rw [ea]
    have ha1 : a - 1 < D.n := by omega
    have d8 := W.d8 (a - 1) ha1
    walk_at "rd"
    refine w_ixL (v := .int (D.dp (a - 1) : Int)) (SqL.of (s3 _ _ ha)) (at_nat (i := a - 1) (by omega) (dps_at W ha1)) ?_
    walk_at "rd"
    have hp : ws[a - 1]? = some ws[a - 1] := List.getElem?_eq_getElem (by omega)
    generalize ws[a - 1] = p at hp
    have hpw := s3 _ _ (hw (a - 1) p hp)
    refine w_cut (fun σ H4 => H4 = H' ∧ σ = [some (.ref a0), some (.int (D.n : Int)), some (.ref x), some (.ref y), some (.ref z), some (.ref v), some (.ref rr), some (.int (k : Int)), some (.str (ln (rowsS D))), some (.int (m : Int)), some (.int cell), some (.int other), some (.int (a : Int)), some (.int (deepOf D a : Int)), v14, none]) ?_ (fun σ H4 hm => ?_)
    · walk_at "rd"
      refine w_ixL (v := .ref p) (SqL.of (s3 _ _ hc)) (at_nat (i := a - 1) (by omega) (by rw [List.getElem?_map, hp]; rfl)) ?_
      walk_at "rd"
      refine w_ixL (v := .str (if (D.sh (a - 1)).kind < 3 then ("leaf" : Str) else "minder")) (SqL.of hpw) (at_nat (i := 0) rfl (by rw [List.getElem?_map, kind_word]; rfl)) ?_
      walk_at "rd"
      rw [leaf_word]
      walk_at "if"
      all_goals rename_i c
      · walk_at "rd"
        refine w_ixL (v := .int (D.dp (a - 1) : Int)) (SqL.of (s3 _ _ ha)) (at_nat (i := a - 1) (by omega) (dps_at W ha1)) ?_
        walk_at "rd"
        refine ⟨rfl, ?_⟩
        have : (D.dp (a - 1) : Int) + 1 = (deepOf D a : Int) := by unfold deepOf; rw [if_pos c]; omega
        rw [this]
      · walk_at "rd"
        refine ⟨rfl, ?_⟩
        have : (D.dp (a - 1) : Int) + 2 = (deepOf D a : Int) := by unfold deepOf; rw [if_neg c]; omega
        rw [this]
    obtain ⟨rfl, rfl⟩ := hm
    obtain ⟨wy, ew, hwy⟩ : ∃ n : Nat, cell % 29 = (n : Int) ∧ n < 29 := ⟨(cell % 29).toNat, by omega, by omega⟩
    walk_at "rd"
    refine w_ca CO (by decide) ?_
    walk_at "rd"
    refine w_ca CC (by decide) ?_
    walk_at "rd"
    refine ⟨a0, ns, 4, rfl, hS3, by omega, ?_⟩
    walk_at "rd"
    refine w_I (by show (0 : Int) < (a : Int); omega) ?_
    obtain ⟨j, ej, hj⟩ : ∃ j : Nat, cellAt ns 4 % (a : Int) = (j : Int) ∧ j < a := by
      have e1 := Int.emod_nonneg (cellAt ns 4) (show (a : Int) ≠ 0 by omega)
      have e2 := Int.emod_lt_of_pos (cellAt ns 4) (show (0 : Int) < (a : Int) by omega)
      exact ⟨(cellAt ns 4 % (a : Int)).toNat, by omega, by omega⟩
    rw [ej]
    refine w_ixL (v := .str (D.sh j).name) (SqL.of (s3 _ _ hd)) (at_nat (i := j) rfl (names_at (by omega))) ?_
    walk_at "rd"
    rw [ew]
    have fit := (W.ok _ (sh_mem (show j < D.n by omega))).nm
    have dl : deepOf D a ≤ D.dp (a - 1) + 2 := by unfold deepOf; split <;> omega
    refine ⟨wy, deepOf D a, (D.sh j).name, rfl, hwy, by rw [len_tl]; exact fit_len fit, by omega, fun H5 s5 => ?_⟩
    walk_at "rd"
    refine w_ca CP (by decide) ?_
    walk_at "rd"
    refine ⟨D, rr, wy, j, a, _, rfl, G, s5 _ _ (s3 _ _ er), a1, an, hj, hwy, fun H6 s6 => ?_⟩
    refine w_bl ?_
    rw [Bool.not_true]
    walk_at "rd"
    exact ⟨_, _, _, _, _, _, (s3.trans s5).trans s6, rfl⟩
  · obtain ⟨v7, v10, v11, v12, v13, v14, s3, rfl⟩ := hm
    have hS3 := (s12.trans s3).seq hS
    walk_at "rd"
    refine w_ca CC (by decide) ?_
    walk_at "rd"
    refine ⟨a0, ns, 3, rfl, hS3, by omega, ?_⟩
    walk_at "rd"
    obtain ⟨wy, ew, hwy⟩ : ∃ n : Nat, cellAt ns 3 % 3 = (n : Int) ∧ n < 3 := ⟨(cellAt ns 3 % 3).toNat, by omega, by omega⟩
    rw [ew]
    refine w_ca CS (by decide) ?_
    walk_at "rd"
    refine w_ca CC (by decide) ?_
    walk_at "rd"
    refine ⟨a0, ns, 4, rfl, hS3, by omega, ?_⟩
    walk_at "rd"
    refine ⟨D, _, pp, wy, _, rfl, G, nm, PO, by omega, fun H4 s4 => ?_⟩
    refine w_bl ?_
    rw [Bool.not_true]
    walk_at "rd"
    refine w_ca CS (by decide) ?_
    walk_at "rd"
    refine ⟨D, _, pp, 3, _, rfl, G, nm, PO, by omega, fun H5 s5 => ?_⟩
    refine w_bl ?_
    rw [Bool.not_true]
    walk_at "rd"
    refine w_ca CW (by decide) ?_
    walk_at "rd"
    refine w_ca CR (by decide) ?_
    walk_at "rd"
    refine ⟨ln (rowsS D), rfl, LA.rd.2.1, LA.rd.2.2, fun Df e A H6 s6 R W6 n0 fr => ?_, fun k e => ?_, fun e => ?_, fun e => ?_⟩
    · rw [RA] at e
      injection e with e
      subst e
      walk_at "rd"
      refine ⟨A, D, rfl, R.toTR, W6, fun yy H7 s7 ey => ?_⟩
      walk_at "rd"
      have ey2 : yy = ln (rowsS D) := by
        refine ext_ln ?_
        rw [ey, writtenL, List.map_map]
        rfl
      rw [ey2, decide_eq_true rfl]
      exact q _
    · rw [RA] at e
      cases e
    · rw [RA] at e
      cases e
    · rw [RA] at e
      cases e
end
end Mn

namespace Mn
open PySem PySem.Spec PyProof.Rows L2 TL
/-- the classes of the six kinds -/
def clsH (a b c d e f : Addr) (k : Nat) : Addr := if k = 0 then a else if k = 1 then b else if k = 2 then c else if k = 3 then d else if k = 4 then e else f
section
variable {P : Program} {w : World} {K : PySem.W.Frag} {mg : Str → Option Value} {base : Heap} {a b c d e f : Addr}
theorem kdC_of (c0 : ClsF K a leafN) (c1 : ClsF K b manyN) (c2 : ClsF K c manyN) (c3 : ClsF K d minN) (c4 : ClsF K e minN) (c5 : ClsF K f minN) : KdC K (clsH a b c d e f) := ⟨fun k hk => by
  rcases kind6 hk with rfl | rfl | rfl | rfl | rfl | rfl
  · exact c0
  · exact c1
  · exact c2
  · exact c3
  · exact c4
  · exact c5⟩
theorem kdL_of (m0 : Mth P w K mg base CX0 a "leaf" 1 ["self"] [] (spTruth a true)) (m1 : Mth P w K mg base CX0 b "leaf" 1 ["self"] [] (spTruth b true)) (m2 : Mth P w K mg base CX0 c "leaf" 1 ["self"] [] (spTruth c true)) (m3 : Mth P w K mg base CX0 d "leaf" 1 ["self"] [] (spTruth d false)) (m4 : Mth P w K mg base CX0 e "leaf" 1 ["self"] [] (spTruth e false))
    (m5 : Mth P w K mg base CX0 f "leaf" 1 ["self"] [] (spTruth f false)) : KdL P w K mg base (clsH a b c d e f) := ⟨fun k hk => by
  rcases kind6 hk with rfl | rfl | rfl | rfl | rfl | rfl
  · exact m0
  · exact m1
  · exact m2
  · exact m3
  · exact m4
  · exact m5⟩
end
theorem ClsF.sub6 {K : PySem.W.Frag} {C : Addr} {fs gs : List Str} (c : ClsF K C fs) (h : ∀ g ∈ gs, g ∈ fs) : ClsF K C gs := ⟨c.cl, fun g hg => c.no g (h g hg)⟩
section
variable {P : Program} {w : World} {K : PySem.W.Frag} {mg : Str → Option Value} {base : Heap} {a b c d e f : Addr}
theorem kdW_of (m0 : Mth P w K mg base CX0 a "words" 2 ["self"] [] (spWords a 0)) (m1 : Mth P w K mg base CX0 b "words" 2 ["self"] [] (spWords b 1)) (m2 : Mth P w K mg base CX0 c "words" 2 ["self"] [] (spWords c 2)) (m3 : Mth P w K mg base CX0 d "words" 2 ["self"] [] (spMinWords d "one")) (m4 : Mth P w K mg base CX0 e "words" 2 ["self"] [] (spMinWords e "all"))
    (m5 : Mth P w K mg base CX0 f "words" 2 ["self"] [] (spMinWords f "rest")) : KdW P w K mg base (clsH a b c d e f) := ⟨fun k hk => by
  have lf : ∀ {C : Addr} {k : Nat}, k < 3 → Mth P w K mg base CX0 C "words" 2 ["self"] [] (spWords C (k : Int)) → Mth P w K mg base CX0 C "words" 2 ["self"] [] (spWd C k) := fun hk M => by
    obtain ⟨f, fd, ds, F, r⟩ := M.ex
    exact ⟨⟨f, fd, ds, ⟨fun vs H Q E h => F.len _ _ _ _ (wd_leaf hk h), fun A o s H args us vs Q E hr hx B V h => F.run A o s H args us vs Q E hr hx B V (wd_leaf hk h)⟩, r⟩⟩
  have mn : ∀ {C : Addr} {k : Nat}, ¬ k < 3 → Mth P w K mg base CX0 C "words" 2 ["self"] [] (spMinWords C (wayS k)) → Mth P w K mg base CX0 C "words" 2 ["self"] [] (spWd C k) := fun hk M => by
    obtain ⟨f, fd, ds, F, r⟩ := M.ex
    exact ⟨⟨f, fd, ds, ⟨fun vs H Q E h => F.len _ _ _ _ (wd_min hk h), fun A o s H args us vs Q E hr hx B V h => F.run A o s H args us vs Q E hr hx B V (wd_min hk h)⟩, r⟩⟩
  rcases kind6 hk with rfl | rfl | rfl | rfl | rfl | rfl
  · exact lf (k := 0) (by decide) m0
  · exact lf (k := 1) (by decide) m1
  · exact lf (k := 2) (by decide) m2
  · exact mn (k := 3) (by decide) m3
  · exact mn (k := 4) (by decide) m4
  · exact mn (k := 5) (by decide) m5⟩
end
end Mn

namespace Mn
open PySem PySem.Spec PyProof.Rows L2
theorem clsF_nil {K : PySem.W.Frag} {C : Addr} : ∀ f ∈ ([] : List Str), NoAttr K C f := fun _ h => absurd h List.not_mem_nil
theorem clsF_cons {K : PySem.W.Frag} {C : Addr} {g : Str} {r : List Str} (a : PySem.W.findIn K (.ref C) g = some none) (b : ∀ f ∈ r, NoAttr K C f) : ∀ f ∈ g :: r, NoAttr K C f := fun f h => by
  rcases List.mem_cons.mp h with e | e
  · subst e
    exact a
  · exact b f e
/-! ### the small head: what is looked at behind the top: each def, and so many Bools -/
theorem fun_of {K : PySem.W.Frag} {x qual : Str} {st : Stmt} {f : Addr} {fd : FuncData} (F : FunD K x qual (defArgs st) (defBody st) (defScope st) [] [] f fd) : Fun K x qual st f fd := by
  obtain ⟨oc, od, dV, kV, doc, pm, an, cdv, ct, osl, rfl, lk, hcd, hD, _⟩ := F.ex
  rcases hD with ⟨_, rfl⟩ | ⟨e, _⟩
  · exact ⟨⟨_, _, _, _, _, _, _, _, _, rfl, lk, hcd⟩, F.kp⟩
  · exact absurd rfl e
def fcB (K : PySem.W.Frag) (C : Addr) (m : Str) (f : Addr) : Bool := match PySem.W.findCls K (.ref C) (.type "type") m with
  | some (.val (.ref a)) => decide (a = f)
  | _ => false
theorem fcB_ok {K : PySem.W.Frag} {C : Addr} {m : Str} {f : Addr} (h : fcB K C m f = true) : PySem.W.findCls K (.ref C) (.type "type") m = some (.val (.ref f)) := by
  unfold fcB at h
  split at h
  · rename_i a e
    rw [e, of_decide_eq_true h]
  · cases h
def fcV (K : PySem.W.Frag) (C : Addr) (m : Str) (f : String) : Bool := match PySem.W.findCls K (.ref C) (.type "type") m with
  | some (.val (.builtin a)) => decide (a = f)
  | _ => false
theorem fcV_ok {K : PySem.W.Frag} {C : Addr} {m : Str} {f : String} (h : fcV K C m f = true) : PySem.W.findCls K (.ref C) (.type "type") m = some (.val (.builtin f)) := by
  unfold fcV at h
  split at h
  · rename_i a e
    rw [e, of_decide_eq_true h]
  · cases h
def oexB (K : PySem.W.Frag) (C : Addr) : Bool := match K.lookup C with
  | some ⟨.type "type", _, .cls ⟨_, _, .ref C' :: bm, _, _, hd, _, _, _, _, del⟩, sl⟩ => (match sl.toList with
    | [_, _, _, _, some (.builtin n), _] => C' == C && n == "ValueError.__new__" && !del && hd && PySem.HandSPX.refsVE bm
    | _ => false)
  | _ => false
theorem oexB_ok {K : PySem.W.Frag} {C : Addr} (q : oexB K C = true) : ∃ nm q N bs bm sn sub ab col dd k0 k1 k2 k3 k5, K.lookup C = some (excClassObj nm q C N bs bm true sn sub ab col dd k0 k1 k2 k3 k5 "ValueError.__new__") ∧ PySem.HandSPX.refsVE bm = true := by
  unfold oexB at q
  split at q
  · rename_i dd nm bs C' bm ns qn hd sn sub ab col del sl ho
    split at q
    · rename_i k0 k1 k2 k3 n k5 hs
      simp only [Bool.and_eq_true, beq_iff_eq, Bool.not_eq_true'] at q
      obtain ⟨⟨⟨⟨rfl, rfl⟩, rfl⟩, rfl⟩, ht⟩ := q
      have hsl : sl = #[k0, k1, k2, k3, some (.builtin "ValueError.__new__"), k5] := by
        obtain ⟨l⟩ := sl
        simp only at hs
        rw [hs]
      subst hsl
      exact ⟨nm, qn, ns, bs, bm, sn, sub, ab, col, dd, k0, k1, k2, k3, k5, ho, ht⟩
    · cases q
  · cases q
abbrev AlM : Type := He.AlD × List Bool
def obsM (fn : List He.DefD) (ex : List (PySem.W.Frag → Bool)) (K : PySem.W.Frag) : AlM := (He.obsD [] fn K, ex.map fun f => f K)
def valM (fn : List He.DefD) (ex : List (PySem.W.Frag → Bool)) : AlM := (He.valD fn, ex.map fun _ => true)
/-- what an object leads to: a namespace's values, a def's code and defaults, a class's namespace -/
def refK (o : Obj) : List Addr := match o.data with
  | .dict es _ => es.toList.flatMap fun e => He.refV e.val
  | .func fd => He.refV fd.code ++ He.refV fd.defaults
  | .cls cd => [cd.ns]
  | _ => []
def nextK (g : Addr → Option Obj) : List Addr → List Addr
  | [] => []
  | a :: r => (match g a with
    | some o => refK o
    | none => []) ++ nextK g r
def frL {α : Type} : List Addr → (List Addr → α) → α
  | [], k => k []
  | a :: r, k => HandSHeadRun.frNat a fun a => frL r fun r => k (a :: r)
theorem frL_eq {α : Type} : ∀ (l : List Addr) (k : List Addr → α), frL l k = k l
  | [], _ => rfl
  | a :: r, k => by
    show HandSHeadRun.frNat a (fun a => frL r fun r => k (a :: r)) = _
    rw [HandSHeadRun.frNat_eq, frL_eq r]
def frF {α : Type} : PySem.W.Frag → (PySem.W.Frag → α) → α
  | [], k => k []
  | (a, o) :: r, k => HandSHeadRun.frNat a fun a => frF r fun r => k ((a, o) :: r)
theorem frF_eq {α : Type} : ∀ (l : PySem.W.Frag) (k : PySem.W.Frag → α), frF l k = k l
  | [], _ => rfl
  | (a, o) :: r, k => by
    show HandSHeadRun.frNat a (fun a => frF r fun r => k ((a, o) :: r)) = _
    rw [HandSHeadRun.frNat_eq, frF_eq r]
def obsMG (fn : List He.DefD) (ex : List (PySem.W.Frag → Bool)) (g : Addr → Option Obj) : AlM :=
  frL (nextK g [mainGlobals]) fun f1 => frL (nextK g f1) fun f2 => frL (nextK g f2) fun f3 => frL (nextK g f3) fun f4 =>
    frF (He.frG g (mainGlobals :: cStatics :: (f1 ++ (f2 ++ (f3 ++ f4))))) (obsM fn ex)
theorem obsMG_of (fn : List He.DefD) (ex : List (PySem.W.Frag → Bool)) (g : Addr → Option Obj) : ∃ as, obsMG fn ex g = obsM fn ex (He.frG g as) := by
  unfold obsMG
  rw [frL_eq, frL_eq, frL_eq, frL_eq, frF_eq]
  exact ⟨_, rfl⟩
def hookM (fn : List He.DefD) (ex : List (PySem.W.Frag → Bool)) : PySem.W.Hook where
  α := AlM
  obs := fun s => obsMG fn ex s.heap.get?
  val := fun _ => valM fn ex
  says := fun _ h => ∃ K : PySem.W.Frag, K.In h ∧ obsM fn ex K = valM fn ex
  of := fun _ s e => by
    obtain ⟨as, q⟩ := obsMG_of fn ex s.heap.get?
    exact ⟨_, He.frG_in, q.symm.trans e⟩
  keeps := fun _ _ _ ⟨K, hK, c⟩ k => ⟨K, PySem.W.Frag.In.keeps hK k, c⟩
theorem obsMG_eq {fn : List He.DefD} {ex : List (PySem.W.Frag → Bool)} {g : Addr → Option Obj} {s : Shared} (h : ∀ a, g a = s.heap.get? a) : obsMG fn ex g = (hookM fn ex).obs s := by
  have e : g = s.heap.get? := funext h
  rw [e] <;> rfl
theorem saysM_d {fn : List He.DefD} {ex : List (PySem.W.Frag → Bool)} {K : PySem.W.Frag} (c : obsM fn ex K = valM fn ex) : He.SaysD [] fn K := congrArg (fun z : AlM => z.1) c
theorem saysM_x {fn : List He.DefD} {ex : List (PySem.W.Frag → Bool)} {K : PySem.W.Frag} (c : obsM fn ex K = valM fn ex) (i : Nat) {f : PySem.W.Frag → Bool} (h : ex[i]? = some f) : f K = true := by
  have e : ex.map (fun f => f K) = ex.map fun _ => true := congrArg (fun z : AlM => z.2) c
  have e2 : (ex.map (fun f => f K))[i]? = (ex.map fun _ => true)[i]? := by rw [e]
  rw [List.getElem?_map, List.getElem?_map, h] at e2
  exact Option.some.inj e2
def loose : List Str := (["_wall", "MinderError", "NoNumber", "BadRow", "TooMany", "NoTop", "NoName", "NoLeaf", "NotOn", "SIGNS", "fit_name", "number_in", "Shape", "Leaf", "Steady", "Faller", "Minder", "AllMinder", "RestMinder", "BOUND", "DEEPEST", "KEEPS", "Tree", "leaf_by", "minder_by"] : List Str) ++ (["shape_by", "elder_at", "read", "written", "_law_cell_at", "_law_name", "_law_minder_words", "_law_leaf_words", "_law_tree", "_law_kinds", "_law_odd", "_law_refused", "_law_steep", "_law_special", "_law_put_in"] : List Str)
def d_fit_name : He.DefD := ⟨("fit_name", none), "fit_name", "fit_name", defArgs s_fit_name, defBody s_fit_name, defScope s_fit_name, [], []⟩
def d_number_in : He.DefD := ⟨("number_in", none), "number_in", "number_in", defArgs s_number_in, defBody s_number_in, defScope s_number_in, [.int 1000000], []⟩
def d_Shape_init : He.DefD := ⟨("Shape", some "__init__"), "__init__", "Shape.__init__", defArgs s_Shape_init, defBody s_Shape_init, defScope s_Shape_init, [], []⟩
def d_Shape_leaf : He.DefD := ⟨("Shape", some "leaf"), "leaf", "Shape.leaf", defArgs s_Shape_leaf, defBody s_Shape_leaf, defScope s_Shape_leaf, [], []⟩
def d_Leaf_init : He.DefD := ⟨("Leaf", some "__init__"), "__init__", "Leaf.__init__", defArgs s_Leaf_init, defBody s_Leaf_init, defScope s_Leaf_init, [.int 0, .int 0], []⟩
def d_Leaf_leaf : He.DefD := ⟨("Leaf", some "leaf"), "leaf", "Leaf.leaf", defArgs s_Leaf_leaf, defBody s_Leaf_leaf, defScope s_Leaf_leaf, [], []⟩
def d_Leaf_work : He.DefD := ⟨("Leaf", some "work"), "work", "Leaf.work", defArgs s_Leaf_work, defBody s_Leaf_work, defScope s_Leaf_work, [], []⟩
def d_Leaf_words : He.DefD := ⟨("Leaf", some "words"), "words", "Leaf.words", defArgs s_Leaf_words, defBody s_Leaf_words, defScope s_Leaf_words, [], []⟩
def d_Steady_init : He.DefD := ⟨("Steady", some "__init__"), "__init__", "Steady.__init__", defArgs s_Steady_init, defBody s_Steady_init, defScope s_Steady_init, [.int 0, .int 0], []⟩
def d_Steady_work : He.DefD := ⟨("Steady", some "work"), "work", "Steady.work", defArgs s_Steady_work, defBody s_Steady_work, defScope s_Steady_work, [], []⟩
def d_Faller_init : He.DefD := ⟨("Faller", some "__init__"), "__init__", "Faller.__init__", defArgs s_Faller_init, defBody s_Faller_init, defScope s_Faller_init, [.int 0, .int 0], []⟩
def d_Faller_work : He.DefD := ⟨("Faller", some "work"), "work", "Faller.work", defArgs s_Faller_work, defBody s_Faller_work, defScope s_Faller_work, [], []⟩
def d_Minder_init : He.DefD := ⟨("Minder", some "__init__"), "__init__", "Minder.__init__", defArgs s_Minder_init, defBody s_Minder_init, defScope s_Minder_init, [.int 1, .int 1], []⟩
def d_Minder_way : He.DefD := ⟨("Minder", some "way"), "way", "Minder.way", defArgs s_Minder_way, defBody s_Minder_way, defScope s_Minder_way, [], []⟩
def d_Minder_words : He.DefD := ⟨("Minder", some "words"), "words", "Minder.words", defArgs s_Minder_words, defBody s_Minder_words, defScope s_Minder_words, [], []⟩
def d_AllMinder_way : He.DefD := ⟨("AllMinder", some "way"), "way", "AllMinder.way", defArgs s_AllMinder_way, defBody s_AllMinder_way, defScope s_AllMinder_way, [], []⟩
def d_RestMinder_way : He.DefD := ⟨("RestMinder", some "way"), "way", "RestMinder.way", defArgs s_RestMinder_way, defBody s_RestMinder_way, defScope s_RestMinder_way, [], []⟩
def d_Tree_init : He.DefD := ⟨("Tree", some "__init__"), "__init__", "Tree.__init__", defArgs s_Tree_init, defBody s_Tree_init, defScope s_Tree_init, [], []⟩
def d_Tree_add : He.DefD := ⟨("Tree", some "add"), "add", "Tree.add", defArgs s_Tree_add, defBody s_Tree_add, defScope s_Tree_add, [], []⟩
def d_Tree_depth : He.DefD := ⟨("Tree", some "depth"), "depth", "Tree.depth", defArgs s_Tree_depth, defBody s_Tree_depth, defScope s_Tree_depth, [], []⟩
def d_leaf_by : He.DefD := ⟨("leaf_by", none), "leaf_by", "leaf_by", defArgs s_leaf_by, defBody s_leaf_by, defScope s_leaf_by, [], []⟩
def d_minder_by : He.DefD := ⟨("minder_by", none), "minder_by", "minder_by", defArgs s_minder_by, defBody s_minder_by, defScope s_minder_by, [], []⟩
def d_shape_by : He.DefD := ⟨("shape_by", none), "shape_by", "shape_by", defArgs s_shape_by, defBody s_shape_by, defScope s_shape_by, [], []⟩
def d_elder_at : He.DefD := ⟨("elder_at", none), "elder_at", "elder_at", defArgs s_elder_at, defBody s_elder_at, defScope s_elder_at, [], []⟩
def d_read : He.DefD := ⟨("read", none), "read", "read", defArgs s_read, defBody s_read, defScope s_read, [], []⟩
def d_written : He.DefD := ⟨("written", none), "written", "written", defArgs s_written, defBody s_written, defScope s_written, [], []⟩
def d_law_cell_at : He.DefD := ⟨("_law_cell_at", none), "_law_cell_at", "_law_cell_at", defArgs s_law_cell_at, defBody s_law_cell_at, defScope s_law_cell_at, [], []⟩
def d_law_name : He.DefD := ⟨("_law_name", none), "_law_name", "_law_name", defArgs s_law_name, defBody s_law_name, defScope s_law_name, [], []⟩
def d_law_minder_words : He.DefD := ⟨("_law_minder_words", none), "_law_minder_words", "_law_minder_words", defArgs s_law_minder_words, defBody s_law_minder_words, defScope s_law_minder_words, [], []⟩
def d_law_leaf_words : He.DefD := ⟨("_law_leaf_words", none), "_law_leaf_words", "_law_leaf_words", defArgs s_law_leaf_words, defBody s_law_leaf_words, defScope s_law_leaf_words, [], []⟩
def d_law_tree : He.DefD := ⟨("_law_tree", none), "_law_tree", "_law_tree", defArgs s_law_tree, defBody s_law_tree, defScope s_law_tree, [], []⟩
def d_law_kinds : He.DefD := ⟨("_law_kinds", none), "_law_kinds", "_law_kinds", defArgs s_law_kinds, defBody s_law_kinds, defScope s_law_kinds, [], []⟩
def d_law_odd : He.DefD := ⟨("_law_odd", none), "_law_odd", "_law_odd", defArgs s_law_odd, defBody s_law_odd, defScope s_law_odd, [], []⟩
def d_law_refused : He.DefD := ⟨("_law_refused", none), "_law_refused", "_law_refused", defArgs s_law_refused, defBody s_law_refused, defScope s_law_refused, [], []⟩
def d_law_steep : He.DefD := ⟨("_law_steep", none), "_law_steep", "_law_steep", defArgs s_law_steep, defBody s_law_steep, defScope s_law_steep, [], []⟩
def d_law_special : He.DefD := ⟨("_law_special", none), "_law_special", "_law_special", defArgs s_law_special, defBody s_law_special, defScope s_law_special, [], []⟩
def d_law_put_in : He.DefD := ⟨("_law_put_in", none), "_law_put_in", "_law_put_in", defArgs s_law_put_in, defBody s_law_put_in, defScope s_law_put_in, [], []⟩
def d_law : He.DefD := ⟨("law", none), "law", "law", defArgs s_law, defBody s_law, defScope s_law, [], []⟩
def d_BadRow_init : He.DefD := ⟨("BadRow", some "__init__"), "__init__", "BadRow.__init__", defArgs s_BadRow_init, defBody s_BadRow_init, defScope s_BadRow_init, [], []⟩
def fnL0 : List He.DefD := [d_fit_name, d_number_in, d_Shape_init, d_Shape_leaf, d_Leaf_init, d_Leaf_leaf, d_Leaf_work, d_Leaf_words, d_Steady_init, d_Steady_work, d_Faller_init, d_Faller_work, d_Minder_init, d_Minder_way, d_Minder_words, d_AllMinder_way, d_RestMinder_way, d_Tree_init, d_Tree_add, d_Tree_depth, d_leaf_by, d_minder_by, d_shape_by, d_elder_at, d_read]
def fnL1 : List He.DefD := [d_written, d_law_cell_at, d_law_name, d_law_minder_words, d_law_leaf_words, d_law_tree, d_law_kinds, d_law_odd, d_law_refused, d_law_steep, d_law_special, d_law_put_in, d_law, d_BadRow_init]
def fnL : List He.DefD := fnL0 ++ (fnL1)
def x0 (K : PySem.W.Frag) : Bool := decide (PySem.W.nsIn K mainGlobals "len" = some none)
def x1 (K : PySem.W.Frag) : Bool := decide (PySem.W.nsIn K mainGlobals "int" = some none)
def x2 (K : PySem.W.Frag) : Bool := decide (PySem.W.nsIn K mainGlobals "bool" = some none)
def x3 (K : PySem.W.Frag) : Bool := decide (PySem.W.nsIn K mainGlobals "list" = some none)
def x4 (K : PySem.W.Frag) : Bool := decide (PySem.W.nsIn K mainGlobals "str" = some none)
def x5 (K : PySem.W.Frag) : Bool := decide (PySem.W.nsIn K mainGlobals "divmod" = some none)
def x6 (K : PySem.W.Frag) : Bool := decide (PySem.W.nsIn K mainGlobals "range" = some none)
def x7 (K : PySem.W.Frag) : Bool := decide (PySem.W.nsIn K mainGlobals "isinstance" = some none)
def x8 (K : PySem.W.Frag) : Bool := decide (PySem.W.nsIn K mainGlobals "ValueError" = some none)
def x9 (K : PySem.W.Frag) : Bool := decide (PySem.W.nsIn K mainGlobals "KeyError" = some none)
def x10 (K : PySem.W.Frag) : Bool := decide (PySem.W.nsIn K mainGlobals "Shape" = some (some (.ref (He.ga K "Shape"))))
def x11 (K : PySem.W.Frag) : Bool := decide (PySem.W.plainGet K (He.ga K "Shape") Str.empty = true)
def x12 (K : PySem.W.Frag) : Bool := decide (PySem.W.hasDictIn K (He.ga K "Shape") = true)
def x13 (K : PySem.W.Frag) : Bool := decide (PySem.W.plainOver K (He.ga K "Shape") = true)
def x14 (K : PySem.W.Frag) : Bool := decide (PySem.W.findIn K (.ref (He.ga K "Shape")) "__setattr__" = some (some (.builtin "object.__setattr__")))
def x15 (K : PySem.W.Frag) : Bool := decide (PySem.W.nsIn K mainGlobals "Leaf" = some (some (.ref (He.ga K "Leaf"))))
def x16 (K : PySem.W.Frag) : Bool := decide (PySem.W.plainGet K (He.ga K "Leaf") Str.empty = true)
def x17 (K : PySem.W.Frag) : Bool := decide (PySem.W.hasDictIn K (He.ga K "Leaf") = true)
def x18 (K : PySem.W.Frag) : Bool := decide (PySem.W.plainOver K (He.ga K "Leaf") = true)
def x19 (K : PySem.W.Frag) : Bool := decide (PySem.W.findIn K (.ref (He.ga K "Leaf")) "__setattr__" = some (some (.builtin "object.__setattr__")))
def x20 (K : PySem.W.Frag) : Bool := decide (PySem.W.findIn K (.ref (He.ga K "Leaf")) "name" = some none)
def x21 (K : PySem.W.Frag) : Bool := decide (PySem.W.findIn K (.ref (He.ga K "Leaf")) "keep" = some none)
def x22 (K : PySem.W.Frag) : Bool := decide (PySem.W.findIn K (.ref (He.ga K "Leaf")) "grace" = some none)
def x23 (K : PySem.W.Frag) : Bool := decide (PySem.W.findIn K (.ref (He.ga K "Leaf")) "slow" = some none)
def x24 (K : PySem.W.Frag) : Bool := decide (PySem.W.makesIn K (He.ga K "Leaf") = true)
def x25 (K : PySem.W.Frag) : Bool := decide (PySem.W.keepIn K (.ref (He.ga K "Leaf")) = true)
def x26 (K : PySem.W.Frag) : Bool := decide (PySem.W.nsIn K mainGlobals "Steady" = some (some (.ref (He.ga K "Steady"))))
def x27 (K : PySem.W.Frag) : Bool := decide (PySem.W.plainGet K (He.ga K "Steady") Str.empty = true)
def x28 (K : PySem.W.Frag) : Bool := decide (PySem.W.hasDictIn K (He.ga K "Steady") = true)
def x29 (K : PySem.W.Frag) : Bool := decide (PySem.W.plainOver K (He.ga K "Steady") = true)
def x30 (K : PySem.W.Frag) : Bool := decide (PySem.W.findIn K (.ref (He.ga K "Steady")) "__setattr__" = some (some (.builtin "object.__setattr__")))
def x31 (K : PySem.W.Frag) : Bool := decide (PySem.W.findIn K (.ref (He.ga K "Steady")) "name" = some none)
def x32 (K : PySem.W.Frag) : Bool := decide (PySem.W.findIn K (.ref (He.ga K "Steady")) "keep" = some none)
def x33 (K : PySem.W.Frag) : Bool := decide (PySem.W.findIn K (.ref (He.ga K "Steady")) "grace" = some none)
def x34 (K : PySem.W.Frag) : Bool := decide (PySem.W.findIn K (.ref (He.ga K "Steady")) "slow" = some none)
def x35 (K : PySem.W.Frag) : Bool := decide (PySem.W.findIn K (.ref (He.ga K "Steady")) "many" = some none)
def x36 (K : PySem.W.Frag) : Bool := decide (PySem.W.makesIn K (He.ga K "Steady") = true)
def x37 (K : PySem.W.Frag) : Bool := decide (PySem.W.keepIn K (.ref (He.ga K "Steady")) = true)
def x38 (K : PySem.W.Frag) : Bool := decide (PySem.W.nsIn K mainGlobals "Faller" = some (some (.ref (He.ga K "Faller"))))
def x39 (K : PySem.W.Frag) : Bool := decide (PySem.W.plainGet K (He.ga K "Faller") Str.empty = true)
def x40 (K : PySem.W.Frag) : Bool := decide (PySem.W.hasDictIn K (He.ga K "Faller") = true)
def x41 (K : PySem.W.Frag) : Bool := decide (PySem.W.plainOver K (He.ga K "Faller") = true)
def x42 (K : PySem.W.Frag) : Bool := decide (PySem.W.findIn K (.ref (He.ga K "Faller")) "__setattr__" = some (some (.builtin "object.__setattr__")))
def x43 (K : PySem.W.Frag) : Bool := decide (PySem.W.findIn K (.ref (He.ga K "Faller")) "name" = some none)
def x44 (K : PySem.W.Frag) : Bool := decide (PySem.W.findIn K (.ref (He.ga K "Faller")) "keep" = some none)
def x45 (K : PySem.W.Frag) : Bool := decide (PySem.W.findIn K (.ref (He.ga K "Faller")) "grace" = some none)
def x46 (K : PySem.W.Frag) : Bool := decide (PySem.W.findIn K (.ref (He.ga K "Faller")) "slow" = some none)
def x47 (K : PySem.W.Frag) : Bool := decide (PySem.W.findIn K (.ref (He.ga K "Faller")) "many" = some none)
def x48 (K : PySem.W.Frag) : Bool := decide (PySem.W.makesIn K (He.ga K "Faller") = true)
def x49 (K : PySem.W.Frag) : Bool := decide (PySem.W.keepIn K (.ref (He.ga K "Faller")) = true)
def x50 (K : PySem.W.Frag) : Bool := decide (PySem.W.nsIn K mainGlobals "Minder" = some (some (.ref (He.ga K "Minder"))))
def x51 (K : PySem.W.Frag) : Bool := decide (PySem.W.plainGet K (He.ga K "Minder") Str.empty = true)
def x52 (K : PySem.W.Frag) : Bool := decide (PySem.W.hasDictIn K (He.ga K "Minder") = true)
def x53 (K : PySem.W.Frag) : Bool := decide (PySem.W.plainOver K (He.ga K "Minder") = true)
def x54 (K : PySem.W.Frag) : Bool := decide (PySem.W.findIn K (.ref (He.ga K "Minder")) "__setattr__" = some (some (.builtin "object.__setattr__")))
def x55 (K : PySem.W.Frag) : Bool := decide (PySem.W.findIn K (.ref (He.ga K "Minder")) "name" = some none)
def x56 (K : PySem.W.Frag) : Bool := decide (PySem.W.findIn K (.ref (He.ga K "Minder")) "keep" = some none)
def x57 (K : PySem.W.Frag) : Bool := decide (PySem.W.findIn K (.ref (He.ga K "Minder")) "most" = some none)
def x58 (K : PySem.W.Frag) : Bool := decide (PySem.W.findIn K (.ref (He.ga K "Minder")) "span" = some none)
def x59 (K : PySem.W.Frag) : Bool := decide (PySem.W.makesIn K (He.ga K "Minder") = true)
def x60 (K : PySem.W.Frag) : Bool := decide (PySem.W.keepIn K (.ref (He.ga K "Minder")) = true)
def x61 (K : PySem.W.Frag) : Bool := decide (PySem.W.nsIn K mainGlobals "AllMinder" = some (some (.ref (He.ga K "AllMinder"))))
def x62 (K : PySem.W.Frag) : Bool := decide (PySem.W.plainGet K (He.ga K "AllMinder") Str.empty = true)
def x63 (K : PySem.W.Frag) : Bool := decide (PySem.W.hasDictIn K (He.ga K "AllMinder") = true)
def x64 (K : PySem.W.Frag) : Bool := decide (PySem.W.plainOver K (He.ga K "AllMinder") = true)
def x65 (K : PySem.W.Frag) : Bool := decide (PySem.W.findIn K (.ref (He.ga K "AllMinder")) "__setattr__" = some (some (.builtin "object.__setattr__")))
def x66 (K : PySem.W.Frag) : Bool := decide (PySem.W.findIn K (.ref (He.ga K "AllMinder")) "name" = some none)
def x67 (K : PySem.W.Frag) : Bool := decide (PySem.W.findIn K (.ref (He.ga K "AllMinder")) "keep" = some none)
def x68 (K : PySem.W.Frag) : Bool := decide (PySem.W.findIn K (.ref (He.ga K "AllMinder")) "most" = some none)
def x69 (K : PySem.W.Frag) : Bool := decide (PySem.W.findIn K (.ref (He.ga K "AllMinder")) "span" = some none)
def x70 (K : PySem.W.Frag) : Bool := decide (PySem.W.makesIn K (He.ga K "AllMinder") = true)
def x71 (K : PySem.W.Frag) : Bool := decide (PySem.W.keepIn K (.ref (He.ga K "AllMinder")) = true)
def x72 (K : PySem.W.Frag) : Bool := decide (PySem.W.nsIn K mainGlobals "RestMinder" = some (some (.ref (He.ga K "RestMinder"))))
def x73 (K : PySem.W.Frag) : Bool := decide (PySem.W.plainGet K (He.ga K "RestMinder") Str.empty = true)
def x74 (K : PySem.W.Frag) : Bool := decide (PySem.W.hasDictIn K (He.ga K "RestMinder") = true)
def x75 (K : PySem.W.Frag) : Bool := decide (PySem.W.plainOver K (He.ga K "RestMinder") = true)
def x76 (K : PySem.W.Frag) : Bool := decide (PySem.W.findIn K (.ref (He.ga K "RestMinder")) "__setattr__" = some (some (.builtin "object.__setattr__")))
def x77 (K : PySem.W.Frag) : Bool := decide (PySem.W.findIn K (.ref (He.ga K "RestMinder")) "name" = some none)
def x78 (K : PySem.W.Frag) : Bool := decide (PySem.W.findIn K (.ref (He.ga K "RestMinder")) "keep" = some none)
def x79 (K : PySem.W.Frag) : Bool := decide (PySem.W.findIn K (.ref (He.ga K "RestMinder")) "most" = some none)
def x80 (K : PySem.W.Frag) : Bool := decide (PySem.W.findIn K (.ref (He.ga K "RestMinder")) "span" = some none)
def x81 (K : PySem.W.Frag) : Bool := decide (PySem.W.makesIn K (He.ga K "RestMinder") = true)
def x82 (K : PySem.W.Frag) : Bool := decide (PySem.W.keepIn K (.ref (He.ga K "RestMinder")) = true)
def x83 (K : PySem.W.Frag) : Bool := decide (PySem.W.nsIn K mainGlobals "Tree" = some (some (.ref (He.ga K "Tree"))))
def x84 (K : PySem.W.Frag) : Bool := decide (PySem.W.plainGet K (He.ga K "Tree") Str.empty = true)
def x85 (K : PySem.W.Frag) : Bool := decide (PySem.W.hasDictIn K (He.ga K "Tree") = true)
def x86 (K : PySem.W.Frag) : Bool := decide (PySem.W.plainOver K (He.ga K "Tree") = true)
def x87 (K : PySem.W.Frag) : Bool := decide (PySem.W.findIn K (.ref (He.ga K "Tree")) "__setattr__" = some (some (.builtin "object.__setattr__")))
def x88 (K : PySem.W.Frag) : Bool := decide (PySem.W.findIn K (.ref (He.ga K "Tree")) "shapes" = some none)
def x89 (K : PySem.W.Frag) : Bool := decide (PySem.W.findIn K (.ref (He.ga K "Tree")) "elders" = some none)
def x90 (K : PySem.W.Frag) : Bool := decide (PySem.W.findIn K (.ref (He.ga K "Tree")) "young" = some none)
def x91 (K : PySem.W.Frag) : Bool := decide (PySem.W.findIn K (.ref (He.ga K "Tree")) "known" = some none)
def x92 (K : PySem.W.Frag) : Bool := decide (PySem.W.makesIn K (He.ga K "Tree") = true)
def x93 (K : PySem.W.Frag) : Bool := decide (PySem.W.keepIn K (.ref (He.ga K "Tree")) = true)
def x94 (K : PySem.W.Frag) : Bool := (He.Fa.str "SIGNS" "abcdefghijklmnopqrstuvwxyz0123456789").ok K
def x95 (K : PySem.W.Frag) : Bool := (He.Fa.int "BOUND" 64).ok K
def x96 (K : PySem.W.Frag) : Bool := (He.Fa.int "DEEPEST" 8).ok K
def x97 (K : PySem.W.Frag) : Bool := decide (PySem.W.nsIn K mainGlobals "KEEPS" = some (some (.ref (He.ga K "KEEPS"))))
def x98 (K : PySem.W.Frag) : Bool := He.tupB K "KEEPS" [.str "always", .str "fallen", .str "never"]
def x99 (K : PySem.W.Frag) : Bool := decide (PySem.W.nsIn K mainGlobals "fit_name" = some (some (.ref (He.fAd K ("fit_name", none)))))
def x100 (K : PySem.W.Frag) : Bool := decide (PySem.W.nsIn K mainGlobals "number_in" = some (some (.ref (He.fAd K ("number_in", none)))))
def x101 (K : PySem.W.Frag) : Bool := decide (PySem.W.findIn K (.ref (He.ga K "Shape")) "__init__" = some (some (.ref (He.fAd K ("Shape", some "__init__")))))
def x102 (K : PySem.W.Frag) : Bool := decide (PySem.W.isFn K (.ref (He.fAd K ("Shape", some "__init__"))) = true)
def x103 (K : PySem.W.Frag) : Bool := decide (PySem.W.findIn K (.ref (He.ga K "Shape")) "leaf" = some (some (.ref (He.fAd K ("Shape", some "leaf")))))
def x104 (K : PySem.W.Frag) : Bool := decide (PySem.W.isFn K (.ref (He.fAd K ("Shape", some "leaf"))) = true)
def x105 (K : PySem.W.Frag) : Bool := decide (PySem.W.findIn K (.ref (He.ga K "Leaf")) "__init__" = some (some (.ref (He.fAd K ("Leaf", some "__init__")))))
def x106 (K : PySem.W.Frag) : Bool := decide (PySem.W.isFn K (.ref (He.fAd K ("Leaf", some "__init__"))) = true)
def x107 (K : PySem.W.Frag) : Bool := decide (PySem.W.findIn K (.ref (He.ga K "Leaf")) "leaf" = some (some (.ref (He.fAd K ("Leaf", some "leaf")))))
def x108 (K : PySem.W.Frag) : Bool := decide (PySem.W.isFn K (.ref (He.fAd K ("Leaf", some "leaf"))) = true)
def x109 (K : PySem.W.Frag) : Bool := decide (PySem.W.findIn K (.ref (He.ga K "Leaf")) "work" = some (some (.ref (He.fAd K ("Leaf", some "work")))))
def x110 (K : PySem.W.Frag) : Bool := decide (PySem.W.isFn K (.ref (He.fAd K ("Leaf", some "work"))) = true)
def x111 (K : PySem.W.Frag) : Bool := decide (PySem.W.findIn K (.ref (He.ga K "Leaf")) "words" = some (some (.ref (He.fAd K ("Leaf", some "words")))))
def x112 (K : PySem.W.Frag) : Bool := decide (PySem.W.isFn K (.ref (He.fAd K ("Leaf", some "words"))) = true)
def x113 (K : PySem.W.Frag) : Bool := decide (PySem.W.findIn K (.ref (He.ga K "Steady")) "__init__" = some (some (.ref (He.fAd K ("Steady", some "__init__")))))
def x114 (K : PySem.W.Frag) : Bool := decide (PySem.W.isFn K (.ref (He.fAd K ("Steady", some "__init__"))) = true)
def x115 (K : PySem.W.Frag) : Bool := decide (PySem.W.findIn K (.ref (He.ga K "Steady")) "work" = some (some (.ref (He.fAd K ("Steady", some "work")))))
def x116 (K : PySem.W.Frag) : Bool := decide (PySem.W.isFn K (.ref (He.fAd K ("Steady", some "work"))) = true)
def x117 (K : PySem.W.Frag) : Bool := decide (PySem.W.findIn K (.ref (He.ga K "Faller")) "__init__" = some (some (.ref (He.fAd K ("Faller", some "__init__")))))
def x118 (K : PySem.W.Frag) : Bool := decide (PySem.W.isFn K (.ref (He.fAd K ("Faller", some "__init__"))) = true)
def x119 (K : PySem.W.Frag) : Bool := decide (PySem.W.findIn K (.ref (He.ga K "Faller")) "work" = some (some (.ref (He.fAd K ("Faller", some "work")))))
def x120 (K : PySem.W.Frag) : Bool := decide (PySem.W.isFn K (.ref (He.fAd K ("Faller", some "work"))) = true)
def x121 (K : PySem.W.Frag) : Bool := decide (PySem.W.findIn K (.ref (He.ga K "Minder")) "__init__" = some (some (.ref (He.fAd K ("Minder", some "__init__")))))
def x122 (K : PySem.W.Frag) : Bool := decide (PySem.W.isFn K (.ref (He.fAd K ("Minder", some "__init__"))) = true)
def x123 (K : PySem.W.Frag) : Bool := decide (PySem.W.findIn K (.ref (He.ga K "Minder")) "way" = some (some (.ref (He.fAd K ("Minder", some "way")))))
def x124 (K : PySem.W.Frag) : Bool := decide (PySem.W.isFn K (.ref (He.fAd K ("Minder", some "way"))) = true)
def x125 (K : PySem.W.Frag) : Bool := decide (PySem.W.findIn K (.ref (He.ga K "Minder")) "words" = some (some (.ref (He.fAd K ("Minder", some "words")))))
def x126 (K : PySem.W.Frag) : Bool := decide (PySem.W.isFn K (.ref (He.fAd K ("Minder", some "words"))) = true)
def x127 (K : PySem.W.Frag) : Bool := decide (PySem.W.findIn K (.ref (He.ga K "AllMinder")) "way" = some (some (.ref (He.fAd K ("AllMinder", some "way")))))
def x128 (K : PySem.W.Frag) : Bool := decide (PySem.W.isFn K (.ref (He.fAd K ("AllMinder", some "way"))) = true)
def x129 (K : PySem.W.Frag) : Bool := decide (PySem.W.findIn K (.ref (He.ga K "RestMinder")) "way" = some (some (.ref (He.fAd K ("RestMinder", some "way")))))
def x130 (K : PySem.W.Frag) : Bool := decide (PySem.W.isFn K (.ref (He.fAd K ("RestMinder", some "way"))) = true)
def x131 (K : PySem.W.Frag) : Bool := decide (PySem.W.findIn K (.ref (He.ga K "Tree")) "__init__" = some (some (.ref (He.fAd K ("Tree", some "__init__")))))
def x132 (K : PySem.W.Frag) : Bool := decide (PySem.W.isFn K (.ref (He.fAd K ("Tree", some "__init__"))) = true)
def x133 (K : PySem.W.Frag) : Bool := decide (PySem.W.findIn K (.ref (He.ga K "Tree")) "add" = some (some (.ref (He.fAd K ("Tree", some "add")))))
def x134 (K : PySem.W.Frag) : Bool := decide (PySem.W.isFn K (.ref (He.fAd K ("Tree", some "add"))) = true)
def x135 (K : PySem.W.Frag) : Bool := decide (PySem.W.findIn K (.ref (He.ga K "Tree")) "depth" = some (some (.ref (He.fAd K ("Tree", some "depth")))))
def x136 (K : PySem.W.Frag) : Bool := decide (PySem.W.isFn K (.ref (He.fAd K ("Tree", some "depth"))) = true)
def x137 (K : PySem.W.Frag) : Bool := decide (PySem.W.nsIn K mainGlobals "leaf_by" = some (some (.ref (He.fAd K ("leaf_by", none)))))
def x138 (K : PySem.W.Frag) : Bool := decide (PySem.W.nsIn K mainGlobals "minder_by" = some (some (.ref (He.fAd K ("minder_by", none)))))
def x139 (K : PySem.W.Frag) : Bool := decide (PySem.W.nsIn K mainGlobals "shape_by" = some (some (.ref (He.fAd K ("shape_by", none)))))
def x140 (K : PySem.W.Frag) : Bool := decide (PySem.W.nsIn K mainGlobals "elder_at" = some (some (.ref (He.fAd K ("elder_at", none)))))
def x141 (K : PySem.W.Frag) : Bool := decide (PySem.W.nsIn K mainGlobals "read" = some (some (.ref (He.fAd K ("read", none)))))
def x142 (K : PySem.W.Frag) : Bool := decide (PySem.W.nsIn K mainGlobals "written" = some (some (.ref (He.fAd K ("written", none)))))
def x143 (K : PySem.W.Frag) : Bool := decide (PySem.W.nsIn K mainGlobals "_law_cell_at" = some (some (.ref (He.fAd K ("_law_cell_at", none)))))
def x144 (K : PySem.W.Frag) : Bool := decide (PySem.W.nsIn K mainGlobals "_law_name" = some (some (.ref (He.fAd K ("_law_name", none)))))
def x145 (K : PySem.W.Frag) : Bool := decide (PySem.W.nsIn K mainGlobals "_law_minder_words" = some (some (.ref (He.fAd K ("_law_minder_words", none)))))
def x146 (K : PySem.W.Frag) : Bool := decide (PySem.W.nsIn K mainGlobals "_law_leaf_words" = some (some (.ref (He.fAd K ("_law_leaf_words", none)))))
def x147 (K : PySem.W.Frag) : Bool := decide (PySem.W.nsIn K mainGlobals "_law_tree" = some (some (.ref (He.fAd K ("_law_tree", none)))))
def x148 (K : PySem.W.Frag) : Bool := decide (PySem.W.nsIn K mainGlobals "_law_kinds" = some (some (.ref (He.fAd K ("_law_kinds", none)))))
def x149 (K : PySem.W.Frag) : Bool := decide (PySem.W.nsIn K mainGlobals "_law_odd" = some (some (.ref (He.fAd K ("_law_odd", none)))))
def x150 (K : PySem.W.Frag) : Bool := decide (PySem.W.nsIn K mainGlobals "_law_refused" = some (some (.ref (He.fAd K ("_law_refused", none)))))
def x151 (K : PySem.W.Frag) : Bool := decide (PySem.W.nsIn K mainGlobals "_law_steep" = some (some (.ref (He.fAd K ("_law_steep", none)))))
def x152 (K : PySem.W.Frag) : Bool := decide (PySem.W.nsIn K mainGlobals "_law_special" = some (some (.ref (He.fAd K ("_law_special", none)))))
def x153 (K : PySem.W.Frag) : Bool := decide (PySem.W.nsIn K mainGlobals "_law_put_in" = some (some (.ref (He.fAd K ("_law_put_in", none)))))
def x154 (K : PySem.W.Frag) : Bool := decide (PySem.W.nsIn K mainGlobals "law" = some (some (.ref (He.fAd K ("law", none)))))
def x155 (K : PySem.W.Frag) : Bool := decide (PySem.W.nsIn K mainGlobals "BadRow" = some (some (.ref (He.ga K "BadRow"))))
def x156 (K : PySem.W.Frag) : Bool := oexB K (He.ga K "BadRow")
def x157 (K : PySem.W.Frag) : Bool := decide (PySem.W.findIn K (.ref (He.ga K "BadRow")) "__setattr__" = some (some (.builtin "object.__setattr__")))
def x158 (K : PySem.W.Frag) : Bool := decide (PySem.W.subIn K (.ref (He.ga K "BadRow")) (.type "BaseException") = some true)
def x159 (K : PySem.W.Frag) : Bool := decide (PySem.W.typeIn K (.ref (He.ga K "BadRow")) = some (.type "type"))
def x160 (K : PySem.W.Frag) : Bool := decide (PySem.W.keepIn K (.ref (He.ga K "BadRow")) = true)
def x161 (K : PySem.W.Frag) : Bool := decide (PySem.W.findIn K (.ref (He.ga K "BadRow")) "__init__" = some (some (.ref (He.fAd K ("BadRow", some "__init__")))))
def x162 (K : PySem.W.Frag) : Bool := decide (PySem.W.isFn K (.ref (He.fAd K ("BadRow", some "__init__"))) = true)
def x163 (K : PySem.W.Frag) : Bool := decide (PySem.W.typeIn K (.ref (He.fAd K ("BadRow", some "__init__"))) = some (.type "function"))
def x164 (K : PySem.W.Frag) : Bool := decide (PySem.W.readsIn K (He.ga K "Shape") (.type "type") = true)
def x165 (K : PySem.W.Frag) : Bool := decide (PySem.W.specialIn K (.ref (He.ga K "Shape")) "__getattribute__" = some (some (.builtin "type.__getattribute__")))
def x166 (K : PySem.W.Frag) : Bool := fcB K (He.ga K "Shape") "__init__" (He.fAd K ("Shape", some "__init__"))
def x167 (K : PySem.W.Frag) : Bool := decide (PySem.W.readsIn K (He.ga K "Leaf") (.type "type") = true)
def x168 (K : PySem.W.Frag) : Bool := decide (PySem.W.specialIn K (.ref (He.ga K "Leaf")) "__getattribute__" = some (some (.builtin "type.__getattribute__")))
def x169 (K : PySem.W.Frag) : Bool := fcB K (He.ga K "Leaf") "__init__" (He.fAd K ("Leaf", some "__init__"))
def x170 (K : PySem.W.Frag) : Bool := decide (PySem.W.findIn K (.ref (He.ga K "AllMinder")) "__init__" = some (some (.ref (He.fAd K ("Minder", some "__init__")))))
def x171 (K : PySem.W.Frag) : Bool := decide (PySem.W.findIn K (.ref (He.ga K "RestMinder")) "__init__" = some (some (.ref (He.fAd K ("Minder", some "__init__")))))
def x172 (K : PySem.W.Frag) : Bool := decide (PySem.W.findIn K (.ref (He.ga K "Steady")) "leaf" = some (some (.ref (He.fAd K ("Leaf", some "leaf")))))
def x173 (K : PySem.W.Frag) : Bool := decide (PySem.W.findIn K (.ref (He.ga K "Faller")) "leaf" = some (some (.ref (He.fAd K ("Leaf", some "leaf")))))
def x174 (K : PySem.W.Frag) : Bool := decide (PySem.W.findIn K (.ref (He.ga K "Minder")) "leaf" = some (some (.ref (He.fAd K ("Shape", some "leaf")))))
def x175 (K : PySem.W.Frag) : Bool := decide (PySem.W.findIn K (.ref (He.ga K "AllMinder")) "leaf" = some (some (.ref (He.fAd K ("Shape", some "leaf")))))
def x176 (K : PySem.W.Frag) : Bool := decide (PySem.W.findIn K (.ref (He.ga K "RestMinder")) "leaf" = some (some (.ref (He.fAd K ("Shape", some "leaf")))))
def x177 (K : PySem.W.Frag) : Bool := decide (PySem.W.findIn K (.ref (He.ga K "Steady")) "words" = some (some (.ref (He.fAd K ("Leaf", some "words")))))
def x178 (K : PySem.W.Frag) : Bool := decide (PySem.W.findIn K (.ref (He.ga K "Faller")) "words" = some (some (.ref (He.fAd K ("Leaf", some "words")))))
def x179 (K : PySem.W.Frag) : Bool := decide (PySem.W.findIn K (.ref (He.ga K "AllMinder")) "words" = some (some (.ref (He.fAd K ("Minder", some "words")))))
def x180 (K : PySem.W.Frag) : Bool := decide (PySem.W.findIn K (.ref (He.ga K "RestMinder")) "words" = some (some (.ref (He.fAd K ("Minder", some "words")))))
def x181 (K : PySem.W.Frag) : Bool := decide (PySem.W.nsIn K mainGlobals "NoNumber" = some (some (.ref (He.ga K "NoNumber"))))
def x182 (K : PySem.W.Frag) : Bool := decide (PySem.W.excIn K (He.ga K "NoNumber") [.type "ValueError", .type "Exception", .type "BaseException", .type "object"] "ValueError.__new__" = true)
def x183 (K : PySem.W.Frag) : Bool := decide (PySem.W.keepIn K (.ref (He.ga K "NoNumber")) = true)
def x184 (K : PySem.W.Frag) : Bool := decide (PySem.W.subIn K (.ref (He.ga K "NoNumber")) (.type "BaseException") = some true)
def x185 (K : PySem.W.Frag) : Bool := decide (PySem.W.typeIn K (.ref (He.ga K "NoNumber")) = some (.type "type"))
def x186 (K : PySem.W.Frag) : Bool := decide (PySem.W.nsIn K mainGlobals "TooMany" = some (some (.ref (He.ga K "TooMany"))))
def x187 (K : PySem.W.Frag) : Bool := decide (PySem.W.excIn K (He.ga K "TooMany") [.type "ValueError", .type "Exception", .type "BaseException", .type "object"] "ValueError.__new__" = true)
def x188 (K : PySem.W.Frag) : Bool := decide (PySem.W.keepIn K (.ref (He.ga K "TooMany")) = true)
def x189 (K : PySem.W.Frag) : Bool := decide (PySem.W.subIn K (.ref (He.ga K "TooMany")) (.type "BaseException") = some true)
def x190 (K : PySem.W.Frag) : Bool := decide (PySem.W.typeIn K (.ref (He.ga K "TooMany")) = some (.type "type"))
def x191 (K : PySem.W.Frag) : Bool := decide (PySem.W.nsIn K mainGlobals "NoTop" = some (some (.ref (He.ga K "NoTop"))))
def x192 (K : PySem.W.Frag) : Bool := decide (PySem.W.excIn K (He.ga K "NoTop") [.type "ValueError", .type "Exception", .type "BaseException", .type "object"] "ValueError.__new__" = true)
def x193 (K : PySem.W.Frag) : Bool := decide (PySem.W.keepIn K (.ref (He.ga K "NoTop")) = true)
def x194 (K : PySem.W.Frag) : Bool := decide (PySem.W.subIn K (.ref (He.ga K "NoTop")) (.type "BaseException") = some true)
def x195 (K : PySem.W.Frag) : Bool := decide (PySem.W.typeIn K (.ref (He.ga K "NoTop")) = some (.type "type"))
def x196 (K : PySem.W.Frag) : Bool := decide (PySem.W.nsIn K mainGlobals "MinderError" = some (some (.ref (He.ga K "MinderError"))))
def x197 (K : PySem.W.Frag) : Bool := decide (PySem.W.nsIn K mainGlobals "NoLeaf" = some (some (.ref (He.ga K "NoLeaf"))))
def x198 (K : PySem.W.Frag) : Bool := decide (PySem.W.nsIn K mainGlobals "NoName" = some (some (.ref (He.ga K "NoName"))))
def x199 (K : PySem.W.Frag) : Bool := decide (PySem.W.nsIn K mainGlobals "NotOn" = some (some (.ref (He.ga K "NotOn"))))
def x200 (K : PySem.W.Frag) : Bool := decide (PySem.W.subIn K (.ref (He.ga K "MinderError")) (.type "BaseException") = some true)
def x201 (K : PySem.W.Frag) : Bool := decide (PySem.W.hasDictIn K (He.ga K "MinderError") = true)
def x202 (K : PySem.W.Frag) : Bool := decide (PySem.W.typeIn K (.ref (He.ga K "MinderError")) = some (.type "type"))
def x203 (K : PySem.W.Frag) : Bool := decide (PySem.W.subIn K (.ref (He.ga K "NoNumber")) (.ref (He.ga K "MinderError")) = some true)
def x204 (K : PySem.W.Frag) : Bool := decide (PySem.W.subIn K (.ref (He.ga K "BadRow")) (.type "BaseException") = some true)
def x205 (K : PySem.W.Frag) : Bool := decide (PySem.W.hasDictIn K (He.ga K "BadRow") = true)
def x206 (K : PySem.W.Frag) : Bool := decide (PySem.W.typeIn K (.ref (He.ga K "BadRow")) = some (.type "type"))
def x207 (K : PySem.W.Frag) : Bool := decide (PySem.W.readsIn K (He.ga K "MinderError") (.type "type") = true)
def x208 (K : PySem.W.Frag) : Bool := decide (PySem.W.specialIn K (.ref (He.ga K "MinderError")) "__getattribute__" = some (some (.builtin "type.__getattribute__")))
def x209 (K : PySem.W.Frag) : Bool := fcV K (He.ga K "MinderError") "__init__" "ValueError.__init__"
def x210 (K : PySem.W.Frag) : Bool := decide (PySem.W.findIn K (.ref (He.ga K "BadRow")) "row" = some none)
def x211 (K : PySem.W.Frag) : Bool := decide (PySem.W.findIn K (.ref (He.ga K "BadRow")) "__getattribute__" = some (some (.builtin "BaseException.__getattribute__")))
def x212 (K : PySem.W.Frag) : Bool := decide (PySem.W.findIn K (.ref (He.ga K "BadRow")) "__getattr__" = some none)
def x213 (K : PySem.W.Frag) : Bool := decide (PySem.W.subIn K (.ref (He.ga K "BadRow")) (.type "BaseException") = some true)
def x214 (K : PySem.W.Frag) : Bool := decide (PySem.W.hasDictIn K (He.ga K "BadRow") = true)
def x215 (K : PySem.W.Frag) : Bool := decide (PySem.W.findIn K (.ref (He.ga K "BadRow")) "__class__" = some (some (.builtin "object.__class__")))
def x216 (K : PySem.W.Frag) : Bool := decide (PySem.W.specialIn K (.builtin "object.__class__") "__get__" = some (some (.builtin "getset_descriptor.__get__")))
def x217 (K : PySem.W.Frag) : Bool := decide (PySem.W.takesIn K (.builtin "object.__class__") = some true)
def x218 (K : PySem.W.Frag) : Bool := decide (PySem.W.mroIn K (He.ga K "BadRow") (.type "object") = some true)
def x219 (K : PySem.W.Frag) : Bool := decide (PySem.W.findIn K (.ref (He.ga K "TooMany")) "__getattribute__" = some (some (.builtin "BaseException.__getattribute__")))
def x220 (K : PySem.W.Frag) : Bool := decide (PySem.W.findIn K (.ref (He.ga K "TooMany")) "__getattr__" = some none)
def x221 (K : PySem.W.Frag) : Bool := decide (PySem.W.subIn K (.ref (He.ga K "TooMany")) (.type "BaseException") = some true)
def x222 (K : PySem.W.Frag) : Bool := decide (PySem.W.hasDictIn K (He.ga K "TooMany") = true)
def x223 (K : PySem.W.Frag) : Bool := decide (PySem.W.findIn K (.ref (He.ga K "TooMany")) "__class__" = some (some (.builtin "object.__class__")))
def x224 (K : PySem.W.Frag) : Bool := decide (PySem.W.specialIn K (.builtin "object.__class__") "__get__" = some (some (.builtin "getset_descriptor.__get__")))
def x225 (K : PySem.W.Frag) : Bool := decide (PySem.W.takesIn K (.builtin "object.__class__") = some true)
def x226 (K : PySem.W.Frag) : Bool := decide (PySem.W.mroIn K (He.ga K "TooMany") (.type "object") = some true)
def x227 (K : PySem.W.Frag) : Bool := decide (PySem.W.findIn K (.ref (He.ga K "NoTop")) "__getattribute__" = some (some (.builtin "BaseException.__getattribute__")))
def x228 (K : PySem.W.Frag) : Bool := decide (PySem.W.findIn K (.ref (He.ga K "NoTop")) "__getattr__" = some none)
def x229 (K : PySem.W.Frag) : Bool := decide (PySem.W.subIn K (.ref (He.ga K "NoTop")) (.type "BaseException") = some true)
def x230 (K : PySem.W.Frag) : Bool := decide (PySem.W.hasDictIn K (He.ga K "NoTop") = true)
def x231 (K : PySem.W.Frag) : Bool := decide (PySem.W.findIn K (.ref (He.ga K "NoTop")) "__class__" = some (some (.builtin "object.__class__")))
def x232 (K : PySem.W.Frag) : Bool := decide (PySem.W.specialIn K (.builtin "object.__class__") "__get__" = some (some (.builtin "getset_descriptor.__get__")))
def x233 (K : PySem.W.Frag) : Bool := decide (PySem.W.takesIn K (.builtin "object.__class__") = some true)
def x234 (K : PySem.W.Frag) : Bool := decide (PySem.W.mroIn K (He.ga K "NoTop") (.type "object") = some true)
def x235 (K : PySem.W.Frag) : Bool := decide (PySem.W.exmOne K (.ref (He.ga K "BadRow")) (.ref (He.ga K "BadRow")) = some true)
def x236 (K : PySem.W.Frag) : Bool := decide (PySem.W.exmOne K (.ref (He.ga K "TooMany")) (.ref (He.ga K "BadRow")) = some false)
def x237 (K : PySem.W.Frag) : Bool := decide (PySem.W.exmOne K (.ref (He.ga K "NoTop")) (.ref (He.ga K "BadRow")) = some false)
def x238 (K : PySem.W.Frag) : Bool := decide (PySem.W.exmOne K (.ref (He.ga K "TooMany")) (.ref (He.ga K "MinderError")) = some true)
def x239 (K : PySem.W.Frag) : Bool := decide (PySem.W.exmOne K (.ref (He.ga K "NoTop")) (.ref (He.ga K "MinderError")) = some true)
def x240 (K : PySem.W.Frag) : Bool := decide (PySem.W.kitOne K (.ref (He.ga K "BadRow")) (.ref (He.ga K "BadRow")) = some true)
def x241 (K : PySem.W.Frag) : Bool := decide (PySem.W.kitOne K (.ref (He.ga K "BadRow")) (.ref (He.ga K "TooMany")) = some false)
def x242 (K : PySem.W.Frag) : Bool := decide (PySem.W.kitOne K (.ref (He.ga K "BadRow")) (.ref (He.ga K "NoTop")) = some false)
def x243 (K : PySem.W.Frag) : Bool := decide (PySem.W.kitOne K (.ref (He.ga K "BadRow")) (.ref (He.ga K "NoLeaf")) = some false)
def x244 (K : PySem.W.Frag) : Bool := decide (PySem.W.kitOne K (.ref (He.ga K "BadRow")) (.ref (He.ga K "NoName")) = some false)
def x245 (K : PySem.W.Frag) : Bool := decide (PySem.W.kitOne K (.ref (He.ga K "BadRow")) (.ref (He.ga K "NoNumber")) = some false)
def x246 (K : PySem.W.Frag) : Bool := decide (PySem.W.kitOne K (.ref (He.ga K "BadRow")) (.ref (He.ga K "NotOn")) = some false)
def x247 (K : PySem.W.Frag) : Bool := decide (PySem.W.kitOne K (.ref (He.ga K "TooMany")) (.ref (He.ga K "BadRow")) = some false)
def x248 (K : PySem.W.Frag) : Bool := decide (PySem.W.kitOne K (.ref (He.ga K "TooMany")) (.ref (He.ga K "TooMany")) = some true)
def x249 (K : PySem.W.Frag) : Bool := decide (PySem.W.kitOne K (.ref (He.ga K "TooMany")) (.ref (He.ga K "NoTop")) = some false)
def x250 (K : PySem.W.Frag) : Bool := decide (PySem.W.kitOne K (.ref (He.ga K "TooMany")) (.ref (He.ga K "NoLeaf")) = some false)
def x251 (K : PySem.W.Frag) : Bool := decide (PySem.W.kitOne K (.ref (He.ga K "TooMany")) (.ref (He.ga K "NoName")) = some false)
def x252 (K : PySem.W.Frag) : Bool := decide (PySem.W.kitOne K (.ref (He.ga K "TooMany")) (.ref (He.ga K "NoNumber")) = some false)
def x253 (K : PySem.W.Frag) : Bool := decide (PySem.W.kitOne K (.ref (He.ga K "TooMany")) (.ref (He.ga K "NotOn")) = some false)
def x254 (K : PySem.W.Frag) : Bool := decide (PySem.W.kitOne K (.ref (He.ga K "NoTop")) (.ref (He.ga K "BadRow")) = some false)
def x255 (K : PySem.W.Frag) : Bool := decide (PySem.W.kitOne K (.ref (He.ga K "NoTop")) (.ref (He.ga K "TooMany")) = some false)
def x256 (K : PySem.W.Frag) : Bool := decide (PySem.W.kitOne K (.ref (He.ga K "NoTop")) (.ref (He.ga K "NoTop")) = some true)
def x257 (K : PySem.W.Frag) : Bool := decide (PySem.W.kitOne K (.ref (He.ga K "NoTop")) (.ref (He.ga K "NoLeaf")) = some false)
def x258 (K : PySem.W.Frag) : Bool := decide (PySem.W.kitOne K (.ref (He.ga K "NoTop")) (.ref (He.ga K "NoName")) = some false)
def x259 (K : PySem.W.Frag) : Bool := decide (PySem.W.kitOne K (.ref (He.ga K "NoTop")) (.ref (He.ga K "NoNumber")) = some false)
def x260 (K : PySem.W.Frag) : Bool := decide (PySem.W.kitOne K (.ref (He.ga K "NoTop")) (.ref (He.ga K "NotOn")) = some false)
def exL0 : List (PySem.W.Frag → Bool) := [x0, x1, x2, x3, x4, x5, x6, x7, x8, x9, x10, x11, x12, x13, x14, x15, x16, x17, x18, x19, x20, x21, x22, x23, x24]
def exL1 : List (PySem.W.Frag → Bool) := [x25, x26, x27, x28, x29, x30, x31, x32, x33, x34, x35, x36, x37, x38, x39, x40, x41, x42, x43, x44, x45, x46, x47, x48, x49]
def exL2 : List (PySem.W.Frag → Bool) := [x50, x51, x52, x53, x54, x55, x56, x57, x58, x59, x60, x61, x62, x63, x64, x65, x66, x67, x68, x69, x70, x71, x72, x73, x74]
def exL3 : List (PySem.W.Frag → Bool) := [x75, x76, x77, x78, x79, x80, x81, x82, x83, x84, x85, x86, x87, x88, x89, x90, x91, x92, x93, x94, x95, x96, x97, x98, x99]
def exL4 : List (PySem.W.Frag → Bool) := [x100, x101, x102, x103, x104, x105, x106, x107, x108, x109, x110, x111, x112, x113, x114, x115, x116, x117, x118, x119, x120, x121, x122, x123, x124]
def exL5 : List (PySem.W.Frag → Bool) := [x125, x126, x127, x128, x129, x130, x131, x132, x133, x134, x135, x136, x137, x138, x139, x140, x141, x142, x143, x144, x145, x146, x147, x148, x149]
def exL6 : List (PySem.W.Frag → Bool) := [x150, x151, x152, x153, x154, x155, x156, x157, x158, x159, x160, x161, x162, x163, x164, x165, x166, x167, x168, x169, x170, x171, x172, x173, x174]
def exL7 : List (PySem.W.Frag → Bool) := [x175, x176, x177, x178, x179, x180, x181, x182, x183, x184, x185, x186, x187, x188, x189, x190, x191, x192, x193, x194, x195, x196, x197, x198, x199]
def exL8 : List (PySem.W.Frag → Bool) := [x200, x201, x202, x203, x204, x205, x206, x207, x208, x209, x210, x211, x212, x213, x214, x215, x216, x217, x218, x219, x220, x221, x222, x223, x224]
def exL9 : List (PySem.W.Frag → Bool) := [x225, x226, x227, x228, x229, x230, x231, x232, x233, x234, x235, x236, x237, x238, x239, x240, x241, x242, x243, x244, x245, x246, x247, x248, x249]
def exL10 : List (PySem.W.Frag → Bool) := [x250, x251, x252, x253, x254, x255, x256, x257, x258, x259, x260]
def exL : List (PySem.W.Frag → Bool) := exL0 ++ (exL1 ++ (exL2 ++ (exL3 ++ (exL4 ++ (exL5 ++ (exL6 ++ (exL7 ++ (exL8 ++ (exL9 ++ (exL10))))))))))
theorem all_mk {l : PySem.W.OpenLaw} {w : World} {K : PySem.W.Frag} {h : Heap} {mg : Str → Option Value} {fa c_Shape c_Leaf c_Steady c_Faller c_Minder c_AllMinder c_RestMinder c_Tree t_KEEPS f_fit_name f_number_in f_Shape_init f_Shape_leaf f_Leaf_init f_Leaf_leaf f_Leaf_work f_Leaf_words f_Steady_init f_Steady_work f_Faller_init f_Faller_work f_Minder_init f_Minder_way f_Minder_words f_AllMinder_way f_RestMinder_way f_Tree_init f_Tree_add f_Tree_depth f_leaf_by f_minder_by f_shape_by f_elder_at f_read f_written f_law_cell_at f_law_name f_law_minder_words f_law_leaf_words f_law_tree f_law_kinds f_law_odd f_law_refused f_law_steep f_law_special f_law_put_in f_law c_BadRow f_BadRow_init c_NoNumber c_TooMany c_NoTop c_MinderError c_NoLeaf c_NoName c_NotOn : Addr} (X : K.In h) (G : h.Ns mainGlobals mg) (hfa : mg "law" = some (.ref fa))
    {fd_fit_name fd_number_in fd_Shape_init fd_Shape_leaf fd_Leaf_init fd_Leaf_leaf fd_Leaf_work fd_Leaf_words fd_Steady_init fd_Steady_work fd_Faller_init fd_Faller_work fd_Minder_init fd_Minder_way fd_Minder_words fd_AllMinder_way fd_RestMinder_way fd_Tree_init fd_Tree_add fd_Tree_depth fd_leaf_by fd_minder_by fd_shape_by fd_elder_at fd_read fd_written fd_law_cell_at fd_law_name fd_law_minder_words fd_law_leaf_words fd_law_tree fd_law_kinds fd_law_odd fd_law_refused fd_law_steep fd_law_special fd_law_put_in fd_law fd_BadRow_init : FuncData} {tk_SIGNS tk_BOUND tk_DEEPEST : Nat}
    (D_fit_name : FunD K "fit_name" "fit_name" (defArgs s_fit_name) (defBody s_fit_name) (defScope s_fit_name) [] [] f_fit_name fd_fit_name)
    (D_number_in : FunD K "number_in" "number_in" (defArgs s_number_in) (defBody s_number_in) (defScope s_number_in) [.int 1000000] [] f_number_in fd_number_in)
    (D_Shape_init : FunD K "__init__" "Shape.__init__" (defArgs s_Shape_init) (defBody s_Shape_init) (defScope s_Shape_init) [] [] f_Shape_init fd_Shape_init)
    (D_Shape_leaf : FunD K "leaf" "Shape.leaf" (defArgs s_Shape_leaf) (defBody s_Shape_leaf) (defScope s_Shape_leaf) [] [] f_Shape_leaf fd_Shape_leaf)
    (D_Leaf_init : FunD K "__init__" "Leaf.__init__" (defArgs s_Leaf_init) (defBody s_Leaf_init) (defScope s_Leaf_init) [.int 0, .int 0] [] f_Leaf_init fd_Leaf_init)
    (D_Leaf_leaf : FunD K "leaf" "Leaf.leaf" (defArgs s_Leaf_leaf) (defBody s_Leaf_leaf) (defScope s_Leaf_leaf) [] [] f_Leaf_leaf fd_Leaf_leaf)
    (D_Leaf_work : FunD K "work" "Leaf.work" (defArgs s_Leaf_work) (defBody s_Leaf_work) (defScope s_Leaf_work) [] [] f_Leaf_work fd_Leaf_work)
    (D_Leaf_words : FunD K "words" "Leaf.words" (defArgs s_Leaf_words) (defBody s_Leaf_words) (defScope s_Leaf_words) [] [] f_Leaf_words fd_Leaf_words)
    (D_Steady_init : FunD K "__init__" "Steady.__init__" (defArgs s_Steady_init) (defBody s_Steady_init) (defScope s_Steady_init) [.int 0, .int 0] [] f_Steady_init fd_Steady_init)
    (D_Steady_work : FunD K "work" "Steady.work" (defArgs s_Steady_work) (defBody s_Steady_work) (defScope s_Steady_work) [] [] f_Steady_work fd_Steady_work)
    (D_Faller_init : FunD K "__init__" "Faller.__init__" (defArgs s_Faller_init) (defBody s_Faller_init) (defScope s_Faller_init) [.int 0, .int 0] [] f_Faller_init fd_Faller_init)
    (D_Faller_work : FunD K "work" "Faller.work" (defArgs s_Faller_work) (defBody s_Faller_work) (defScope s_Faller_work) [] [] f_Faller_work fd_Faller_work)
    (D_Minder_init : FunD K "__init__" "Minder.__init__" (defArgs s_Minder_init) (defBody s_Minder_init) (defScope s_Minder_init) [.int 1, .int 1] [] f_Minder_init fd_Minder_init)
    (D_Minder_way : FunD K "way" "Minder.way" (defArgs s_Minder_way) (defBody s_Minder_way) (defScope s_Minder_way) [] [] f_Minder_way fd_Minder_way)
    (D_Minder_words : FunD K "words" "Minder.words" (defArgs s_Minder_words) (defBody s_Minder_words) (defScope s_Minder_words) [] [] f_Minder_words fd_Minder_words)
    (D_AllMinder_way : FunD K "way" "AllMinder.way" (defArgs s_AllMinder_way) (defBody s_AllMinder_way) (defScope s_AllMinder_way) [] [] f_AllMinder_way fd_AllMinder_way)
    (D_RestMinder_way : FunD K "way" "RestMinder.way" (defArgs s_RestMinder_way) (defBody s_RestMinder_way) (defScope s_RestMinder_way) [] [] f_RestMinder_way fd_RestMinder_way)
    (D_Tree_init : FunD K "__init__" "Tree.__init__" (defArgs s_Tree_init) (defBody s_Tree_init) (defScope s_Tree_init) [] [] f_Tree_init fd_Tree_init)
    (D_Tree_add : FunD K "add" "Tree.add" (defArgs s_Tree_add) (defBody s_Tree_add) (defScope s_Tree_add) [] [] f_Tree_add fd_Tree_add)
    (D_Tree_depth : FunD K "depth" "Tree.depth" (defArgs s_Tree_depth) (defBody s_Tree_depth) (defScope s_Tree_depth) [] [] f_Tree_depth fd_Tree_depth)
    (D_leaf_by : FunD K "leaf_by" "leaf_by" (defArgs s_leaf_by) (defBody s_leaf_by) (defScope s_leaf_by) [] [] f_leaf_by fd_leaf_by)
    (D_minder_by : FunD K "minder_by" "minder_by" (defArgs s_minder_by) (defBody s_minder_by) (defScope s_minder_by) [] [] f_minder_by fd_minder_by)
    (D_shape_by : FunD K "shape_by" "shape_by" (defArgs s_shape_by) (defBody s_shape_by) (defScope s_shape_by) [] [] f_shape_by fd_shape_by)
    (D_elder_at : FunD K "elder_at" "elder_at" (defArgs s_elder_at) (defBody s_elder_at) (defScope s_elder_at) [] [] f_elder_at fd_elder_at)
    (D_read : FunD K "read" "read" (defArgs s_read) (defBody s_read) (defScope s_read) [] [] f_read fd_read)
    (D_written : FunD K "written" "written" (defArgs s_written) (defBody s_written) (defScope s_written) [] [] f_written fd_written)
    (D_law_cell_at : FunD K "_law_cell_at" "_law_cell_at" (defArgs s_law_cell_at) (defBody s_law_cell_at) (defScope s_law_cell_at) [] [] f_law_cell_at fd_law_cell_at)
    (D_law_name : FunD K "_law_name" "_law_name" (defArgs s_law_name) (defBody s_law_name) (defScope s_law_name) [] [] f_law_name fd_law_name)
    (D_law_minder_words : FunD K "_law_minder_words" "_law_minder_words" (defArgs s_law_minder_words) (defBody s_law_minder_words) (defScope s_law_minder_words) [] [] f_law_minder_words fd_law_minder_words)
    (D_law_leaf_words : FunD K "_law_leaf_words" "_law_leaf_words" (defArgs s_law_leaf_words) (defBody s_law_leaf_words) (defScope s_law_leaf_words) [] [] f_law_leaf_words fd_law_leaf_words)
    (D_law_tree : FunD K "_law_tree" "_law_tree" (defArgs s_law_tree) (defBody s_law_tree) (defScope s_law_tree) [] [] f_law_tree fd_law_tree)
    (D_law_kinds : FunD K "_law_kinds" "_law_kinds" (defArgs s_law_kinds) (defBody s_law_kinds) (defScope s_law_kinds) [] [] f_law_kinds fd_law_kinds)
    (D_law_odd : FunD K "_law_odd" "_law_odd" (defArgs s_law_odd) (defBody s_law_odd) (defScope s_law_odd) [] [] f_law_odd fd_law_odd)
    (D_law_refused : FunD K "_law_refused" "_law_refused" (defArgs s_law_refused) (defBody s_law_refused) (defScope s_law_refused) [] [] f_law_refused fd_law_refused)
    (D_law_steep : FunD K "_law_steep" "_law_steep" (defArgs s_law_steep) (defBody s_law_steep) (defScope s_law_steep) [] [] f_law_steep fd_law_steep)
    (D_law_special : FunD K "_law_special" "_law_special" (defArgs s_law_special) (defBody s_law_special) (defScope s_law_special) [] [] f_law_special fd_law_special)
    (D_law_put_in : FunD K "_law_put_in" "_law_put_in" (defArgs s_law_put_in) (defBody s_law_put_in) (defScope s_law_put_in) [] [] f_law_put_in fd_law_put_in)
    (D_law : FunD K "law" "law" (defArgs s_law) (defBody s_law) (defScope s_law) [] [] f_law fd_law)
    (D_BadRow_init : FunD K "__init__" "BadRow.__init__" (defArgs s_BadRow_init) (defBody s_BadRow_init) (defScope s_BadRow_init) [] [] f_BadRow_init fd_BadRow_init)
    (z_len : PySem.W.nsIn K mainGlobals "len" = some none)
    (z_int : PySem.W.nsIn K mainGlobals "int" = some none)
    (z_bool : PySem.W.nsIn K mainGlobals "bool" = some none)
    (z_list : PySem.W.nsIn K mainGlobals "list" = some none)
    (z_str : PySem.W.nsIn K mainGlobals "str" = some none)
    (z_divmod : PySem.W.nsIn K mainGlobals "divmod" = some none)
    (z_range : PySem.W.nsIn K mainGlobals "range" = some none)
    (z_isinstance : PySem.W.nsIn K mainGlobals "isinstance" = some none)
    (z_ValueError : PySem.W.nsIn K mainGlobals "ValueError" = some none)
    (z_KeyError : PySem.W.nsIn K mainGlobals "KeyError" = some none)
    (a_Shape : PySem.W.nsIn K mainGlobals "Shape" = some (some (.ref c_Shape)))
    (pg_Shape : PySem.W.plainGet K c_Shape Str.empty = true)
    (hd_Shape : PySem.W.hasDictIn K c_Shape = true)
    (po_Shape : PySem.W.plainOver K c_Shape = true)
    (sa_Shape : PySem.W.findIn K (.ref c_Shape) "__setattr__" = some (some (.builtin "object.__setattr__")))
    (a_Leaf : PySem.W.nsIn K mainGlobals "Leaf" = some (some (.ref c_Leaf)))
    (pg_Leaf : PySem.W.plainGet K c_Leaf Str.empty = true)
    (hd_Leaf : PySem.W.hasDictIn K c_Leaf = true)
    (po_Leaf : PySem.W.plainOver K c_Leaf = true)
    (sa_Leaf : PySem.W.findIn K (.ref c_Leaf) "__setattr__" = some (some (.builtin "object.__setattr__")))
    (n_Leaf_name : PySem.W.findIn K (.ref c_Leaf) "name" = some none)
    (n_Leaf_keep : PySem.W.findIn K (.ref c_Leaf) "keep" = some none)
    (n_Leaf_grace : PySem.W.findIn K (.ref c_Leaf) "grace" = some none)
    (n_Leaf_slow : PySem.W.findIn K (.ref c_Leaf) "slow" = some none)
    (mk_Leaf : PySem.W.makesIn K c_Leaf = true)
    (kc_Leaf : PySem.W.keepIn K (.ref c_Leaf) = true)
    (a_Steady : PySem.W.nsIn K mainGlobals "Steady" = some (some (.ref c_Steady)))
    (pg_Steady : PySem.W.plainGet K c_Steady Str.empty = true)
    (hd_Steady : PySem.W.hasDictIn K c_Steady = true)
    (po_Steady : PySem.W.plainOver K c_Steady = true)
    (sa_Steady : PySem.W.findIn K (.ref c_Steady) "__setattr__" = some (some (.builtin "object.__setattr__")))
    (n_Steady_name : PySem.W.findIn K (.ref c_Steady) "name" = some none)
    (n_Steady_keep : PySem.W.findIn K (.ref c_Steady) "keep" = some none)
    (n_Steady_grace : PySem.W.findIn K (.ref c_Steady) "grace" = some none)
    (n_Steady_slow : PySem.W.findIn K (.ref c_Steady) "slow" = some none)
    (n_Steady_many : PySem.W.findIn K (.ref c_Steady) "many" = some none)
    (mk_Steady : PySem.W.makesIn K c_Steady = true)
    (kc_Steady : PySem.W.keepIn K (.ref c_Steady) = true)
    (a_Faller : PySem.W.nsIn K mainGlobals "Faller" = some (some (.ref c_Faller)))
    (pg_Faller : PySem.W.plainGet K c_Faller Str.empty = true)
    (hd_Faller : PySem.W.hasDictIn K c_Faller = true)
    (po_Faller : PySem.W.plainOver K c_Faller = true)
    (sa_Faller : PySem.W.findIn K (.ref c_Faller) "__setattr__" = some (some (.builtin "object.__setattr__")))
    (n_Faller_name : PySem.W.findIn K (.ref c_Faller) "name" = some none)
    (n_Faller_keep : PySem.W.findIn K (.ref c_Faller) "keep" = some none)
    (n_Faller_grace : PySem.W.findIn K (.ref c_Faller) "grace" = some none)
    (n_Faller_slow : PySem.W.findIn K (.ref c_Faller) "slow" = some none)
    (n_Faller_many : PySem.W.findIn K (.ref c_Faller) "many" = some none)
    (mk_Faller : PySem.W.makesIn K c_Faller = true)
    (kc_Faller : PySem.W.keepIn K (.ref c_Faller) = true)
    (a_Minder : PySem.W.nsIn K mainGlobals "Minder" = some (some (.ref c_Minder)))
    (pg_Minder : PySem.W.plainGet K c_Minder Str.empty = true)
    (hd_Minder : PySem.W.hasDictIn K c_Minder = true)
    (po_Minder : PySem.W.plainOver K c_Minder = true)
    (sa_Minder : PySem.W.findIn K (.ref c_Minder) "__setattr__" = some (some (.builtin "object.__setattr__")))
    (n_Minder_name : PySem.W.findIn K (.ref c_Minder) "name" = some none)
    (n_Minder_keep : PySem.W.findIn K (.ref c_Minder) "keep" = some none)
    (n_Minder_most : PySem.W.findIn K (.ref c_Minder) "most" = some none)
    (n_Minder_span : PySem.W.findIn K (.ref c_Minder) "span" = some none)
    (mk_Minder : PySem.W.makesIn K c_Minder = true)
    (kc_Minder : PySem.W.keepIn K (.ref c_Minder) = true)
    (a_AllMinder : PySem.W.nsIn K mainGlobals "AllMinder" = some (some (.ref c_AllMinder)))
    (pg_AllMinder : PySem.W.plainGet K c_AllMinder Str.empty = true)
    (hd_AllMinder : PySem.W.hasDictIn K c_AllMinder = true)
    (po_AllMinder : PySem.W.plainOver K c_AllMinder = true)
    (sa_AllMinder : PySem.W.findIn K (.ref c_AllMinder) "__setattr__" = some (some (.builtin "object.__setattr__")))
    (n_AllMinder_name : PySem.W.findIn K (.ref c_AllMinder) "name" = some none)
    (n_AllMinder_keep : PySem.W.findIn K (.ref c_AllMinder) "keep" = some none)
    (n_AllMinder_most : PySem.W.findIn K (.ref c_AllMinder) "most" = some none)
    (n_AllMinder_span : PySem.W.findIn K (.ref c_AllMinder) "span" = some none)
    (mk_AllMinder : PySem.W.makesIn K c_AllMinder = true)
    (kc_AllMinder : PySem.W.keepIn K (.ref c_AllMinder) = true)
    (a_RestMinder : PySem.W.nsIn K mainGlobals "RestMinder" = some (some (.ref c_RestMinder)))
    (pg_RestMinder : PySem.W.plainGet K c_RestMinder Str.empty = true)
    (hd_RestMinder : PySem.W.hasDictIn K c_RestMinder = true)
    (po_RestMinder : PySem.W.plainOver K c_RestMinder = true)
    (sa_RestMinder : PySem.W.findIn K (.ref c_RestMinder) "__setattr__" = some (some (.builtin "object.__setattr__")))
    (n_RestMinder_name : PySem.W.findIn K (.ref c_RestMinder) "name" = some none)
    (n_RestMinder_keep : PySem.W.findIn K (.ref c_RestMinder) "keep" = some none)
    (n_RestMinder_most : PySem.W.findIn K (.ref c_RestMinder) "most" = some none)
    (n_RestMinder_span : PySem.W.findIn K (.ref c_RestMinder) "span" = some none)
    (mk_RestMinder : PySem.W.makesIn K c_RestMinder = true)
    (kc_RestMinder : PySem.W.keepIn K (.ref c_RestMinder) = true)
    (a_Tree : PySem.W.nsIn K mainGlobals "Tree" = some (some (.ref c_Tree)))
    (pg_Tree : PySem.W.plainGet K c_Tree Str.empty = true)
    (hd_Tree : PySem.W.hasDictIn K c_Tree = true)
    (po_Tree : PySem.W.plainOver K c_Tree = true)
    (sa_Tree : PySem.W.findIn K (.ref c_Tree) "__setattr__" = some (some (.builtin "object.__setattr__")))
    (n_Tree_shapes : PySem.W.findIn K (.ref c_Tree) "shapes" = some none)
    (n_Tree_elders : PySem.W.findIn K (.ref c_Tree) "elders" = some none)
    (n_Tree_young : PySem.W.findIn K (.ref c_Tree) "young" = some none)
    (n_Tree_known : PySem.W.findIn K (.ref c_Tree) "known" = some none)
    (mk_Tree : PySem.W.makesIn K c_Tree = true)
    (kc_Tree : PySem.W.keepIn K (.ref c_Tree) = true)
    (mg_SIGNS : mg "SIGNS" = some (.str "abcdefghijklmnopqrstuvwxyz0123456789" tk_SIGNS))
    (mg_BOUND : mg "BOUND" = some (.int 64 tk_BOUND))
    (mg_DEEPEST : mg "DEEPEST" = some (.int 8 tk_DEEPEST))
    (a_KEEPS : PySem.W.nsIn K mainGlobals "KEEPS" = some (some (.ref t_KEEPS)))
    (sq_KEEPS : ∀ H : Hp, SqT K H t_KEEPS [.str "always", .str "fallen", .str "never"])
    (a_fit_name : PySem.W.nsIn K mainGlobals "fit_name" = some (some (.ref f_fit_name)))
    (a_number_in : PySem.W.nsIn K mainGlobals "number_in" = some (some (.ref f_number_in)))
    (a_Shape___init__ : PySem.W.findIn K (.ref c_Shape) "__init__" = some (some (.ref f_Shape_init)))
    (i_Shape_init : PySem.W.isFn K (.ref f_Shape_init) = true)
    (a_Shape_leaf : PySem.W.findIn K (.ref c_Shape) "leaf" = some (some (.ref f_Shape_leaf)))
    (i_Shape_leaf : PySem.W.isFn K (.ref f_Shape_leaf) = true)
    (a_Leaf___init__ : PySem.W.findIn K (.ref c_Leaf) "__init__" = some (some (.ref f_Leaf_init)))
    (i_Leaf_init : PySem.W.isFn K (.ref f_Leaf_init) = true)
    (a_Leaf_leaf : PySem.W.findIn K (.ref c_Leaf) "leaf" = some (some (.ref f_Leaf_leaf)))
    (i_Leaf_leaf : PySem.W.isFn K (.ref f_Leaf_leaf) = true)
    (a_Leaf_work : PySem.W.findIn K (.ref c_Leaf) "work" = some (some (.ref f_Leaf_work)))
    (i_Leaf_work : PySem.W.isFn K (.ref f_Leaf_work) = true)
    (a_Leaf_words : PySem.W.findIn K (.ref c_Leaf) "words" = some (some (.ref f_Leaf_words)))
    (i_Leaf_words : PySem.W.isFn K (.ref f_Leaf_words) = true)
    (a_Steady___init__ : PySem.W.findIn K (.ref c_Steady) "__init__" = some (some (.ref f_Steady_init)))
    (i_Steady_init : PySem.W.isFn K (.ref f_Steady_init) = true)
    (a_Steady_work : PySem.W.findIn K (.ref c_Steady) "work" = some (some (.ref f_Steady_work)))
    (i_Steady_work : PySem.W.isFn K (.ref f_Steady_work) = true)
    (a_Faller___init__ : PySem.W.findIn K (.ref c_Faller) "__init__" = some (some (.ref f_Faller_init)))
    (i_Faller_init : PySem.W.isFn K (.ref f_Faller_init) = true)
    (a_Faller_work : PySem.W.findIn K (.ref c_Faller) "work" = some (some (.ref f_Faller_work)))
    (i_Faller_work : PySem.W.isFn K (.ref f_Faller_work) = true)
    (a_Minder___init__ : PySem.W.findIn K (.ref c_Minder) "__init__" = some (some (.ref f_Minder_init)))
    (i_Minder_init : PySem.W.isFn K (.ref f_Minder_init) = true)
    (a_Minder_way : PySem.W.findIn K (.ref c_Minder) "way" = some (some (.ref f_Minder_way)))
    (i_Minder_way : PySem.W.isFn K (.ref f_Minder_way) = true)
    (a_Minder_words : PySem.W.findIn K (.ref c_Minder) "words" = some (some (.ref f_Minder_words)))
    (i_Minder_words : PySem.W.isFn K (.ref f_Minder_words) = true)
    (a_AllMinder_way : PySem.W.findIn K (.ref c_AllMinder) "way" = some (some (.ref f_AllMinder_way)))
    (i_AllMinder_way : PySem.W.isFn K (.ref f_AllMinder_way) = true)
    (a_RestMinder_way : PySem.W.findIn K (.ref c_RestMinder) "way" = some (some (.ref f_RestMinder_way)))
    (i_RestMinder_way : PySem.W.isFn K (.ref f_RestMinder_way) = true)
    (a_Tree___init__ : PySem.W.findIn K (.ref c_Tree) "__init__" = some (some (.ref f_Tree_init)))
    (i_Tree_init : PySem.W.isFn K (.ref f_Tree_init) = true)
    (a_Tree_add : PySem.W.findIn K (.ref c_Tree) "add" = some (some (.ref f_Tree_add)))
    (i_Tree_add : PySem.W.isFn K (.ref f_Tree_add) = true)
    (a_Tree_depth : PySem.W.findIn K (.ref c_Tree) "depth" = some (some (.ref f_Tree_depth)))
    (i_Tree_depth : PySem.W.isFn K (.ref f_Tree_depth) = true)
    (a_leaf_by : PySem.W.nsIn K mainGlobals "leaf_by" = some (some (.ref f_leaf_by)))
    (a_minder_by : PySem.W.nsIn K mainGlobals "minder_by" = some (some (.ref f_minder_by)))
    (a_shape_by : PySem.W.nsIn K mainGlobals "shape_by" = some (some (.ref f_shape_by)))
    (a_elder_at : PySem.W.nsIn K mainGlobals "elder_at" = some (some (.ref f_elder_at)))
    (a_read : PySem.W.nsIn K mainGlobals "read" = some (some (.ref f_read)))
    (a_written : PySem.W.nsIn K mainGlobals "written" = some (some (.ref f_written)))
    (a_law_cell_at : PySem.W.nsIn K mainGlobals "_law_cell_at" = some (some (.ref f_law_cell_at)))
    (a_law_name : PySem.W.nsIn K mainGlobals "_law_name" = some (some (.ref f_law_name)))
    (a_law_minder_words : PySem.W.nsIn K mainGlobals "_law_minder_words" = some (some (.ref f_law_minder_words)))
    (a_law_leaf_words : PySem.W.nsIn K mainGlobals "_law_leaf_words" = some (some (.ref f_law_leaf_words)))
    (a_law_tree : PySem.W.nsIn K mainGlobals "_law_tree" = some (some (.ref f_law_tree)))
    (a_law_kinds : PySem.W.nsIn K mainGlobals "_law_kinds" = some (some (.ref f_law_kinds)))
    (a_law_odd : PySem.W.nsIn K mainGlobals "_law_odd" = some (some (.ref f_law_odd)))
    (a_law_refused : PySem.W.nsIn K mainGlobals "_law_refused" = some (some (.ref f_law_refused)))
    (a_law_steep : PySem.W.nsIn K mainGlobals "_law_steep" = some (some (.ref f_law_steep)))
    (a_law_special : PySem.W.nsIn K mainGlobals "_law_special" = some (some (.ref f_law_special)))
    (a_law_put_in : PySem.W.nsIn K mainGlobals "_law_put_in" = some (some (.ref f_law_put_in)))
    (a_law : PySem.W.nsIn K mainGlobals "law" = some (some (.ref f_law)))
    (a_BadRow : PySem.W.nsIn K mainGlobals "BadRow" = some (some (.ref c_BadRow)))
    (oc_BadRow : ∃ nm q N bs bm sn sub ab col dd k0 k1 k2 k3 k5, K.lookup c_BadRow = some (excClassObj nm q c_BadRow N bs bm true sn sub ab col dd k0 k1 k2 k3 k5 "ValueError.__new__") ∧ PySem.HandSPX.refsVE bm = true)
    (os_BadRow : PySem.W.findIn K (.ref c_BadRow) "__setattr__" = some (some (.builtin "object.__setattr__")))
    (oe_BadRow : PySem.W.subIn K (.ref c_BadRow) (.type "BaseException") = some true)
    (ot_BadRow : PySem.W.typeIn K (.ref c_BadRow) = some (.type "type"))
    (ok_BadRow : PySem.W.keepIn K (.ref c_BadRow) = true)
    (a_BadRow___init__ : PySem.W.findIn K (.ref c_BadRow) "__init__" = some (some (.ref f_BadRow_init)))
    (i_BadRow_init : PySem.W.isFn K (.ref f_BadRow_init) = true)
    (tf_BadRow_init : PySem.W.typeIn K (.ref f_BadRow_init) = some (.type "function"))
    (rd_Shape : PySem.W.readsIn K c_Shape (.type "type") = true)
    (ga_Shape : PySem.W.specialIn K (.ref c_Shape) "__getattribute__" = some (some (.builtin "type.__getattribute__")))
    (fc_Shape___init__ : PySem.W.findCls K (.ref c_Shape) (.type "type") "__init__" = some (.val (.ref f_Shape_init)))
    (rd_Leaf : PySem.W.readsIn K c_Leaf (.type "type") = true)
    (ga_Leaf : PySem.W.specialIn K (.ref c_Leaf) "__getattribute__" = some (some (.builtin "type.__getattribute__")))
    (fc_Leaf___init__ : PySem.W.findCls K (.ref c_Leaf) (.type "type") "__init__" = some (.val (.ref f_Leaf_init)))
    (a_AllMinder___init__ : PySem.W.findIn K (.ref c_AllMinder) "__init__" = some (some (.ref f_Minder_init)))
    (a_RestMinder___init__ : PySem.W.findIn K (.ref c_RestMinder) "__init__" = some (some (.ref f_Minder_init)))
    (a_Steady_leaf : PySem.W.findIn K (.ref c_Steady) "leaf" = some (some (.ref f_Leaf_leaf)))
    (a_Faller_leaf : PySem.W.findIn K (.ref c_Faller) "leaf" = some (some (.ref f_Leaf_leaf)))
    (a_Minder_leaf : PySem.W.findIn K (.ref c_Minder) "leaf" = some (some (.ref f_Shape_leaf)))
    (a_AllMinder_leaf : PySem.W.findIn K (.ref c_AllMinder) "leaf" = some (some (.ref f_Shape_leaf)))
    (a_RestMinder_leaf : PySem.W.findIn K (.ref c_RestMinder) "leaf" = some (some (.ref f_Shape_leaf)))
    (a_Steady_words : PySem.W.findIn K (.ref c_Steady) "words" = some (some (.ref f_Leaf_words)))
    (a_Faller_words : PySem.W.findIn K (.ref c_Faller) "words" = some (some (.ref f_Leaf_words)))
    (a_AllMinder_words : PySem.W.findIn K (.ref c_AllMinder) "words" = some (some (.ref f_Minder_words)))
    (a_RestMinder_words : PySem.W.findIn K (.ref c_RestMinder) "words" = some (some (.ref f_Minder_words)))
    (a_NoNumber : PySem.W.nsIn K mainGlobals "NoNumber" = some (some (.ref c_NoNumber)))
    (xf_NoNumber : PySem.W.excIn K c_NoNumber [.type "ValueError", .type "Exception", .type "BaseException", .type "object"] "ValueError.__new__" = true)
    (kc_NoNumber : PySem.W.keepIn K (.ref c_NoNumber) = true)
    (eb_NoNumber : PySem.W.subIn K (.ref c_NoNumber) (.type "BaseException") = some true)
    (et_NoNumber : PySem.W.typeIn K (.ref c_NoNumber) = some (.type "type"))
    (a_TooMany : PySem.W.nsIn K mainGlobals "TooMany" = some (some (.ref c_TooMany)))
    (xf_TooMany : PySem.W.excIn K c_TooMany [.type "ValueError", .type "Exception", .type "BaseException", .type "object"] "ValueError.__new__" = true)
    (kc_TooMany : PySem.W.keepIn K (.ref c_TooMany) = true)
    (eb_TooMany : PySem.W.subIn K (.ref c_TooMany) (.type "BaseException") = some true)
    (et_TooMany : PySem.W.typeIn K (.ref c_TooMany) = some (.type "type"))
    (a_NoTop : PySem.W.nsIn K mainGlobals "NoTop" = some (some (.ref c_NoTop)))
    (xf_NoTop : PySem.W.excIn K c_NoTop [.type "ValueError", .type "Exception", .type "BaseException", .type "object"] "ValueError.__new__" = true)
    (kc_NoTop : PySem.W.keepIn K (.ref c_NoTop) = true)
    (eb_NoTop : PySem.W.subIn K (.ref c_NoTop) (.type "BaseException") = some true)
    (et_NoTop : PySem.W.typeIn K (.ref c_NoTop) = some (.type "type"))
    (a_MinderError : PySem.W.nsIn K mainGlobals "MinderError" = some (some (.ref c_MinderError)))
    (a_NoLeaf : PySem.W.nsIn K mainGlobals "NoLeaf" = some (some (.ref c_NoLeaf)))
    (a_NoName : PySem.W.nsIn K mainGlobals "NoName" = some (some (.ref c_NoName)))
    (a_NotOn : PySem.W.nsIn K mainGlobals "NotOn" = some (some (.ref c_NotOn)))
    (cb_MinderError : PySem.W.subIn K (.ref c_MinderError) (.type "BaseException") = some true)
    (cd_MinderError : PySem.W.hasDictIn K c_MinderError = true)
    (ct_MinderError : PySem.W.typeIn K (.ref c_MinderError) = some (.type "type"))
    (cs_MinderError_NoNumber : PySem.W.subIn K (.ref c_NoNumber) (.ref c_MinderError) = some true)
    (cb_BadRow : PySem.W.subIn K (.ref c_BadRow) (.type "BaseException") = some true)
    (cd_BadRow : PySem.W.hasDictIn K c_BadRow = true)
    (ct_BadRow : PySem.W.typeIn K (.ref c_BadRow) = some (.type "type"))
    (rd_MinderError : PySem.W.readsIn K c_MinderError (.type "type") = true)
    (ga_MinderError : PySem.W.specialIn K (.ref c_MinderError) "__getattribute__" = some (some (.builtin "type.__getattribute__")))
    (fv_MinderError : PySem.W.findCls K (.ref c_MinderError) (.type "type") "__init__" = some (.val (.builtin "ValueError.__init__")))
    (nx_BadRow_row : PySem.W.findIn K (.ref c_BadRow) "row" = some none)
    (xg_BadRow : PySem.W.findIn K (.ref c_BadRow) "__getattribute__" = some (some (.builtin "BaseException.__getattribute__")))
    (xk_BadRow : PySem.W.findIn K (.ref c_BadRow) "__getattr__" = some none)
    (xs_BadRow : PySem.W.subIn K (.ref c_BadRow) (.type "BaseException") = some true)
    (xd_BadRow : PySem.W.hasDictIn K c_BadRow = true)
    (xa_BadRow : PySem.W.findIn K (.ref c_BadRow) "__class__" = some (some (.builtin "object.__class__")))
    (xn_BadRow : PySem.W.specialIn K (.builtin "object.__class__") "__get__" = some (some (.builtin "getset_descriptor.__get__")))
    (xt_BadRow : PySem.W.takesIn K (.builtin "object.__class__") = some true)
    (xm_BadRow : PySem.W.mroIn K c_BadRow (.type "object") = some true)
    (xg_TooMany : PySem.W.findIn K (.ref c_TooMany) "__getattribute__" = some (some (.builtin "BaseException.__getattribute__")))
    (xk_TooMany : PySem.W.findIn K (.ref c_TooMany) "__getattr__" = some none)
    (xs_TooMany : PySem.W.subIn K (.ref c_TooMany) (.type "BaseException") = some true)
    (xd_TooMany : PySem.W.hasDictIn K c_TooMany = true)
    (xa_TooMany : PySem.W.findIn K (.ref c_TooMany) "__class__" = some (some (.builtin "object.__class__")))
    (xn_TooMany : PySem.W.specialIn K (.builtin "object.__class__") "__get__" = some (some (.builtin "getset_descriptor.__get__")))
    (xt_TooMany : PySem.W.takesIn K (.builtin "object.__class__") = some true)
    (xm_TooMany : PySem.W.mroIn K c_TooMany (.type "object") = some true)
    (xg_NoTop : PySem.W.findIn K (.ref c_NoTop) "__getattribute__" = some (some (.builtin "BaseException.__getattribute__")))
    (xk_NoTop : PySem.W.findIn K (.ref c_NoTop) "__getattr__" = some none)
    (xs_NoTop : PySem.W.subIn K (.ref c_NoTop) (.type "BaseException") = some true)
    (xd_NoTop : PySem.W.hasDictIn K c_NoTop = true)
    (xa_NoTop : PySem.W.findIn K (.ref c_NoTop) "__class__" = some (some (.builtin "object.__class__")))
    (xn_NoTop : PySem.W.specialIn K (.builtin "object.__class__") "__get__" = some (some (.builtin "getset_descriptor.__get__")))
    (xt_NoTop : PySem.W.takesIn K (.builtin "object.__class__") = some true)
    (xm_NoTop : PySem.W.mroIn K c_NoTop (.type "object") = some true)
    (xm_BadRow_BadRow : PySem.W.exmOne K (.ref c_BadRow) (.ref c_BadRow) = some true)
    (xm_TooMany_BadRow : PySem.W.exmOne K (.ref c_TooMany) (.ref c_BadRow) = some false)
    (xm_NoTop_BadRow : PySem.W.exmOne K (.ref c_NoTop) (.ref c_BadRow) = some false)
    (xm_TooMany_MinderError : PySem.W.exmOne K (.ref c_TooMany) (.ref c_MinderError) = some true)
    (xm_NoTop_MinderError : PySem.W.exmOne K (.ref c_NoTop) (.ref c_MinderError) = some true)
    (kt_BadRow_BadRow : PySem.W.kitOne K (.ref c_BadRow) (.ref c_BadRow) = some true)
    (kt_BadRow_TooMany : PySem.W.kitOne K (.ref c_BadRow) (.ref c_TooMany) = some false)
    (kt_BadRow_NoTop : PySem.W.kitOne K (.ref c_BadRow) (.ref c_NoTop) = some false)
    (kt_BadRow_NoLeaf : PySem.W.kitOne K (.ref c_BadRow) (.ref c_NoLeaf) = some false)
    (kt_BadRow_NoName : PySem.W.kitOne K (.ref c_BadRow) (.ref c_NoName) = some false)
    (kt_BadRow_NoNumber : PySem.W.kitOne K (.ref c_BadRow) (.ref c_NoNumber) = some false)
    (kt_BadRow_NotOn : PySem.W.kitOne K (.ref c_BadRow) (.ref c_NotOn) = some false)
    (kt_TooMany_BadRow : PySem.W.kitOne K (.ref c_TooMany) (.ref c_BadRow) = some false)
    (kt_TooMany_TooMany : PySem.W.kitOne K (.ref c_TooMany) (.ref c_TooMany) = some true)
    (kt_TooMany_NoTop : PySem.W.kitOne K (.ref c_TooMany) (.ref c_NoTop) = some false)
    (kt_TooMany_NoLeaf : PySem.W.kitOne K (.ref c_TooMany) (.ref c_NoLeaf) = some false)
    (kt_TooMany_NoName : PySem.W.kitOne K (.ref c_TooMany) (.ref c_NoName) = some false)
    (kt_TooMany_NoNumber : PySem.W.kitOne K (.ref c_TooMany) (.ref c_NoNumber) = some false)
    (kt_TooMany_NotOn : PySem.W.kitOne K (.ref c_TooMany) (.ref c_NotOn) = some false)
    (kt_NoTop_BadRow : PySem.W.kitOne K (.ref c_NoTop) (.ref c_BadRow) = some false)
    (kt_NoTop_TooMany : PySem.W.kitOne K (.ref c_NoTop) (.ref c_TooMany) = some false)
    (kt_NoTop_NoTop : PySem.W.kitOne K (.ref c_NoTop) (.ref c_NoTop) = some true)
    (kt_NoTop_NoLeaf : PySem.W.kitOne K (.ref c_NoTop) (.ref c_NoLeaf) = some false)
    (kt_NoTop_NoName : PySem.W.kitOne K (.ref c_NoTop) (.ref c_NoName) = some false)
    (kt_NoTop_NoNumber : PySem.W.kitOne K (.ref c_NoTop) (.ref c_NoNumber) = some false)
    (kt_NoTop_NotOn : PySem.W.kitOne K (.ref c_NoTop) (.ref c_NotOn) = some false) :
    ∃ fd : FuncData, (∀ (s : Shared) (v : Value), BindsTo s fd ⟨[v], []⟩ [("_law_script", v)]) ∧ ∀ base : Heap, K.In base → base.Ns mainGlobals mg → FnOk l.prog w K mg base CX0 10 fa fd ["_law_script"] (spLaw K) := by
  have e := hfa.symm.trans (PySem.W.mg_of X G a_law)
  cases e
  have T : Bt mg := ⟨PySem.W.mg_none_of X G z_len, PySem.W.mg_none_of X G z_int, PySem.W.mg_none_of X G z_bool, PySem.W.mg_none_of X G z_list, PySem.W.mg_none_of X G z_str, PySem.W.mg_none_of X G z_divmod, PySem.W.mg_none_of X G z_range, PySem.W.mg_none_of X G z_isinstance, PySem.W.mg_none_of X G z_ValueError, PySem.W.mg_none_of X G z_KeyError⟩
  have mg_Shape := PySem.W.mg_of X G a_Shape
  have cf_Shape : ClsF K c_Shape [] := ⟨⟨pg_Shape, hd_Shape, po_Shape, sa_Shape⟩, clsF_nil⟩
  have mg_Leaf := PySem.W.mg_of X G a_Leaf
  have cf_Leaf : ClsF K c_Leaf ["name", "keep", "grace", "slow"] := ⟨⟨pg_Leaf, hd_Leaf, po_Leaf, sa_Leaf⟩, (clsF_cons n_Leaf_name <| (clsF_cons n_Leaf_keep <| (clsF_cons n_Leaf_grace <| (clsF_cons n_Leaf_slow <| clsF_nil))))⟩
  have mg_Steady := PySem.W.mg_of X G a_Steady
  have cf_Steady : ClsF K c_Steady ["name", "keep", "grace", "slow", "many"] := ⟨⟨pg_Steady, hd_Steady, po_Steady, sa_Steady⟩, (clsF_cons n_Steady_name <| (clsF_cons n_Steady_keep <| (clsF_cons n_Steady_grace <| (clsF_cons n_Steady_slow <| (clsF_cons n_Steady_many <| clsF_nil)))))⟩
  have mg_Faller := PySem.W.mg_of X G a_Faller
  have cf_Faller : ClsF K c_Faller ["name", "keep", "grace", "slow", "many"] := ⟨⟨pg_Faller, hd_Faller, po_Faller, sa_Faller⟩, (clsF_cons n_Faller_name <| (clsF_cons n_Faller_keep <| (clsF_cons n_Faller_grace <| (clsF_cons n_Faller_slow <| (clsF_cons n_Faller_many <| clsF_nil)))))⟩
  have mg_Minder := PySem.W.mg_of X G a_Minder
  have cf_Minder : ClsF K c_Minder ["name", "keep", "most", "span"] := ⟨⟨pg_Minder, hd_Minder, po_Minder, sa_Minder⟩, (clsF_cons n_Minder_name <| (clsF_cons n_Minder_keep <| (clsF_cons n_Minder_most <| (clsF_cons n_Minder_span <| clsF_nil))))⟩
  have mg_AllMinder := PySem.W.mg_of X G a_AllMinder
  have cf_AllMinder : ClsF K c_AllMinder ["name", "keep", "most", "span"] := ⟨⟨pg_AllMinder, hd_AllMinder, po_AllMinder, sa_AllMinder⟩, (clsF_cons n_AllMinder_name <| (clsF_cons n_AllMinder_keep <| (clsF_cons n_AllMinder_most <| (clsF_cons n_AllMinder_span <| clsF_nil))))⟩
  have mg_RestMinder := PySem.W.mg_of X G a_RestMinder
  have cf_RestMinder : ClsF K c_RestMinder ["name", "keep", "most", "span"] := ⟨⟨pg_RestMinder, hd_RestMinder, po_RestMinder, sa_RestMinder⟩, (clsF_cons n_RestMinder_name <| (clsF_cons n_RestMinder_keep <| (clsF_cons n_RestMinder_most <| (clsF_cons n_RestMinder_span <| clsF_nil))))⟩
  have mg_Tree := PySem.W.mg_of X G a_Tree
  have cf_Tree : ClsF K c_Tree ["shapes", "elders", "young", "known"] := ⟨⟨pg_Tree, hd_Tree, po_Tree, sa_Tree⟩, (clsF_cons n_Tree_shapes <| (clsF_cons n_Tree_elders <| (clsF_cons n_Tree_young <| (clsF_cons n_Tree_known <| clsF_nil))))⟩
  have mg_KEEPS := PySem.W.mg_of X G a_KEEPS
  have k_fit_name := D_fit_name.kp
  have F_fit_name := fun_of (st := s_fit_name) D_fit_name
  have b_fit_name := F_fit_name.binds (ps := ["text"]) fun _ _ _ _ _ _ us hl => match us, hl with | [_], _ => rfl
  have k_number_in := D_number_in.kp
  have F_number_in : FunS K "number_in" "number_in" s_number_in [.int 1000000] f_number_in _ := D_number_in
  have k_Shape_init := D_Shape_init.kp
  have F_Shape_init := fun_of (st := s_Shape_init) D_Shape_init
  have b_Shape_init := F_Shape_init.binds (ps := ["self", "name", "keep"]) fun _ _ _ _ _ _ us hl => match us, hl with | [_, _, _], _ => rfl
  have k_Shape_leaf := D_Shape_leaf.kp
  have F_Shape_leaf := fun_of (st := s_Shape_leaf) D_Shape_leaf
  have b_Shape_leaf := F_Shape_leaf.binds (ps := ["self"]) fun _ _ _ _ _ _ us hl => match us, hl with | [_], _ => rfl
  have k_Leaf_init := D_Leaf_init.kp
  have F_Leaf_init : FunS K "__init__" "Leaf.__init__" s_Leaf_init [.int 0, .int 0] f_Leaf_init _ := D_Leaf_init
  have k_Leaf_leaf := D_Leaf_leaf.kp
  have F_Leaf_leaf := fun_of (st := s_Leaf_leaf) D_Leaf_leaf
  have b_Leaf_leaf := F_Leaf_leaf.binds (ps := ["self"]) fun _ _ _ _ _ _ us hl => match us, hl with | [_], _ => rfl
  have k_Leaf_work := D_Leaf_work.kp
  have F_Leaf_work := fun_of (st := s_Leaf_work) D_Leaf_work
  have b_Leaf_work := F_Leaf_work.binds (ps := ["self"]) fun _ _ _ _ _ _ us hl => match us, hl with | [_], _ => rfl
  have k_Leaf_words := D_Leaf_words.kp
  have F_Leaf_words := fun_of (st := s_Leaf_words) D_Leaf_words
  have b_Leaf_words := F_Leaf_words.binds (ps := ["self"]) fun _ _ _ _ _ _ us hl => match us, hl with | [_], _ => rfl
  have k_Steady_init := D_Steady_init.kp
  have F_Steady_init : FunS K "__init__" "Steady.__init__" s_Steady_init [.int 0, .int 0] f_Steady_init _ := D_Steady_init
  have k_Steady_work := D_Steady_work.kp
  have F_Steady_work := fun_of (st := s_Steady_work) D_Steady_work
  have b_Steady_work := F_Steady_work.binds (ps := ["self"]) fun _ _ _ _ _ _ us hl => match us, hl with | [_], _ => rfl
  have k_Faller_init := D_Faller_init.kp
  have F_Faller_init : FunS K "__init__" "Faller.__init__" s_Faller_init [.int 0, .int 0] f_Faller_init _ := D_Faller_init
  have k_Faller_work := D_Faller_work.kp
  have F_Faller_work := fun_of (st := s_Faller_work) D_Faller_work
  have b_Faller_work := F_Faller_work.binds (ps := ["self"]) fun _ _ _ _ _ _ us hl => match us, hl with | [_], _ => rfl
  have k_Minder_init := D_Minder_init.kp
  have F_Minder_init : FunS K "__init__" "Minder.__init__" s_Minder_init [.int 1, .int 1] f_Minder_init _ := D_Minder_init
  have k_Minder_way := D_Minder_way.kp
  have F_Minder_way := fun_of (st := s_Minder_way) D_Minder_way
  have b_Minder_way := F_Minder_way.binds (ps := ["self"]) fun _ _ _ _ _ _ us hl => match us, hl with | [_], _ => rfl
  have k_Minder_words := D_Minder_words.kp
  have F_Minder_words := fun_of (st := s_Minder_words) D_Minder_words
  have b_Minder_words := F_Minder_words.binds (ps := ["self"]) fun _ _ _ _ _ _ us hl => match us, hl with | [_], _ => rfl
  have k_AllMinder_way := D_AllMinder_way.kp
  have F_AllMinder_way := fun_of (st := s_AllMinder_way) D_AllMinder_way
  have b_AllMinder_way := F_AllMinder_way.binds (ps := ["self"]) fun _ _ _ _ _ _ us hl => match us, hl with | [_], _ => rfl
  have k_RestMinder_way := D_RestMinder_way.kp
  have F_RestMinder_way := fun_of (st := s_RestMinder_way) D_RestMinder_way
  have b_RestMinder_way := F_RestMinder_way.binds (ps := ["self"]) fun _ _ _ _ _ _ us hl => match us, hl with | [_], _ => rfl
  have k_Tree_init := D_Tree_init.kp
  have F_Tree_init := fun_of (st := s_Tree_init) D_Tree_init
  have b_Tree_init := F_Tree_init.binds (ps := ["self"]) fun _ _ _ _ _ _ us hl => match us, hl with | [_], _ => rfl
  have k_Tree_add := D_Tree_add.kp
  have F_Tree_add := fun_of (st := s_Tree_add) D_Tree_add
  have b_Tree_add := F_Tree_add.binds (ps := ["self", "shape", "elder"]) fun _ _ _ _ _ _ us hl => match us, hl with | [_, _, _], _ => rfl
  have k_Tree_depth := D_Tree_depth.kp
  have F_Tree_depth := fun_of (st := s_Tree_depth) D_Tree_depth
  have b_Tree_depth := F_Tree_depth.binds (ps := ["self", "at"]) fun _ _ _ _ _ _ us hl => match us, hl with | [_, _], _ => rfl
  have k_leaf_by := D_leaf_by.kp
  have F_leaf_by := fun_of (st := s_leaf_by) D_leaf_by
  have b_leaf_by := F_leaf_by.binds (ps := ["words"]) fun _ _ _ _ _ _ us hl => match us, hl with | [_], _ => rfl
  have k_minder_by := D_minder_by.kp
  have F_minder_by := fun_of (st := s_minder_by) D_minder_by
  have b_minder_by := F_minder_by.binds (ps := ["words"]) fun _ _ _ _ _ _ us hl => match us, hl with | [_], _ => rfl
  have k_shape_by := D_shape_by.kp
  have F_shape_by := fun_of (st := s_shape_by) D_shape_by
  have b_shape_by := F_shape_by.binds (ps := ["words"]) fun _ _ _ _ _ _ us hl => match us, hl with | [_], _ => rfl
  have k_elder_at := D_elder_at.kp
  have F_elder_at := fun_of (st := s_elder_at) D_elder_at
  have b_elder_at := F_elder_at.binds (ps := ["tree", "deep"]) fun _ _ _ _ _ _ us hl => match us, hl with | [_, _], _ => rfl
  have k_read := D_read.kp
  have F_read := fun_of (st := s_read) D_read
  have b_read := F_read.binds (ps := ["text"]) fun _ _ _ _ _ _ us hl => match us, hl with | [_], _ => rfl
  have k_written := D_written.kp
  have F_written := fun_of (st := s_written) D_written
  have b_written := F_written.binds (ps := ["tree"]) fun _ _ _ _ _ _ us hl => match us, hl with | [_], _ => rfl
  have k_law_cell_at := D_law_cell_at.kp
  have F_law_cell_at := fun_of (st := s_law_cell_at) D_law_cell_at
  have b_law_cell_at := F_law_cell_at.binds (ps := ["_law_script", "_law_k"]) fun _ _ _ _ _ _ us hl => match us, hl with | [_, _], _ => rfl
  have k_law_name := D_law_name.kp
  have F_law_name := fun_of (st := s_law_name) D_law_name
  have b_law_name := F_law_name.binds (ps := ["_law_k", "_law_mark"]) fun _ _ _ _ _ _ us hl => match us, hl with | [_, _], _ => rfl
  have k_law_minder_words := D_law_minder_words.kp
  have F_law_minder_words := fun_of (st := s_law_minder_words) D_law_minder_words
  have b_law_minder_words := F_law_minder_words.binds (ps := ["_law_cell", "_law_other"]) fun _ _ _ _ _ _ us hl => match us, hl with | [_, _], _ => rfl
  have k_law_leaf_words := D_law_leaf_words.kp
  have F_law_leaf_words := fun_of (st := s_law_leaf_words) D_law_leaf_words
  have b_law_leaf_words := F_law_leaf_words.binds (ps := ["_law_cell", "_law_other"]) fun _ _ _ _ _ _ us hl => match us, hl with | [_, _], _ => rfl
  have k_law_tree := D_law_tree.kp
  have F_law_tree := fun_of (st := s_law_tree) D_law_tree
  have b_law_tree := F_law_tree.binds (ps := ["_law_script", "_law_first", "_law_count", "_law_mark"]) fun _ _ _ _ _ _ us hl => match us, hl with | [_, _, _, _], _ => rfl
  have k_law_kinds := D_law_kinds.kp
  have F_law_kinds := fun_of (st := s_law_kinds) D_law_kinds
  have b_law_kinds := F_law_kinds.binds (ps := ["_law_error"]) fun _ _ _ _ _ _ us hl => match us, hl with | [_], _ => rfl
  have k_law_odd := D_law_odd.kp
  have F_law_odd := fun_of (st := s_law_odd) D_law_odd
  have b_law_odd := F_law_odd.binds (ps := ["_law_way", "_law_name_here", "_law_deep"]) fun _ _ _ _ _ _ us hl => match us, hl with | [_, _, _], _ => rfl
  have k_law_refused := D_law_refused.kp
  have F_law_refused := fun_of (st := s_law_refused) D_law_refused
  have b_law_refused := F_law_refused.binds (ps := ["_law_text"]) fun _ _ _ _ _ _ us hl => match us, hl with | [_], _ => rfl
  have k_law_steep := D_law_steep.kp
  have F_law_steep := fun_of (st := s_law_steep) D_law_steep
  have b_law_steep := F_law_steep.binds (ps := []) fun _ _ _ _ _ _ us hl => match us, hl with | [], _ => rfl
  have k_law_special := D_law_special.kp
  have F_law_special := fun_of (st := s_law_special) D_law_special
  have b_law_special := F_law_special.binds (ps := ["_law_way", "_law_good", "_law_count", "_law_other"]) fun _ _ _ _ _ _ us hl => match us, hl with | [_, _, _, _], _ => rfl
  have k_law_put_in := D_law_put_in.kp
  have F_law_put_in := fun_of (st := s_law_put_in) D_law_put_in
  have b_law_put_in := F_law_put_in.binds (ps := ["_law_rows", "_law_odd_here", "_law_at", "_law_other"]) fun _ _ _ _ _ _ us hl => match us, hl with | [_, _, _, _], _ => rfl
  have k_law := D_law.kp
  have F_law := fun_of (st := s_law) D_law
  have b_law := F_law.binds (ps := ["_law_script"]) fun _ _ _ _ _ _ us hl => match us, hl with | [_], _ => rfl
  have mg_BadRow := PySem.W.mg_of X G a_BadRow
  have ox_BadRow : OexC K c_BadRow := ⟨oc_BadRow, os_BadRow, oe_BadRow, ot_BadRow, ok_BadRow⟩
  have k_BadRow_init := D_BadRow_init.kp
  have F_BadRow_init := fun_of (st := s_BadRow_init) D_BadRow_init
  have b_BadRow_init := F_BadRow_init.binds (ps := ["self", "row"]) fun _ _ _ _ _ _ us hl => match us, hl with | [_, _], _ => rfl
  have mg_NoNumber := PySem.W.mg_of X G a_NoNumber
  have e_NoNumber : ErrK K mg "NoNumber" c_NoNumber := ⟨xf_NoNumber, mg_NoNumber, kc_NoNumber, eb_NoNumber, et_NoNumber⟩
  have mg_TooMany := PySem.W.mg_of X G a_TooMany
  have e_TooMany : ErrK K mg "TooMany" c_TooMany := ⟨xf_TooMany, mg_TooMany, kc_TooMany, eb_TooMany, et_TooMany⟩
  have mg_NoTop := PySem.W.mg_of X G a_NoTop
  have e_NoTop : ErrK K mg "NoTop" c_NoTop := ⟨xf_NoTop, mg_NoTop, kc_NoTop, eb_NoTop, et_NoTop⟩
  have mg_MinderError := PySem.W.mg_of X G a_MinderError
  have mg_NoLeaf := PySem.W.mg_of X G a_NoLeaf
  have mg_NoName := PySem.W.mg_of X G a_NoName
  have mg_NotOn := PySem.W.mg_of X G a_NotOn
  have nm_MinderError : NamK K mg "MinderError" c_MinderError := ⟨mg_MinderError⟩
  have ex_MinderError_NoNumber := PySem.W.exm_ref cb_MinderError cd_MinderError ct_MinderError cs_MinderError_NoNumber
  have nm_BadRow : NamK K mg "BadRow" c_BadRow := ⟨mg_BadRow⟩
  have v_MinderError : VecK K mg "MinderError" c_MinderError _ := ⟨mg_MinderError, ⟨rd_MinderError, ga_MinderError⟩, fv_MinderError⟩
  have xc_BadRow : ExcC K c_BadRow := ⟨xg_BadRow, xk_BadRow, xs_BadRow, xd_BadRow, xa_BadRow, xn_BadRow, xt_BadRow, xm_BadRow⟩
  have xc_TooMany : ExcC K c_TooMany := ⟨xg_TooMany, xk_TooMany, xs_TooMany, xd_TooMany, xa_TooMany, xn_TooMany, xt_TooMany, xm_TooMany⟩
  have xc_NoTop : ExcC K c_NoTop := ⟨xg_NoTop, xk_NoTop, xs_NoTop, xd_NoTop, xa_NoTop, xn_NoTop, xt_NoTop, xm_NoTop⟩
  refine ⟨fd_law, fun s v => FunD.bindsA (ps := ["_law_script"]) D_law (fun _ _ _ _ _ _ us hl => match us, hl with | [_], _ => rfl) s [v] rfl, fun base _ _ => ?_⟩
  have SB : Sev K mg c_BadRow true false false false false false false := ⟨xc_BadRow, ⟨_, mg_BadRow, kt_BadRow_BadRow⟩, ⟨_, mg_TooMany, kt_BadRow_TooMany⟩, ⟨_, mg_NoTop, kt_BadRow_NoTop⟩, ⟨_, mg_NoLeaf, kt_BadRow_NoLeaf⟩, ⟨_, mg_NoName, kt_BadRow_NoName⟩, ⟨_, mg_NoNumber, kt_BadRow_NoNumber⟩, ⟨_, mg_NotOn, kt_BadRow_NotOn⟩⟩
  have SM : Sev K mg c_TooMany false true false false false false false := ⟨xc_TooMany, ⟨_, mg_BadRow, kt_TooMany_BadRow⟩, ⟨_, mg_TooMany, kt_TooMany_TooMany⟩, ⟨_, mg_NoTop, kt_TooMany_NoTop⟩, ⟨_, mg_NoLeaf, kt_TooMany_NoLeaf⟩, ⟨_, mg_NoName, kt_TooMany_NoName⟩, ⟨_, mg_NoNumber, kt_TooMany_NoNumber⟩, ⟨_, mg_NotOn, kt_TooMany_NotOn⟩⟩
  have SN : Sev K mg c_NoTop false false true false false false false := ⟨xc_NoTop, ⟨_, mg_BadRow, kt_NoTop_BadRow⟩, ⟨_, mg_TooMany, kt_NoTop_TooMany⟩, ⟨_, mg_NoTop, kt_NoTop_NoTop⟩, ⟨_, mg_NoLeaf, kt_NoTop_NoLeaf⟩, ⟨_, mg_NoName, kt_NoTop_NoName⟩, ⟨_, mg_NoNumber, kt_NoTop_NoNumber⟩, ⟨_, mg_NotOn, kt_NoTop_NotOn⟩⟩
  have ER : Ers K mg c_BadRow c_TooMany c_NoTop c_MinderError := ⟨SB, SM, SN, xm_BadRow_BadRow, xm_TooMany_BadRow, xm_NoTop_BadRow, xm_TooMany_MinderError, xm_NoTop_MinderError⟩
  have S_Shape___init__ : CMt l.prog w K mg base CX0 "Shape" "__init__" 1 ["self", "name", "keep"] [] (spShape (K := K)) := ⟨⟨_, _, _, _, [], mg_Shape, ⟨rd_Shape, ga_Shape⟩, fc_Shape___init__, (ok_Shape_init F_Shape_init), k_Shape_init, b_Shape_init, .nil⟩⟩
  obtain ⟨dt_Leaf___init__, ht_Leaf___init__, hu_Leaf___init__⟩ := F_Leaf_init.binds1 (ps := ["self", "name", "keep", "grace", "slow"]) 5 2 (List.cons_ne_nil _ _) rfl fun _ _ _ _ _ _ _ us its hu hi => match us, hu, its, hi with | [_, _, _, _, _], _, [_, _], _ => ⟨_, rfl, rfl⟩
  have S_Leaf___init__ : CMt l.prog w K mg base CX0 "Leaf" "__init__" 2 ["self", "name", "keep", "grace", "slow"] [] (spLeaf K) := ⟨⟨_, _, _, _, dt_Leaf___init__, mg_Leaf, ⟨rd_Leaf, ga_Leaf⟩, fc_Leaf___init__, (ok_Leaf_init F_Leaf_init S_Shape___init__), k_Leaf_init, hu_Leaf___init__, ht_Leaf___init__⟩⟩
  obtain ⟨ds_Leaf_4, hd_Leaf_4, hb_Leaf_4⟩ := F_Leaf_init.binds1 (ps := ["self", "name", "keep", "grace", "slow"]) 5 2 (List.cons_ne_nil _ _) rfl fun _ _ _ _ _ _ _ us its hu hi => match us, hu, its, hi with | [_, _, _, _, _], _, [_, _], _ => ⟨_, rfl, rfl⟩
  have K_Leaf_4 : Mak l.prog w K mg base CX0 "Leaf" c_Leaf 2 ["self", "name", "keep", "grace", "slow"] [] (spLeaf K) := ⟨⟨_, _, ds_Leaf_4, (ok_Leaf_init F_Leaf_init S_Shape___init__), mg_Leaf, ⟨mk_Leaf, a_Leaf___init__, i_Leaf_init, kc_Leaf⟩, hb_Leaf_4, hd_Leaf_4⟩⟩
  obtain ⟨ds_Steady_5, hd_Steady_5, hb_Steady_5⟩ := F_Steady_init.binds1 (ps := ["self", "name", "keep", "many", "grace", "slow"]) 6 2 (List.cons_ne_nil _ _) rfl fun _ _ _ _ _ _ _ us its hu hi => match us, hu, its, hi with | [_, _, _, _, _, _], _, [_, _], _ => ⟨_, rfl, rfl⟩
  have K_Steady_5 : Mak l.prog w K mg base CX0 "Steady" c_Steady 3 ["self", "name", "keep", "many", "grace", "slow"] [] (spMany K c_Steady) := ⟨⟨_, _, ds_Steady_5, (ok_Steady_init F_Steady_init cf_Steady S_Leaf___init__), mg_Steady, ⟨mk_Steady, a_Steady___init__, i_Steady_init, kc_Steady⟩, hb_Steady_5, hd_Steady_5⟩⟩
  obtain ⟨ds_Faller_5, hd_Faller_5, hb_Faller_5⟩ := F_Faller_init.binds1 (ps := ["self", "name", "keep", "many", "grace", "slow"]) 6 2 (List.cons_ne_nil _ _) rfl fun _ _ _ _ _ _ _ us its hu hi => match us, hu, its, hi with | [_, _, _, _, _, _], _, [_, _], _ => ⟨_, rfl, rfl⟩
  have K_Faller_5 : Mak l.prog w K mg base CX0 "Faller" c_Faller 3 ["self", "name", "keep", "many", "grace", "slow"] [] (spMany K c_Faller) := ⟨⟨_, _, ds_Faller_5, (ok_Faller_init F_Faller_init cf_Faller S_Leaf___init__), mg_Faller, ⟨mk_Faller, a_Faller___init__, i_Faller_init, kc_Faller⟩, hb_Faller_5, hd_Faller_5⟩⟩
  obtain ⟨ds_Minder_4, hd_Minder_4, hb_Minder_4⟩ := F_Minder_init.binds1 (ps := ["self", "name", "keep", "most", "span"]) 5 2 (List.cons_ne_nil _ _) rfl fun _ _ _ _ _ _ _ us its hu hi => match us, hu, its, hi with | [_, _, _, _, _], _, [_, _], _ => ⟨_, rfl, rfl⟩
  have K_Minder_4 : Mak l.prog w K mg base CX0 "Minder" c_Minder 2 ["self", "name", "keep", "most", "span"] [] (spMinder K c_Minder) := ⟨⟨_, _, ds_Minder_4, (ok_Minder_init F_Minder_init cf_Minder S_Shape___init__), mg_Minder, ⟨mk_Minder, a_Minder___init__, i_Minder_init, kc_Minder⟩, hb_Minder_4, hd_Minder_4⟩⟩
  obtain ⟨ds_AllMinder_4, hd_AllMinder_4, hb_AllMinder_4⟩ := F_Minder_init.binds1 (ps := ["self", "name", "keep", "most", "span"]) 5 2 (List.cons_ne_nil _ _) rfl fun _ _ _ _ _ _ _ us its hu hi => match us, hu, its, hi with | [_, _, _, _, _], _, [_, _], _ => ⟨_, rfl, rfl⟩
  have K_AllMinder_4 : Mak l.prog w K mg base CX0 "AllMinder" c_AllMinder 2 ["self", "name", "keep", "most", "span"] [] (spMinder K c_AllMinder) := ⟨⟨_, _, ds_AllMinder_4, (ok_Minder_init F_Minder_init cf_AllMinder S_Shape___init__), mg_AllMinder, ⟨mk_AllMinder, a_AllMinder___init__, i_Minder_init, kc_AllMinder⟩, hb_AllMinder_4, hd_AllMinder_4⟩⟩
  obtain ⟨ds_RestMinder_4, hd_RestMinder_4, hb_RestMinder_4⟩ := F_Minder_init.binds1 (ps := ["self", "name", "keep", "most", "span"]) 5 2 (List.cons_ne_nil _ _) rfl fun _ _ _ _ _ _ _ us its hu hi => match us, hu, its, hi with | [_, _, _, _, _], _, [_, _], _ => ⟨_, rfl, rfl⟩
  have K_RestMinder_4 : Mak l.prog w K mg base CX0 "RestMinder" c_RestMinder 2 ["self", "name", "keep", "most", "span"] [] (spMinder K c_RestMinder) := ⟨⟨_, _, ds_RestMinder_4, (ok_Minder_init F_Minder_init cf_RestMinder S_Shape___init__), mg_RestMinder, ⟨mk_RestMinder, a_RestMinder___init__, i_Minder_init, kc_RestMinder⟩, hb_RestMinder_4, hd_RestMinder_4⟩⟩
  have M_Leaf_leaf : Mth l.prog w K mg base CX0 c_Leaf "leaf" 1 ["self"] [] (spTruth c_Leaf true) := ⟨⟨_, _, [], (ok_Leaf_leaf F_Leaf_leaf), ⟨a_Leaf_leaf, i_Leaf_leaf, k_Leaf_leaf⟩, b_Leaf_leaf, .nil⟩⟩
  have M_Steady_leaf : Mth l.prog w K mg base CX0 c_Steady "leaf" 1 ["self"] [] (spTruth c_Steady true) := ⟨⟨_, _, [], (ok_Leaf_leaf F_Leaf_leaf), ⟨a_Steady_leaf, i_Leaf_leaf, k_Leaf_leaf⟩, b_Leaf_leaf, .nil⟩⟩
  have M_Faller_leaf : Mth l.prog w K mg base CX0 c_Faller "leaf" 1 ["self"] [] (spTruth c_Faller true) := ⟨⟨_, _, [], (ok_Leaf_leaf F_Leaf_leaf), ⟨a_Faller_leaf, i_Leaf_leaf, k_Leaf_leaf⟩, b_Leaf_leaf, .nil⟩⟩
  have M_Minder_leaf : Mth l.prog w K mg base CX0 c_Minder "leaf" 1 ["self"] [] (spTruth c_Minder false) := ⟨⟨_, _, [], (ok_Shape_leaf F_Shape_leaf), ⟨a_Minder_leaf, i_Shape_leaf, k_Shape_leaf⟩, b_Shape_leaf, .nil⟩⟩
  have M_AllMinder_leaf : Mth l.prog w K mg base CX0 c_AllMinder "leaf" 1 ["self"] [] (spTruth c_AllMinder false) := ⟨⟨_, _, [], (ok_Shape_leaf F_Shape_leaf), ⟨a_AllMinder_leaf, i_Shape_leaf, k_Shape_leaf⟩, b_Shape_leaf, .nil⟩⟩
  have M_RestMinder_leaf : Mth l.prog w K mg base CX0 c_RestMinder "leaf" 1 ["self"] [] (spTruth c_RestMinder false) := ⟨⟨_, _, [], (ok_Shape_leaf F_Shape_leaf), ⟨a_RestMinder_leaf, i_Shape_leaf, k_Shape_leaf⟩, b_Shape_leaf, .nil⟩⟩
  have M_Leaf_work : Mth l.prog w K mg base CX0 c_Leaf "work" 1 ["self"] [] (spWork c_Leaf 0) := ⟨⟨_, _, [], (ok_Leaf_work F_Leaf_work), ⟨a_Leaf_work, i_Leaf_work, k_Leaf_work⟩, b_Leaf_work, .nil⟩⟩
  have M_Steady_work : Mth l.prog w K mg base CX0 c_Steady "work" 1 ["self"] [] (spWork c_Steady 1) := ⟨⟨_, _, [], (ok_Steady_work F_Steady_work T cf_Steady), ⟨a_Steady_work, i_Steady_work, k_Steady_work⟩, b_Steady_work, .nil⟩⟩
  have M_Faller_work : Mth l.prog w K mg base CX0 c_Faller "work" 1 ["self"] [] (spWork c_Faller 2) := ⟨⟨_, _, [], (ok_Faller_work F_Faller_work T cf_Faller), ⟨a_Faller_work, i_Faller_work, k_Faller_work⟩, b_Faller_work, .nil⟩⟩
  have M_Leaf_words : Mth l.prog w K mg base CX0 c_Leaf "words" 2 ["self"] [] (spWords c_Leaf 0) := ⟨⟨_, _, [], (ok_Leaf_words F_Leaf_words T cf_Leaf (by decide) M_Leaf_work), ⟨a_Leaf_words, i_Leaf_words, k_Leaf_words⟩, b_Leaf_words, .nil⟩⟩
  have M_Steady_words : Mth l.prog w K mg base CX0 c_Steady "words" 2 ["self"] [] (spWords c_Steady 1) := ⟨⟨_, _, [], (ok_Leaf_words F_Leaf_words T (cf_Steady.sub (by decide)) (by decide) M_Steady_work), ⟨a_Steady_words, i_Leaf_words, k_Leaf_words⟩, b_Leaf_words, .nil⟩⟩
  have M_Faller_words : Mth l.prog w K mg base CX0 c_Faller "words" 2 ["self"] [] (spWords c_Faller 2) := ⟨⟨_, _, [], (ok_Leaf_words F_Leaf_words T (cf_Faller.sub (by decide)) (by decide) M_Faller_work), ⟨a_Faller_words, i_Leaf_words, k_Leaf_words⟩, b_Leaf_words, .nil⟩⟩
  have M_Minder_way : Mth l.prog w K mg base CX0 c_Minder "way" 1 ["self"] [] (spSay c_Minder "one") := ⟨⟨_, _, [], (ok_Minder_way F_Minder_way), ⟨a_Minder_way, i_Minder_way, k_Minder_way⟩, b_Minder_way, .nil⟩⟩
  have M_AllMinder_way : Mth l.prog w K mg base CX0 c_AllMinder "way" 1 ["self"] [] (spSay c_AllMinder "all") := ⟨⟨_, _, [], (ok_AllMinder_way F_AllMinder_way), ⟨a_AllMinder_way, i_AllMinder_way, k_AllMinder_way⟩, b_AllMinder_way, .nil⟩⟩
  have M_RestMinder_way : Mth l.prog w K mg base CX0 c_RestMinder "way" 1 ["self"] [] (spSay c_RestMinder "rest") := ⟨⟨_, _, [], (ok_RestMinder_way F_RestMinder_way), ⟨a_RestMinder_way, i_RestMinder_way, k_RestMinder_way⟩, b_RestMinder_way, .nil⟩⟩
  have M_Minder_words : Mth l.prog w K mg base CX0 c_Minder "words" 2 ["self"] [] (spMinWords c_Minder "one") := ⟨⟨_, _, [], (ok_Minder_words F_Minder_words T cf_Minder M_Minder_way), ⟨a_Minder_words, i_Minder_words, k_Minder_words⟩, b_Minder_words, .nil⟩⟩
  have M_AllMinder_words : Mth l.prog w K mg base CX0 c_AllMinder "words" 2 ["self"] [] (spMinWords c_AllMinder "all") := ⟨⟨_, _, [], (ok_Minder_words F_Minder_words T cf_AllMinder M_AllMinder_way), ⟨a_AllMinder_words, i_Minder_words, k_Minder_words⟩, b_Minder_words, .nil⟩⟩
  have M_RestMinder_words : Mth l.prog w K mg base CX0 c_RestMinder "words" 2 ["self"] [] (spMinWords c_RestMinder "rest") := ⟨⟨_, _, [], (ok_Minder_words F_Minder_words T cf_RestMinder M_RestMinder_way), ⟨a_RestMinder_words, i_Minder_words, k_Minder_words⟩, b_Minder_words, .nil⟩⟩
  have KC : KdC K (clsH c_Leaf c_Steady c_Faller c_Minder c_AllMinder c_RestMinder) := kdC_of cf_Leaf cf_Steady cf_Faller cf_Minder cf_AllMinder cf_RestMinder
  have KL : KdL l.prog w K mg base (clsH c_Leaf c_Steady c_Faller c_Minder c_AllMinder c_RestMinder) := kdL_of M_Leaf_leaf M_Steady_leaf M_Faller_leaf M_Minder_leaf M_AllMinder_leaf M_RestMinder_leaf
  have KW : KdW l.prog w K mg base (clsH c_Leaf c_Steady c_Faller c_Minder c_AllMinder c_RestMinder) := kdW_of M_Leaf_words M_Steady_words M_Faller_words M_Minder_words M_AllMinder_words M_RestMinder_words
  obtain ⟨dc_number_in_1, hc_number_in_1, bc_number_in_1⟩ := F_number_in.binds1 (ps := ["text", "most"]) 1 0 (List.cons_ne_nil _ _) rfl fun _ _ _ _ _ _ _ us its hu hi => match us, hu, its, hi with | [_], _, [_], _ => ⟨_, rfl, rfl⟩
  have C_number_in_1 : Cal l.prog w K mg base (CXN l.prog w) "number_in" 1 ["text", "most"] [.int 1000000] (spNum c_NoNumber) := ⟨⟨_, _, dc_number_in_1, (ok_number F_number_in T e_NoNumber), PySem.W.mg_of X G a_number_in, k_number_in, bc_number_in_1, hc_number_in_1⟩⟩
  have C_fit_name : Cal l.prog w K mg base CX0 "fit_name" 1 ["text"] [] spFit := ⟨⟨_, _, [], (ok_fit F_fit_name T mg_SIGNS), PySem.W.mg_of X G a_fit_name, k_fit_name, b_fit_name, .nil⟩⟩
  have C_leaf_by : Cal l.prog w K mg base (CXN l.prog w) "leaf_by" 5 ["words"] [] (spBy K (clsH c_Leaf c_Steady c_Faller c_Minder c_AllMinder c_RestMinder) c_NoNumber leafR) := ⟨⟨_, _, [], (ok_leaf_by F_leaf_by T KC C_number_in_1 K_Leaf_4 K_Steady_5 K_Faller_5), PySem.W.mg_of X G a_leaf_by, k_leaf_by, b_leaf_by, .nil⟩⟩
  have C_minder_by : Cal l.prog w K mg base (CXN l.prog w) "minder_by" 5 ["words"] [] (spBy K (clsH c_Leaf c_Steady c_Faller c_Minder c_AllMinder c_RestMinder) c_NoNumber minderR) := ⟨⟨_, _, [], (ok_minder_by F_minder_by T KC C_number_in_1 K_Minder_4 K_AllMinder_4 K_RestMinder_4), PySem.W.mg_of X G a_minder_by, k_minder_by, b_minder_by, .nil⟩⟩
  have C_shape_by : Cal l.prog w K mg base CX0 "shape_by" 6 ["words"] [] (spShapeBy K (clsH c_Leaf c_Steady c_Faller c_Minder c_AllMinder c_RestMinder)) := ⟨⟨_, _, [], (ok_shape_by F_shape_by T nm_MinderError ex_MinderError_NoNumber mg_KEEPS sq_KEEPS C_fit_name C_leaf_by C_minder_by), PySem.W.mg_of X G a_shape_by, k_shape_by, b_shape_by, .nil⟩⟩
  have M_Tree_depth : Mth l.prog w K mg base CX0 c_Tree "depth" 1 ["self", "at"] [] (spDepth c_Tree (clsH c_Leaf c_Steady c_Faller c_Minder c_AllMinder c_RestMinder)) := ⟨⟨_, _, [], (ok_depth F_Tree_depth cf_Tree), ⟨a_Tree_depth, i_Tree_depth, k_Tree_depth⟩, b_Tree_depth, .nil⟩⟩
  have C_elder_at : Cal l.prog w K mg base CX0 "elder_at" 2 ["tree", "deep"] [] (spElder c_Tree (clsH c_Leaf c_Steady c_Faller c_Minder c_AllMinder c_RestMinder)) := ⟨⟨_, _, [], (ok_elder F_elder_at T cf_Tree KC KL M_Tree_depth), PySem.W.mg_of X G a_elder_at, k_elder_at, b_elder_at, .nil⟩⟩
  have K_Tree_0 : Mak l.prog w K mg base CX0 "Tree" c_Tree 1 ["self"] [] (spTInit c_Tree (clsH c_Leaf c_Steady c_Faller c_Minder c_AllMinder c_RestMinder)) := ⟨⟨_, _, [], (ok_Tree_init F_Tree_init cf_Tree), mg_Tree, ⟨mk_Tree, a_Tree___init__, i_Tree_init, kc_Tree⟩, b_Tree_init, .nil⟩⟩
  have M_Tree_add : Mth l.prog w K mg base CX0 c_Tree "add" 1 ["self", "shape", "elder"] [] (spAdd c_Tree (clsH c_Leaf c_Steady c_Faller c_Minder c_AllMinder c_RestMinder)) := ⟨⟨_, _, [], (ok_add F_Tree_add T cf_Tree KC), ⟨a_Tree_add, i_Tree_add, k_Tree_add⟩, b_Tree_add, .nil⟩⟩
  have OB : OexK l.prog w K mg base "BadRow" c_BadRow 1 ["self", "row"] (spBadRow c_BadRow) := ⟨ox_BadRow, mg_BadRow, ⟨_, _, a_BadRow___init__, tf_BadRow_init, ok_badrow F_BadRow_init ox_BadRow nx_BadRow_row v_MinderError, b_BadRow_init⟩⟩
  have RD := ok_read (P := l.prog) (w := w) (base := base) F_read T OB e_TooMany e_NoTop cf_Tree KC KL mg_BOUND mg_DEEPEST K_Tree_0 M_Tree_add C_shape_by C_elder_at
  have C_read : Cal l.prog w K mg base (CXN l.prog w) "read" 7 ["text"] [] (spRead c_Tree (clsH c_Leaf c_Steady c_Faller c_Minder c_AllMinder c_RestMinder) c_BadRow c_TooMany c_NoTop) := ⟨⟨_, _, [], RD, PySem.W.mg_of X G a_read, k_read, b_read, .nil⟩⟩
  have C_read0 : Cal l.prog w K mg base CX0 "read" 7 ["text"] [] (fun vs H Q _ => spRead c_Tree (clsH c_Leaf c_Steady c_Faller c_Minder c_AllMinder c_RestMinder) c_BadRow c_TooMany c_NoTop vs H Q E0) := ⟨⟨_, _, [], calm RD, PySem.W.mg_of X G a_read, k_read, b_read, .nil⟩⟩
  have C_written : Cal l.prog w K mg base CX0 "written" 3 ["tree"] [] (spWritten c_Tree (clsH c_Leaf c_Steady c_Faller c_Minder c_AllMinder c_RestMinder)) := ⟨⟨_, _, [], (ok_written F_written T cf_Tree KC KW M_Tree_depth), PySem.W.mg_of X G a_written, k_written, b_written, .nil⟩⟩
  have C_law_cell_at : Cal l.prog w K mg base CX0 "_law_cell_at" 1 ["_law_script", "_law_k"] [] (spCell K) := ⟨⟨_, _, [], (ok_cell F_law_cell_at T), PySem.W.mg_of X G a_law_cell_at, k_law_cell_at, b_law_cell_at, .nil⟩⟩
  have C_law_name : Cal l.prog w K mg base CX0 "_law_name" 1 ["_law_k", "_law_mark"] [] spNm := ⟨⟨_, _, [], (ok_nm F_law_name), PySem.W.mg_of X G a_law_name, k_law_name, b_law_name, .nil⟩⟩
  have C_law_minder_words : Cal l.prog w K mg base CX0 "_law_minder_words" 1 ["_law_cell", "_law_other"] [] spMinW := ⟨⟨_, _, [], (ok_minw F_law_minder_words T), PySem.W.mg_of X G a_law_minder_words, k_law_minder_words, b_law_minder_words, .nil⟩⟩
  have C_law_leaf_words : Cal l.prog w K mg base CX0 "_law_leaf_words" 1 ["_law_cell", "_law_other"] [] spLfW := ⟨⟨_, _, [], (ok_lfw F_law_leaf_words T), PySem.W.mg_of X G a_law_leaf_words, k_law_leaf_words, b_law_leaf_words, .nil⟩⟩
  have C_law_tree : Cal l.prog w K mg base CX0 "_law_tree" 2 ["_law_script", "_law_first", "_law_count", "_law_mark"] [] (spTree K) := ⟨⟨_, _, [], (ok_tree F_law_tree T C_law_cell_at C_law_name C_law_minder_words C_law_leaf_words), PySem.W.mg_of X G a_law_tree, k_law_tree, b_law_tree, .nil⟩⟩
  have C_law_kinds : CalE l.prog w K mg base "_law_kinds" 1 ["_law_error"] (spKinds mg K) := ⟨⟨_, _, (ok_kinds F_law_kinds T), PySem.W.mg_of X G a_law_kinds, k_law_kinds, b_law_kinds⟩⟩
  have C_law_refused : Cal l.prog w K mg base CX0 "_law_refused" 8 ["_law_text"] [] spRefused := ⟨⟨_, _, [], (ok_refused F_law_refused T nm_BadRow nm_MinderError ⟨⟨xg_BadRow, xk_BadRow, xs_BadRow, xd_BadRow⟩, nx_BadRow_row⟩ ER C_read C_law_kinds), PySem.W.mg_of X G a_law_refused, k_law_refused, b_law_refused, .nil⟩⟩
  have C_law_odd : Cal l.prog w K mg base CX0 "_law_odd" 1 ["_law_way", "_law_name_here", "_law_deep"] [] spOdd := ⟨⟨_, _, [], (ok_odd F_law_odd T), PySem.W.mg_of X G a_law_odd, k_law_odd, b_law_odd, .nil⟩⟩
  have C_law_steep : Cal l.prog w K mg base CX0 "_law_steep" 1 [] [] spSteep := ⟨⟨_, _, [], (ok_steep F_law_steep T), PySem.W.mg_of X G a_law_steep, k_law_steep, b_law_steep, .nil⟩⟩
  have C_law_special : Cal l.prog w K mg base CX0 "_law_special" 9 ["_law_way", "_law_good", "_law_count", "_law_other"] [] spSpecial := ⟨⟨_, _, [], (ok_special F_law_special T C_law_refused C_law_steep C_law_odd), PySem.W.mg_of X G a_law_special, k_law_special, b_law_special, .nil⟩⟩
  have C_law_put_in : Cal l.prog w K mg base CX0 "_law_put_in" 9 ["_law_rows", "_law_odd_here", "_law_at", "_law_other"] [] spPut := ⟨⟨_, _, [], (ok_put F_law_put_in T C_law_refused), PySem.W.mg_of X G a_law_put_in, k_law_put_in, b_law_put_in, .nil⟩⟩
  exact (ok_law F_law T C_law_cell_at C_law_tree C_law_odd C_law_put_in C_law_special C_read0 C_written)
theorem facts_mk {l : PySem.W.OpenLaw} {w : World} {K : PySem.W.Frag} {h : Heap} {mg : Str → Option Value} {fa : Addr} (KX : K.In h) (G : h.Ns mainGlobals mg) (hfa : mg "law" = some (.ref fa)) (c : obsM fnL exL K = valM fnL exL) :
    ∃ fd : FuncData, (∀ (s : Shared) (v : Value), BindsTo s fd ⟨[v], []⟩ [("_law_script", v)]) ∧ ∀ base : Heap, K.In base → base.Ns mainGlobals mg → FnOk l.prog w K mg base CX0 10 fa fd ["_law_script"] (spLaw K) := by
  have cd := saysM_d c
  obtain ⟨fd_fit_name, D_fit_name⟩ := cd.def_ 0 (d := d_fit_name) rfl
  obtain ⟨fd_number_in, D_number_in⟩ := cd.def_ 1 (d := d_number_in) rfl
  obtain ⟨fd_Shape_init, D_Shape_init⟩ := cd.def_ 2 (d := d_Shape_init) rfl
  obtain ⟨fd_Shape_leaf, D_Shape_leaf⟩ := cd.def_ 3 (d := d_Shape_leaf) rfl
  obtain ⟨fd_Leaf_init, D_Leaf_init⟩ := cd.def_ 4 (d := d_Leaf_init) rfl
  obtain ⟨fd_Leaf_leaf, D_Leaf_leaf⟩ := cd.def_ 5 (d := d_Leaf_leaf) rfl
  obtain ⟨fd_Leaf_work, D_Leaf_work⟩ := cd.def_ 6 (d := d_Leaf_work) rfl
  obtain ⟨fd_Leaf_words, D_Leaf_words⟩ := cd.def_ 7 (d := d_Leaf_words) rfl
  obtain ⟨fd_Steady_init, D_Steady_init⟩ := cd.def_ 8 (d := d_Steady_init) rfl
  obtain ⟨fd_Steady_work, D_Steady_work⟩ := cd.def_ 9 (d := d_Steady_work) rfl
  obtain ⟨fd_Faller_init, D_Faller_init⟩ := cd.def_ 10 (d := d_Faller_init) rfl
  obtain ⟨fd_Faller_work, D_Faller_work⟩ := cd.def_ 11 (d := d_Faller_work) rfl
  obtain ⟨fd_Minder_init, D_Minder_init⟩ := cd.def_ 12 (d := d_Minder_init) rfl
  obtain ⟨fd_Minder_way, D_Minder_way⟩ := cd.def_ 13 (d := d_Minder_way) rfl
  obtain ⟨fd_Minder_words, D_Minder_words⟩ := cd.def_ 14 (d := d_Minder_words) rfl
  obtain ⟨fd_AllMinder_way, D_AllMinder_way⟩ := cd.def_ 15 (d := d_AllMinder_way) rfl
  obtain ⟨fd_RestMinder_way, D_RestMinder_way⟩ := cd.def_ 16 (d := d_RestMinder_way) rfl
  obtain ⟨fd_Tree_init, D_Tree_init⟩ := cd.def_ 17 (d := d_Tree_init) rfl
  obtain ⟨fd_Tree_add, D_Tree_add⟩ := cd.def_ 18 (d := d_Tree_add) rfl
  obtain ⟨fd_Tree_depth, D_Tree_depth⟩ := cd.def_ 19 (d := d_Tree_depth) rfl
  obtain ⟨fd_leaf_by, D_leaf_by⟩ := cd.def_ 20 (d := d_leaf_by) rfl
  obtain ⟨fd_minder_by, D_minder_by⟩ := cd.def_ 21 (d := d_minder_by) rfl
  obtain ⟨fd_shape_by, D_shape_by⟩ := cd.def_ 22 (d := d_shape_by) rfl
  obtain ⟨fd_elder_at, D_elder_at⟩ := cd.def_ 23 (d := d_elder_at) rfl
  obtain ⟨fd_read, D_read⟩ := cd.def_ 24 (d := d_read) rfl
  obtain ⟨fd_written, D_written⟩ := cd.def_ 25 (d := d_written) rfl
  obtain ⟨fd_law_cell_at, D_law_cell_at⟩ := cd.def_ 26 (d := d_law_cell_at) rfl
  obtain ⟨fd_law_name, D_law_name⟩ := cd.def_ 27 (d := d_law_name) rfl
  obtain ⟨fd_law_minder_words, D_law_minder_words⟩ := cd.def_ 28 (d := d_law_minder_words) rfl
  obtain ⟨fd_law_leaf_words, D_law_leaf_words⟩ := cd.def_ 29 (d := d_law_leaf_words) rfl
  obtain ⟨fd_law_tree, D_law_tree⟩ := cd.def_ 30 (d := d_law_tree) rfl
  obtain ⟨fd_law_kinds, D_law_kinds⟩ := cd.def_ 31 (d := d_law_kinds) rfl
  obtain ⟨fd_law_odd, D_law_odd⟩ := cd.def_ 32 (d := d_law_odd) rfl
  obtain ⟨fd_law_refused, D_law_refused⟩ := cd.def_ 33 (d := d_law_refused) rfl
  obtain ⟨fd_law_steep, D_law_steep⟩ := cd.def_ 34 (d := d_law_steep) rfl
  obtain ⟨fd_law_special, D_law_special⟩ := cd.def_ 35 (d := d_law_special) rfl
  obtain ⟨fd_law_put_in, D_law_put_in⟩ := cd.def_ 36 (d := d_law_put_in) rfl
  obtain ⟨fd_law, D_law⟩ := cd.def_ 37 (d := d_law) rfl
  obtain ⟨fd_BadRow_init, D_BadRow_init⟩ := cd.def_ 38 (d := d_BadRow_init) rfl
  obtain ⟨tk_SIGNS, mg_SIGNS⟩ := He.str_ok KX G (saysM_x c 94 (f := x94) rfl)
  obtain ⟨tk_BOUND, mg_BOUND⟩ := He.int_ok KX G (saysM_x c 95 (f := x95) rfl)
  obtain ⟨tk_DEEPEST, mg_DEEPEST⟩ := He.int_ok KX G (saysM_x c 96 (f := x96) rfl)
  exact all_mk (c_Shape := (He.ga K "Shape")) (c_Leaf := (He.ga K "Leaf")) (c_Steady := (He.ga K "Steady")) (c_Faller := (He.ga K "Faller")) (c_Minder := (He.ga K "Minder")) (c_AllMinder := (He.ga K "AllMinder")) (c_RestMinder := (He.ga K "RestMinder")) (c_Tree := (He.ga K "Tree")) (t_KEEPS := (He.ga K "KEEPS")) (f_fit_name := (He.fAd K ("fit_name", none))) (f_number_in := (He.fAd K ("number_in", none))) (f_Shape_init := (He.fAd K ("Shape", some "__init__"))) (f_Shape_leaf := (He.fAd K ("Shape", some "leaf"))) (f_Leaf_init := (He.fAd K ("Leaf", some "__init__"))) (f_Leaf_leaf := (He.fAd K ("Leaf", some "leaf"))) (f_Leaf_work := (He.fAd K ("Leaf", some "work"))) (f_Leaf_words := (He.fAd K ("Leaf", some "words"))) (f_Steady_init := (He.fAd K ("Steady", some "__init__"))) (f_Steady_work := (He.fAd K ("Steady", some "work"))) (f_Faller_init := (He.fAd K ("Faller", some "__init__"))) (f_Faller_work := (He.fAd K ("Faller", some "work"))) (f_Minder_init := (He.fAd K ("Minder", some "__init__"))) (f_Minder_way := (He.fAd K ("Minder", some "way"))) (f_Minder_words := (He.fAd K ("Minder", some "words"))) (f_AllMinder_way := (He.fAd K ("AllMinder", some "way"))) (f_RestMinder_way := (He.fAd K ("RestMinder", some "way"))) (f_Tree_init := (He.fAd K ("Tree", some "__init__"))) (f_Tree_add := (He.fAd K ("Tree", some "add"))) (f_Tree_depth := (He.fAd K ("Tree", some "depth"))) (f_leaf_by := (He.fAd K ("leaf_by", none))) (f_minder_by := (He.fAd K ("minder_by", none))) (f_shape_by := (He.fAd K ("shape_by", none))) (f_elder_at := (He.fAd K ("elder_at", none))) (f_read := (He.fAd K ("read", none))) (f_written := (He.fAd K ("written", none))) (f_law_cell_at := (He.fAd K ("_law_cell_at", none))) (f_law_name := (He.fAd K ("_law_name", none))) (f_law_minder_words := (He.fAd K ("_law_minder_words", none))) (f_law_leaf_words := (He.fAd K ("_law_leaf_words", none))) (f_law_tree := (He.fAd K ("_law_tree", none))) (f_law_kinds := (He.fAd K ("_law_kinds", none))) (f_law_odd := (He.fAd K ("_law_odd", none))) (f_law_refused := (He.fAd K ("_law_refused", none))) (f_law_steep := (He.fAd K ("_law_steep", none))) (f_law_special := (He.fAd K ("_law_special", none))) (f_law_put_in := (He.fAd K ("_law_put_in", none))) (f_law := (He.fAd K ("law", none))) (c_BadRow := (He.ga K "BadRow")) (f_BadRow_init := (He.fAd K ("BadRow", some "__init__"))) (c_NoNumber := (He.ga K "NoNumber")) (c_TooMany := (He.ga K "TooMany")) (c_NoTop := (He.ga K "NoTop")) (c_MinderError := (He.ga K "MinderError")) (c_NoLeaf := (He.ga K "NoLeaf")) (c_NoName := (He.ga K "NoName")) (c_NotOn := (He.ga K "NotOn")) KX G hfa (D_fit_name := D_fit_name) (D_number_in := D_number_in) (D_Shape_init := D_Shape_init) (D_Shape_leaf := D_Shape_leaf) (D_Leaf_init := D_Leaf_init) (D_Leaf_leaf := D_Leaf_leaf) (D_Leaf_work := D_Leaf_work) (D_Leaf_words := D_Leaf_words) (D_Steady_init := D_Steady_init) (D_Steady_work := D_Steady_work) (D_Faller_init := D_Faller_init) (D_Faller_work := D_Faller_work) (D_Minder_init := D_Minder_init) (D_Minder_way := D_Minder_way) (D_Minder_words := D_Minder_words) (D_AllMinder_way := D_AllMinder_way) (D_RestMinder_way := D_RestMinder_way) (D_Tree_init := D_Tree_init) (D_Tree_add := D_Tree_add) (D_Tree_depth := D_Tree_depth) (D_leaf_by := D_leaf_by) (D_minder_by := D_minder_by) (D_shape_by := D_shape_by) (D_elder_at := D_elder_at) (D_read := D_read) (D_written := D_written) (D_law_cell_at := D_law_cell_at) (D_law_name := D_law_name) (D_law_minder_words := D_law_minder_words) (D_law_leaf_words := D_law_leaf_words) (D_law_tree := D_law_tree) (D_law_kinds := D_law_kinds) (D_law_odd := D_law_odd) (D_law_refused := D_law_refused) (D_law_steep := D_law_steep) (D_law_special := D_law_special) (D_law_put_in := D_law_put_in) (D_law := D_law) (D_BadRow_init := D_BadRow_init)
    (z_len := of_decide_eq_true (saysM_x c 0 (f := x0) rfl))
    (z_int := of_decide_eq_true (saysM_x c 1 (f := x1) rfl))
    (z_bool := of_decide_eq_true (saysM_x c 2 (f := x2) rfl))
    (z_list := of_decide_eq_true (saysM_x c 3 (f := x3) rfl))
    (z_str := of_decide_eq_true (saysM_x c 4 (f := x4) rfl))
    (z_divmod := of_decide_eq_true (saysM_x c 5 (f := x5) rfl))
    (z_range := of_decide_eq_true (saysM_x c 6 (f := x6) rfl))
    (z_isinstance := of_decide_eq_true (saysM_x c 7 (f := x7) rfl))
    (z_ValueError := of_decide_eq_true (saysM_x c 8 (f := x8) rfl))
    (z_KeyError := of_decide_eq_true (saysM_x c 9 (f := x9) rfl))
    (a_Shape := of_decide_eq_true (saysM_x c 10 (f := x10) rfl))
    (pg_Shape := of_decide_eq_true (saysM_x c 11 (f := x11) rfl))
    (hd_Shape := of_decide_eq_true (saysM_x c 12 (f := x12) rfl))
    (po_Shape := of_decide_eq_true (saysM_x c 13 (f := x13) rfl))
    (sa_Shape := of_decide_eq_true (saysM_x c 14 (f := x14) rfl))
    (a_Leaf := of_decide_eq_true (saysM_x c 15 (f := x15) rfl))
    (pg_Leaf := of_decide_eq_true (saysM_x c 16 (f := x16) rfl))
    (hd_Leaf := of_decide_eq_true (saysM_x c 17 (f := x17) rfl))
    (po_Leaf := of_decide_eq_true (saysM_x c 18 (f := x18) rfl))
    (sa_Leaf := of_decide_eq_true (saysM_x c 19 (f := x19) rfl))
    (n_Leaf_name := of_decide_eq_true (saysM_x c 20 (f := x20) rfl))
    (n_Leaf_keep := of_decide_eq_true (saysM_x c 21 (f := x21) rfl))
    (n_Leaf_grace := of_decide_eq_true (saysM_x c 22 (f := x22) rfl))
    (n_Leaf_slow := of_decide_eq_true (saysM_x c 23 (f := x23) rfl))
    (mk_Leaf := of_decide_eq_true (saysM_x c 24 (f := x24) rfl))
    (kc_Leaf := of_decide_eq_true (saysM_x c 25 (f := x25) rfl))
    (a_Steady := of_decide_eq_true (saysM_x c 26 (f := x26) rfl))
    (pg_Steady := of_decide_eq_true (saysM_x c 27 (f := x27) rfl))
    (hd_Steady := of_decide_eq_true (saysM_x c 28 (f := x28) rfl))
    (po_Steady := of_decide_eq_true (saysM_x c 29 (f := x29) rfl))
    (sa_Steady := of_decide_eq_true (saysM_x c 30 (f := x30) rfl))
    (n_Steady_name := of_decide_eq_true (saysM_x c 31 (f := x31) rfl))
    (n_Steady_keep := of_decide_eq_true (saysM_x c 32 (f := x32) rfl))
    (n_Steady_grace := of_decide_eq_true (saysM_x c 33 (f := x33) rfl))
    (n_Steady_slow := of_decide_eq_true (saysM_x c 34 (f := x34) rfl))
    (n_Steady_many := of_decide_eq_true (saysM_x c 35 (f := x35) rfl))
    (mk_Steady := of_decide_eq_true (saysM_x c 36 (f := x36) rfl))
    (kc_Steady := of_decide_eq_true (saysM_x c 37 (f := x37) rfl))
    (a_Faller := of_decide_eq_true (saysM_x c 38 (f := x38) rfl))
    (pg_Faller := of_decide_eq_true (saysM_x c 39 (f := x39) rfl))
    (hd_Faller := of_decide_eq_true (saysM_x c 40 (f := x40) rfl))
    (po_Faller := of_decide_eq_true (saysM_x c 41 (f := x41) rfl))
    (sa_Faller := of_decide_eq_true (saysM_x c 42 (f := x42) rfl))
    (n_Faller_name := of_decide_eq_true (saysM_x c 43 (f := x43) rfl))
    (n_Faller_keep := of_decide_eq_true (saysM_x c 44 (f := x44) rfl))
    (n_Faller_grace := of_decide_eq_true (saysM_x c 45 (f := x45) rfl))
    (n_Faller_slow := of_decide_eq_true (saysM_x c 46 (f := x46) rfl))
    (n_Faller_many := of_decide_eq_true (saysM_x c 47 (f := x47) rfl))
    (mk_Faller := of_decide_eq_true (saysM_x c 48 (f := x48) rfl))
    (kc_Faller := of_decide_eq_true (saysM_x c 49 (f := x49) rfl))
    (a_Minder := of_decide_eq_true (saysM_x c 50 (f := x50) rfl))
    (pg_Minder := of_decide_eq_true (saysM_x c 51 (f := x51) rfl))
    (hd_Minder := of_decide_eq_true (saysM_x c 52 (f := x52) rfl))
    (po_Minder := of_decide_eq_true (saysM_x c 53 (f := x53) rfl))
    (sa_Minder := of_decide_eq_true (saysM_x c 54 (f := x54) rfl))
    (n_Minder_name := of_decide_eq_true (saysM_x c 55 (f := x55) rfl))
    (n_Minder_keep := of_decide_eq_true (saysM_x c 56 (f := x56) rfl))
    (n_Minder_most := of_decide_eq_true (saysM_x c 57 (f := x57) rfl))
    (n_Minder_span := of_decide_eq_true (saysM_x c 58 (f := x58) rfl))
    (mk_Minder := of_decide_eq_true (saysM_x c 59 (f := x59) rfl))
    (kc_Minder := of_decide_eq_true (saysM_x c 60 (f := x60) rfl))
    (a_AllMinder := of_decide_eq_true (saysM_x c 61 (f := x61) rfl))
    (pg_AllMinder := of_decide_eq_true (saysM_x c 62 (f := x62) rfl))
    (hd_AllMinder := of_decide_eq_true (saysM_x c 63 (f := x63) rfl))
    (po_AllMinder := of_decide_eq_true (saysM_x c 64 (f := x64) rfl))
    (sa_AllMinder := of_decide_eq_true (saysM_x c 65 (f := x65) rfl))
    (n_AllMinder_name := of_decide_eq_true (saysM_x c 66 (f := x66) rfl))
    (n_AllMinder_keep := of_decide_eq_true (saysM_x c 67 (f := x67) rfl))
    (n_AllMinder_most := of_decide_eq_true (saysM_x c 68 (f := x68) rfl))
    (n_AllMinder_span := of_decide_eq_true (saysM_x c 69 (f := x69) rfl))
    (mk_AllMinder := of_decide_eq_true (saysM_x c 70 (f := x70) rfl))
    (kc_AllMinder := of_decide_eq_true (saysM_x c 71 (f := x71) rfl))
    (a_RestMinder := of_decide_eq_true (saysM_x c 72 (f := x72) rfl))
    (pg_RestMinder := of_decide_eq_true (saysM_x c 73 (f := x73) rfl))
    (hd_RestMinder := of_decide_eq_true (saysM_x c 74 (f := x74) rfl))
    (po_RestMinder := of_decide_eq_true (saysM_x c 75 (f := x75) rfl))
    (sa_RestMinder := of_decide_eq_true (saysM_x c 76 (f := x76) rfl))
    (n_RestMinder_name := of_decide_eq_true (saysM_x c 77 (f := x77) rfl))
    (n_RestMinder_keep := of_decide_eq_true (saysM_x c 78 (f := x78) rfl))
    (n_RestMinder_most := of_decide_eq_true (saysM_x c 79 (f := x79) rfl))
    (n_RestMinder_span := of_decide_eq_true (saysM_x c 80 (f := x80) rfl))
    (mk_RestMinder := of_decide_eq_true (saysM_x c 81 (f := x81) rfl))
    (kc_RestMinder := of_decide_eq_true (saysM_x c 82 (f := x82) rfl))
    (a_Tree := of_decide_eq_true (saysM_x c 83 (f := x83) rfl))
    (pg_Tree := of_decide_eq_true (saysM_x c 84 (f := x84) rfl))
    (hd_Tree := of_decide_eq_true (saysM_x c 85 (f := x85) rfl))
    (po_Tree := of_decide_eq_true (saysM_x c 86 (f := x86) rfl))
    (sa_Tree := of_decide_eq_true (saysM_x c 87 (f := x87) rfl))
    (n_Tree_shapes := of_decide_eq_true (saysM_x c 88 (f := x88) rfl))
    (n_Tree_elders := of_decide_eq_true (saysM_x c 89 (f := x89) rfl))
    (n_Tree_young := of_decide_eq_true (saysM_x c 90 (f := x90) rfl))
    (n_Tree_known := of_decide_eq_true (saysM_x c 91 (f := x91) rfl))
    (mk_Tree := of_decide_eq_true (saysM_x c 92 (f := x92) rfl))
    (kc_Tree := of_decide_eq_true (saysM_x c 93 (f := x93) rfl))
    (mg_SIGNS := mg_SIGNS)
    (mg_BOUND := mg_BOUND)
    (mg_DEEPEST := mg_DEEPEST)
    (a_KEEPS := of_decide_eq_true (saysM_x c 97 (f := x97) rfl))
    (sq_KEEPS := fun H => He.tupB_ok (saysM_x c 98 (f := x98) rfl) H)
    (a_fit_name := of_decide_eq_true (saysM_x c 99 (f := x99) rfl))
    (a_number_in := of_decide_eq_true (saysM_x c 100 (f := x100) rfl))
    (a_Shape___init__ := of_decide_eq_true (saysM_x c 101 (f := x101) rfl))
    (i_Shape_init := of_decide_eq_true (saysM_x c 102 (f := x102) rfl))
    (a_Shape_leaf := of_decide_eq_true (saysM_x c 103 (f := x103) rfl))
    (i_Shape_leaf := of_decide_eq_true (saysM_x c 104 (f := x104) rfl))
    (a_Leaf___init__ := of_decide_eq_true (saysM_x c 105 (f := x105) rfl))
    (i_Leaf_init := of_decide_eq_true (saysM_x c 106 (f := x106) rfl))
    (a_Leaf_leaf := of_decide_eq_true (saysM_x c 107 (f := x107) rfl))
    (i_Leaf_leaf := of_decide_eq_true (saysM_x c 108 (f := x108) rfl))
    (a_Leaf_work := of_decide_eq_true (saysM_x c 109 (f := x109) rfl))
    (i_Leaf_work := of_decide_eq_true (saysM_x c 110 (f := x110) rfl))
    (a_Leaf_words := of_decide_eq_true (saysM_x c 111 (f := x111) rfl))
    (i_Leaf_words := of_decide_eq_true (saysM_x c 112 (f := x112) rfl))
    (a_Steady___init__ := of_decide_eq_true (saysM_x c 113 (f := x113) rfl))
    (i_Steady_init := of_decide_eq_true (saysM_x c 114 (f := x114) rfl))
    (a_Steady_work := of_decide_eq_true (saysM_x c 115 (f := x115) rfl))
    (i_Steady_work := of_decide_eq_true (saysM_x c 116 (f := x116) rfl))
    (a_Faller___init__ := of_decide_eq_true (saysM_x c 117 (f := x117) rfl))
    (i_Faller_init := of_decide_eq_true (saysM_x c 118 (f := x118) rfl))
    (a_Faller_work := of_decide_eq_true (saysM_x c 119 (f := x119) rfl))
    (i_Faller_work := of_decide_eq_true (saysM_x c 120 (f := x120) rfl))
    (a_Minder___init__ := of_decide_eq_true (saysM_x c 121 (f := x121) rfl))
    (i_Minder_init := of_decide_eq_true (saysM_x c 122 (f := x122) rfl))
    (a_Minder_way := of_decide_eq_true (saysM_x c 123 (f := x123) rfl))
    (i_Minder_way := of_decide_eq_true (saysM_x c 124 (f := x124) rfl))
    (a_Minder_words := of_decide_eq_true (saysM_x c 125 (f := x125) rfl))
    (i_Minder_words := of_decide_eq_true (saysM_x c 126 (f := x126) rfl))
    (a_AllMinder_way := of_decide_eq_true (saysM_x c 127 (f := x127) rfl))
    (i_AllMinder_way := of_decide_eq_true (saysM_x c 128 (f := x128) rfl))
    (a_RestMinder_way := of_decide_eq_true (saysM_x c 129 (f := x129) rfl))
    (i_RestMinder_way := of_decide_eq_true (saysM_x c 130 (f := x130) rfl))
    (a_Tree___init__ := of_decide_eq_true (saysM_x c 131 (f := x131) rfl))
    (i_Tree_init := of_decide_eq_true (saysM_x c 132 (f := x132) rfl))
    (a_Tree_add := of_decide_eq_true (saysM_x c 133 (f := x133) rfl))
    (i_Tree_add := of_decide_eq_true (saysM_x c 134 (f := x134) rfl))
    (a_Tree_depth := of_decide_eq_true (saysM_x c 135 (f := x135) rfl))
    (i_Tree_depth := of_decide_eq_true (saysM_x c 136 (f := x136) rfl))
    (a_leaf_by := of_decide_eq_true (saysM_x c 137 (f := x137) rfl))
    (a_minder_by := of_decide_eq_true (saysM_x c 138 (f := x138) rfl))
    (a_shape_by := of_decide_eq_true (saysM_x c 139 (f := x139) rfl))
    (a_elder_at := of_decide_eq_true (saysM_x c 140 (f := x140) rfl))
    (a_read := of_decide_eq_true (saysM_x c 141 (f := x141) rfl))
    (a_written := of_decide_eq_true (saysM_x c 142 (f := x142) rfl))
    (a_law_cell_at := of_decide_eq_true (saysM_x c 143 (f := x143) rfl))
    (a_law_name := of_decide_eq_true (saysM_x c 144 (f := x144) rfl))
    (a_law_minder_words := of_decide_eq_true (saysM_x c 145 (f := x145) rfl))
    (a_law_leaf_words := of_decide_eq_true (saysM_x c 146 (f := x146) rfl))
    (a_law_tree := of_decide_eq_true (saysM_x c 147 (f := x147) rfl))
    (a_law_kinds := of_decide_eq_true (saysM_x c 148 (f := x148) rfl))
    (a_law_odd := of_decide_eq_true (saysM_x c 149 (f := x149) rfl))
    (a_law_refused := of_decide_eq_true (saysM_x c 150 (f := x150) rfl))
    (a_law_steep := of_decide_eq_true (saysM_x c 151 (f := x151) rfl))
    (a_law_special := of_decide_eq_true (saysM_x c 152 (f := x152) rfl))
    (a_law_put_in := of_decide_eq_true (saysM_x c 153 (f := x153) rfl))
    (a_law := of_decide_eq_true (saysM_x c 154 (f := x154) rfl))
    (a_BadRow := of_decide_eq_true (saysM_x c 155 (f := x155) rfl))
    (oc_BadRow := oexB_ok (saysM_x c 156 (f := x156) rfl))
    (os_BadRow := of_decide_eq_true (saysM_x c 157 (f := x157) rfl))
    (oe_BadRow := of_decide_eq_true (saysM_x c 158 (f := x158) rfl))
    (ot_BadRow := of_decide_eq_true (saysM_x c 159 (f := x159) rfl))
    (ok_BadRow := of_decide_eq_true (saysM_x c 160 (f := x160) rfl))
    (a_BadRow___init__ := of_decide_eq_true (saysM_x c 161 (f := x161) rfl))
    (i_BadRow_init := of_decide_eq_true (saysM_x c 162 (f := x162) rfl))
    (tf_BadRow_init := of_decide_eq_true (saysM_x c 163 (f := x163) rfl))
    (rd_Shape := of_decide_eq_true (saysM_x c 164 (f := x164) rfl))
    (ga_Shape := of_decide_eq_true (saysM_x c 165 (f := x165) rfl))
    (fc_Shape___init__ := fcB_ok (saysM_x c 166 (f := x166) rfl))
    (rd_Leaf := of_decide_eq_true (saysM_x c 167 (f := x167) rfl))
    (ga_Leaf := of_decide_eq_true (saysM_x c 168 (f := x168) rfl))
    (fc_Leaf___init__ := fcB_ok (saysM_x c 169 (f := x169) rfl))
    (a_AllMinder___init__ := of_decide_eq_true (saysM_x c 170 (f := x170) rfl))
    (a_RestMinder___init__ := of_decide_eq_true (saysM_x c 171 (f := x171) rfl))
    (a_Steady_leaf := of_decide_eq_true (saysM_x c 172 (f := x172) rfl))
    (a_Faller_leaf := of_decide_eq_true (saysM_x c 173 (f := x173) rfl))
    (a_Minder_leaf := of_decide_eq_true (saysM_x c 174 (f := x174) rfl))
    (a_AllMinder_leaf := of_decide_eq_true (saysM_x c 175 (f := x175) rfl))
    (a_RestMinder_leaf := of_decide_eq_true (saysM_x c 176 (f := x176) rfl))
    (a_Steady_words := of_decide_eq_true (saysM_x c 177 (f := x177) rfl))
    (a_Faller_words := of_decide_eq_true (saysM_x c 178 (f := x178) rfl))
    (a_AllMinder_words := of_decide_eq_true (saysM_x c 179 (f := x179) rfl))
    (a_RestMinder_words := of_decide_eq_true (saysM_x c 180 (f := x180) rfl))
    (a_NoNumber := of_decide_eq_true (saysM_x c 181 (f := x181) rfl))
    (xf_NoNumber := of_decide_eq_true (saysM_x c 182 (f := x182) rfl))
    (kc_NoNumber := of_decide_eq_true (saysM_x c 183 (f := x183) rfl))
    (eb_NoNumber := of_decide_eq_true (saysM_x c 184 (f := x184) rfl))
    (et_NoNumber := of_decide_eq_true (saysM_x c 185 (f := x185) rfl))
    (a_TooMany := of_decide_eq_true (saysM_x c 186 (f := x186) rfl))
    (xf_TooMany := of_decide_eq_true (saysM_x c 187 (f := x187) rfl))
    (kc_TooMany := of_decide_eq_true (saysM_x c 188 (f := x188) rfl))
    (eb_TooMany := of_decide_eq_true (saysM_x c 189 (f := x189) rfl))
    (et_TooMany := of_decide_eq_true (saysM_x c 190 (f := x190) rfl))
    (a_NoTop := of_decide_eq_true (saysM_x c 191 (f := x191) rfl))
    (xf_NoTop := of_decide_eq_true (saysM_x c 192 (f := x192) rfl))
    (kc_NoTop := of_decide_eq_true (saysM_x c 193 (f := x193) rfl))
    (eb_NoTop := of_decide_eq_true (saysM_x c 194 (f := x194) rfl))
    (et_NoTop := of_decide_eq_true (saysM_x c 195 (f := x195) rfl))
    (a_MinderError := of_decide_eq_true (saysM_x c 196 (f := x196) rfl))
    (a_NoLeaf := of_decide_eq_true (saysM_x c 197 (f := x197) rfl))
    (a_NoName := of_decide_eq_true (saysM_x c 198 (f := x198) rfl))
    (a_NotOn := of_decide_eq_true (saysM_x c 199 (f := x199) rfl))
    (cb_MinderError := of_decide_eq_true (saysM_x c 200 (f := x200) rfl))
    (cd_MinderError := of_decide_eq_true (saysM_x c 201 (f := x201) rfl))
    (ct_MinderError := of_decide_eq_true (saysM_x c 202 (f := x202) rfl))
    (cs_MinderError_NoNumber := of_decide_eq_true (saysM_x c 203 (f := x203) rfl))
    (cb_BadRow := of_decide_eq_true (saysM_x c 204 (f := x204) rfl))
    (cd_BadRow := of_decide_eq_true (saysM_x c 205 (f := x205) rfl))
    (ct_BadRow := of_decide_eq_true (saysM_x c 206 (f := x206) rfl))
    (rd_MinderError := of_decide_eq_true (saysM_x c 207 (f := x207) rfl))
    (ga_MinderError := of_decide_eq_true (saysM_x c 208 (f := x208) rfl))
    (fv_MinderError := fcV_ok (saysM_x c 209 (f := x209) rfl))
    (nx_BadRow_row := of_decide_eq_true (saysM_x c 210 (f := x210) rfl))
    (xg_BadRow := of_decide_eq_true (saysM_x c 211 (f := x211) rfl))
    (xk_BadRow := of_decide_eq_true (saysM_x c 212 (f := x212) rfl))
    (xs_BadRow := of_decide_eq_true (saysM_x c 213 (f := x213) rfl))
    (xd_BadRow := of_decide_eq_true (saysM_x c 214 (f := x214) rfl))
    (xa_BadRow := of_decide_eq_true (saysM_x c 215 (f := x215) rfl))
    (xn_BadRow := of_decide_eq_true (saysM_x c 216 (f := x216) rfl))
    (xt_BadRow := of_decide_eq_true (saysM_x c 217 (f := x217) rfl))
    (xm_BadRow := of_decide_eq_true (saysM_x c 218 (f := x218) rfl))
    (xg_TooMany := of_decide_eq_true (saysM_x c 219 (f := x219) rfl))
    (xk_TooMany := of_decide_eq_true (saysM_x c 220 (f := x220) rfl))
    (xs_TooMany := of_decide_eq_true (saysM_x c 221 (f := x221) rfl))
    (xd_TooMany := of_decide_eq_true (saysM_x c 222 (f := x222) rfl))
    (xa_TooMany := of_decide_eq_true (saysM_x c 223 (f := x223) rfl))
    (xn_TooMany := of_decide_eq_true (saysM_x c 224 (f := x224) rfl))
    (xt_TooMany := of_decide_eq_true (saysM_x c 225 (f := x225) rfl))
    (xm_TooMany := of_decide_eq_true (saysM_x c 226 (f := x226) rfl))
    (xg_NoTop := of_decide_eq_true (saysM_x c 227 (f := x227) rfl))
    (xk_NoTop := of_decide_eq_true (saysM_x c 228 (f := x228) rfl))
    (xs_NoTop := of_decide_eq_true (saysM_x c 229 (f := x229) rfl))
    (xd_NoTop := of_decide_eq_true (saysM_x c 230 (f := x230) rfl))
    (xa_NoTop := of_decide_eq_true (saysM_x c 231 (f := x231) rfl))
    (xn_NoTop := of_decide_eq_true (saysM_x c 232 (f := x232) rfl))
    (xt_NoTop := of_decide_eq_true (saysM_x c 233 (f := x233) rfl))
    (xm_NoTop := of_decide_eq_true (saysM_x c 234 (f := x234) rfl))
    (xm_BadRow_BadRow := of_decide_eq_true (saysM_x c 235 (f := x235) rfl))
    (xm_TooMany_BadRow := of_decide_eq_true (saysM_x c 236 (f := x236) rfl))
    (xm_NoTop_BadRow := of_decide_eq_true (saysM_x c 237 (f := x237) rfl))
    (xm_TooMany_MinderError := of_decide_eq_true (saysM_x c 238 (f := x238) rfl))
    (xm_NoTop_MinderError := of_decide_eq_true (saysM_x c 239 (f := x239) rfl))
    (kt_BadRow_BadRow := of_decide_eq_true (saysM_x c 240 (f := x240) rfl))
    (kt_BadRow_TooMany := of_decide_eq_true (saysM_x c 241 (f := x241) rfl))
    (kt_BadRow_NoTop := of_decide_eq_true (saysM_x c 242 (f := x242) rfl))
    (kt_BadRow_NoLeaf := of_decide_eq_true (saysM_x c 243 (f := x243) rfl))
    (kt_BadRow_NoName := of_decide_eq_true (saysM_x c 244 (f := x244) rfl))
    (kt_BadRow_NoNumber := of_decide_eq_true (saysM_x c 245 (f := x245) rfl))
    (kt_BadRow_NotOn := of_decide_eq_true (saysM_x c 246 (f := x246) rfl))
    (kt_TooMany_BadRow := of_decide_eq_true (saysM_x c 247 (f := x247) rfl))
    (kt_TooMany_TooMany := of_decide_eq_true (saysM_x c 248 (f := x248) rfl))
    (kt_TooMany_NoTop := of_decide_eq_true (saysM_x c 249 (f := x249) rfl))
    (kt_TooMany_NoLeaf := of_decide_eq_true (saysM_x c 250 (f := x250) rfl))
    (kt_TooMany_NoName := of_decide_eq_true (saysM_x c 251 (f := x251) rfl))
    (kt_TooMany_NoNumber := of_decide_eq_true (saysM_x c 252 (f := x252) rfl))
    (kt_TooMany_NotOn := of_decide_eq_true (saysM_x c 253 (f := x253) rfl))
    (kt_NoTop_BadRow := of_decide_eq_true (saysM_x c 254 (f := x254) rfl))
    (kt_NoTop_TooMany := of_decide_eq_true (saysM_x c 255 (f := x255) rfl))
    (kt_NoTop_NoTop := of_decide_eq_true (saysM_x c 256 (f := x256) rfl))
    (kt_NoTop_NoLeaf := of_decide_eq_true (saysM_x c 257 (f := x257) rfl))
    (kt_NoTop_NoName := of_decide_eq_true (saysM_x c 258 (f := x258) rfl))
    (kt_NoTop_NoNumber := of_decide_eq_true (saysM_x c 259 (f := x259) rfl))
    (kt_NoTop_NotOn := of_decide_eq_true (saysM_x c 260 (f := x260) rfl))
abbrev RR0 : PySem.W.OpenRow := PySem.W.OpenLaw.row PySem.Challenge.rw_minders_k06_the_first_row_misread
abbrev hkM : PySem.W.Hook := hookM fnL exL
def obM (s : PySem.W.SharedT) : AlM := obsMG fnL exL (HandSHeadRun.getT s)
theorem obM_eq (s : PySem.W.SharedT) : obM s = hkM.obs s.abs := obsMG_eq (HandSHeadRun.getT_eq s)
theorem runM (w : World) : HandSHeadRun.RunEq RR0 (PySem.W.view RR0.prog [46]) hkM obM 9000 loose w := by
  intro os
  kernel_rfl
end Mn
open PySem PySem.W PySem.Calls PyProof.Rows
set_option maxRecDepth 100000 in
set_option maxHeartbeats 0 in
theorem PySem.Challenge.cw_minders_k06_the_first_row_misread_holds : PySem.Challenge.rw_minders_k06_the_first_row_misread.Holds := by
  w_on; o_law
  refine HandSHeadRun.head_any (r := OpenLaw.row PySem.Challenge.rw_minders_k06_the_first_row_misread) (q := view (OpenLaw.row PySem.Challenge.rw_minders_k06_the_first_row_misread).prog [46]) (H := Mn.hkM) (ob := Mn.obM) (M := 9000) (loose := Mn.loose) (d := HandSHeadRun.topDef (OpenLaw.row PySem.Challenge.rw_minders_k06_the_first_row_misread).prog 46) (kwd := []) Mn.obM_eq
    (by kernel_rfl) (fun s => by kernel_rfl) Mn.runM (by kernel_rfl) (by kernel_rfl) (by kernel_rfl) (by rfl) (by first | assumption | decide +kernel) (by decide +kernel) ⟨rfl, rfl, rfl, rfl, rfl, by decide +kernel⟩ ?hw ?hc
  case hw => w_witness2
  case hc =>
    refine L2.walk_ofE (l := PySem.Challenge.rw_minders_k06_the_first_row_misread) (n := 63) (k := 10) (x := "_law_script") (CX := L2.CX0) rfl (by decide) (by kernel_rfl) ⟨rfl, by decide, by decide⟩ ?F (fun _ _ _ _ z => z)
    intro w mg fa h Y G hmg0
    obtain ⟨K, KX, c⟩ := Y
    have hmg : mg ("law" : PySem.Str) = some (.ref fa) := by
      have e : (HandSHeadRun.topDef (OpenLaw.row PySem.Challenge.rw_minders_k06_the_first_row_misread).prog 46).name = ("law" : PySem.Str) := by kernel_rfl
      rw [← e]
      exact hmg0
    obtain ⟨fd, hb, hF⟩ := Mn.facts_mk (l := PySem.Challenge.rw_minders_k06_the_first_row_misread) (w := w) KX G hmg c
    exact ⟨K, fd, Mn.spLaw K, KX, hb, fun H a ns hl _ hS => ⟨a, ns, rfl, hS, hl, fun _ => rfl⟩, hF⟩
#print axioms PySem.Challenge.cw_minders_k06_the_first_row_misread_holds
