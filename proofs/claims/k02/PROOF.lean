import PyProof.Rows.All
import Wide.All
import OpenK.AllK
import Wide.FinOn
import HandS.ForMost
import HandS.ForExc
import HandS.Defaults
import HandS.Codes
import HandS.StrMore
import HandS.IsInst
import HandS.SuiteRaise
import HandS.TryElse
import HandS.TryMany
import HandS.WideBits
import PySem.Challenge.RW_minders_k02_falls_in_a_span

set_option Elab.async false
set_option linter.all false
set_option maxRecDepth 100000
set_option maxHeartbeats 4000000
/-! Mn: rules of my own over HandS: calls whose promise the reading picks. -/
namespace Mn
open PySem PySem.Spec PyProof.Rows L2

/-- a def of the module, by its name, its promise, its defaults -/
structure Cal (P : Program) (w : World) (K : PySem.W.Frag) (mg : Str → Option Value) (base : Heap) (CX : CXT) (x : Str) (k : Nat) (ps : List Str) (dvs : List V) (sp : Sp) : Prop where
  ex : ∃ (f : Addr) (fd : FuncData) (ds : List Value), FnOk P w K mg base CX k f fd ps sp ∧ mg x = some (.ref f) ∧ PySem.W.keepIn K (.ref f) = true ∧ Binds K fd ps ds ∧ Vals dvs ds
/-- a method of the class at C -/
structure Mth (P : Program) (w : World) (K : PySem.W.Frag) (mg : Str → Option Value) (base : Heap) (CX : CXT) (C : Addr) (m : Str) (k : Nat) (ps : List Str) (dvs : List V) (sp : Sp) : Prop where
  ex : ∃ (f : Addr) (fd : FuncData) (ds : List Value), FnOk P w K mg base CX k f fd ps sp ∧ Meth K C m f ∧ Binds K fd ps ds ∧ Vals dvs ds
/-- a class that is made by its name -/
structure Mak (P : Program) (w : World) (K : PySem.W.Frag) (mg : Str → Option Value) (base : Heap) (CX : CXT) (x : Str) (C : Addr) (k : Nat) (ps : List Str) (dvs : List V) (sp : Sp) : Prop where
  ex : ∃ (f : Addr) (fd : FuncData) (ds : List Value), FnOk P w K mg base CX k f fd ps sp ∧ mg x = some (.ref C) ∧ Mk K C f ∧ Binds K fd ps ds ∧ Vals dvs ds
section
variable {X : Cx} {CX : CXT} {k : Nat} {E : XK} {x m : Str} {p pos apos : Pos} {e o : Expr} {es : List Expr} {ta : TE} {t : TA}
def tCA (X : Cx) (CX : CXT) (x : Str) (k : Nat) (E : XK) (t : TA) : TE := fun σ H Q => ∃ j ps dvs sp, Cal X.prog X.w X.K X.mg X.base CX x j ps dvs sp ∧ j ≤ k ∧ t σ H fun vs H1 => sp (vs ++ dvs) H1 Q E
/-- f(e, ..), nothing raised -/
theorem pe_ca (hr : Room k X.A) (hg : Gl X x) (ha : PA X (e :: es) t) (hdb : (x == ("__debug__" : Str)) = false := by decide) (he : starEach (e :: es) X.env = (false, eval e X.env) :: starEach es X.env := by rfl) (hpl : (backTo pos (starEach es X.env)).any (·.1) = false := by rfl) :
    PE X (.Call (.Name x p) (e :: es) [] pos) (tCA X CX0 x k E0 t) := by
  refine ⟨fun pins s σ H Q I h => ?_⟩
  obtain ⟨j, ps, dvs, sp, C, hj, h⟩ := h
  obtain ⟨f, fd, ds, F, hm, hk, hb, hd⟩ := C.ex
  exact (pe_call F (hr.mono hj) hg hm hk hb hd pass0 ha hdb he hpl).run pins s σ H Q I h
/-- f(), nothing raised -/
theorem pe_ca0 (hr : Room k X.A) (hg : Gl X x) (hdb : (x == ("__debug__" : Str)) = false := by decide) : PE X (.Call (.Name x p) [] [] pos) (tCA X CX0 x k E0 tNil) := by
  refine ⟨fun pins s σ H Q I h => ?_⟩
  obtain ⟨j, ps, dvs, sp, C, hj, h⟩ := h
  obtain ⟨f, fd, ds, F, hm, hk, hb, hd⟩ := C.ex
  exact (pe_call0 F (hr.mono hj) hg hm hk hb hd pass0 hdb).run pins s σ H Q I h
def tMkA (X : Cx) (CX : CXT) (x : Str) (k : Nat) (E : XK) (t : TA) : TE := fun σ H Q => ∃ C j ps dvs sp, Mak X.prog X.w X.K X.mg X.base CX x C j ps dvs sp ∧ j + 1 ≤ k ∧ tMake C sp dvs E t σ H Q
theorem pe_mka (hr : Room k X.A) (hg : Gl X x) (ha : PA X (e :: es) t) (hdb : (x == ("__debug__" : Str)) = false := by decide) (he : starEach (e :: es) X.env = (false, eval e X.env) :: starEach es X.env := by rfl) (hpl : (backTo pos (starEach es X.env)).any (·.1) = false := by rfl) :
    PE X (.Call (.Name x p) (e :: es) [] pos) (tMkA X CX0 x k E0 t) := by
  refine ⟨fun pins s σ H Q I h => ?_⟩
  obtain ⟨C, j, ps, dvs, sp, M, hj, h⟩ := h
  obtain ⟨f, fd, ds, F, hm, hk, hb, hd⟩ := M.ex
  exact (pe_make hk F (hr.mono hj) hg hm hb hd pass0 ha hdb he hpl).run pins s σ H Q I h
theorem pe_mka0 (hr : Room k X.A) (hg : Gl X x) (hdb : (x == ("__debug__" : Str)) = false := by decide) : PE X (.Call (.Name x p) [] [] pos) (tMkA X CX0 x k E0 tNil) := by
  refine ⟨fun pins s σ H Q I h => ?_⟩
  obtain ⟨C, j, ps, dvs, sp, M, hj, h⟩ := h
  obtain ⟨f, fd, ds, F, hm, hk, hb, hd⟩ := M.ex
  exact (pe_make0 hk F (hr.mono hj) hg hm hb hd pass0 hdb).run pins s σ H Q I h
def tMA (X : Cx) (CX : CXT) (m : Str) (k : Nat) (E : XK) (ta : TE) (t : TA) : TE := fun σ H Q => ta σ H fun xv H1 => ∃ a C dx fs j ps dvs sp, xv = .ref a ∧ H1 a = some (.ins C dx fs) ∧ Cls X.K C ∧ fs.lookup m = none ∧ Mth X.prog X.w X.K X.mg X.base CX C m j ps dvs sp ∧ j ≤ k ∧
  t σ H1 fun vs H2 => sp (xv :: (vs ++ dvs)) H2 Q E
/-- o.m(e, ..), o of any own class -/
theorem pe_maX {pl : Sem Bool} (hr : Room k X.A) (hx : Passes CX X E) (he : PE X o ta) (ha : PA X (e :: es) t)
    (hst : starEach (e :: es) X.env = (false, eval e X.env) :: starEach es X.env := by rfl) (hpl : (backTo pos (starEach es X.env)).any (·.1) = false := by rfl)
    (ht : eval (.Call (.Attribute o m apos) (e :: es) [] pos) X.env = (do
      let ov ← eval o X.env
      standAt apos.atName
      let (f, first) ← holding [ov] (getMethod ov m pl)
      callWith pos f first (backTo pos (starEach (e :: es) X.env)) (backToKw pos (keywordEach [] X.env))) := by rfl) :
    PE X (.Call (.Attribute o m apos) (e :: es) [] pos) (tMA X CX m k E ta t) := by
  refine ⟨fun pins s σ H Q I h => ?_⟩
  refine PySem.W.methodCall_KW (pl := pl) (thn (he.run pins s σ H _ I h) fun u s1 ⟨xv, H1, I1, rx, a, C, dx, fs, j, ps, dvs, sp, ex, ea, c, l, M, hj, q⟩ => ?_) ht
  subst ex
  obtain rfl : u = Value.ref a := rx
  obtain ⟨f, fd, ds, F, hm, hb, hd⟩ := M.ex
  refine getmeth_ok I1 ea c hm l ?_
  refine PySem.W.callWith_K (first := [.ref a]) (h₀ := X.base) I.ok.mod.kin hm.kp (thn (ha.run pos pins s1 σ H1 _ I1 q) fun us s2 ⟨vs, H2, I2, r, q2⟩ => ⟨I2.kIn, ?_⟩) hst hpl
  exact run_fn (us := .ref a :: us) (vs := .ref a :: vs) F (hr.mono hj) hb hd hx I2 (.cons rfl r) q2
theorem pe_maX0 {pl : Sem Bool} (hr : Room k X.A) (hx : Passes CX X E) (he : PE X o ta)
    (ht : eval (.Call (.Attribute o m apos) [] [] pos) X.env = (do
      let ov ← eval o X.env
      standAt apos.atName
      let (f, first) ← holding [ov] (getMethod ov m pl)
      callWith pos f first (backTo pos (starEach [] X.env)) (backToKw pos (keywordEach [] X.env))) := by rfl) :
    PE X (.Call (.Attribute o m apos) [] [] pos) (tMA X CX m k E ta tNil) := by
  refine ⟨fun pins s σ H Q I h => ?_⟩
  refine PySem.W.methodCall_KW (pl := pl) (thn (he.run pins s σ H _ I h) fun u s1 ⟨xv, H1, I1, rx, a, C, dx, fs, j, ps, dvs, sp, ex, ea, c, l, M, hj, q⟩ => ?_) ht
  subst ex
  obtain rfl : u = Value.ref a := rx
  obtain ⟨f, fd, ds, F, hm, hb, hd⟩ := M.ex
  refine getmeth_ok I1 ea c hm l ?_
  exact PySem.W.callWith_K0 (first := [.ref a]) I1.kIn hm.kp (run_fn (us := [.ref a]) (vs := [.ref a]) F (hr.mono hj) hb hd hx I1 (.cons rfl .nil) q)
theorem pe_ma {pl : Sem Bool} (hr : Room k X.A) (he : PE X o ta) (ha : PA X (e :: es) t)
    (hst : starEach (e :: es) X.env = (false, eval e X.env) :: starEach es X.env := by rfl) (hpl : (backTo pos (starEach es X.env)).any (·.1) = false := by rfl)
    (ht : eval (.Call (.Attribute o m apos) (e :: es) [] pos) X.env = (do
      let ov ← eval o X.env
      standAt apos.atName
      let (f, first) ← holding [ov] (getMethod ov m pl)
      callWith pos f first (backTo pos (starEach (e :: es) X.env)) (backToKw pos (keywordEach [] X.env))) := by rfl) :
    PE X (.Call (.Attribute o m apos) (e :: es) [] pos) (tMA X CX0 m k E0 ta t) := pe_maX (pl := pl) hr pass0 he ha hst hpl ht
theorem pe_ma0 {pl : Sem Bool} (hr : Room k X.A) (he : PE X o ta)
    (ht : eval (.Call (.Attribute o m apos) [] [] pos) X.env = (do
      let ov ← eval o X.env
      standAt apos.atName
      let (f, first) ← holding [ov] (getMethod ov m pl)
      callWith pos f first (backTo pos (starEach [] X.env)) (backToKw pos (keywordEach [] X.env))) := by rfl) :
    PE X (.Call (.Attribute o m apos) [] [] pos) (tMA X CX0 m k E0 ta tNil) := pe_maX0 (pl := pl) hr pass0 he ht
/-- a name of the module as a value -/
def tGv (mg : Str → Option Value) (x : Str) : TE := fun _ H Q => ∃ v u, mg x = some u ∧ RelV v u ∧ Q v H
theorem pe_gv (hg : Gl X x) (hd : (x == ("__debug__" : Str)) = false := by decide) : PE X (.Name x p) (tGv X.mg x) := by
  refine ⟨fun pins s σ H Q I h => ?_⟩
  obtain ⟨v, u, hm, r, q⟩ := h
  exact ld_glob I hg hm ⟨v, H, I, r, q⟩ hd
end
/-! ### == of a list with [] -/
def rEqE : R2 := fun x y H Q => ∃ a b xs, x = .ref a ∧ y = .ref b ∧ H a = some (.lst xs) ∧ H b = some (.lst []) ∧ Q (.bl xs.isEmpty) H
def rNeE : R2 := fun x y H Q => ∃ a b xs, x = .ref a ∧ y = .ref b ∧ H a = some (.lst xs) ∧ H b = some (.lst []) ∧ Q (.bl (!xs.isEmpty)) H
/-! ### readings, step by step -/
section
variable {σ σ' : L2.St} {H H1 : Hp} {Q : VK} {D : Ends} {v x y z : V} {a b : Bool} {i j : Int} {n : Nat} {ta tb tc te : TE} {t u : TT} {s1 s2 : TS} {ar : TA} {r r' : R2} {g : TG} {Qb : Bool → Hp → Prop} {Qa : List V → Hp → Prop} {Qs : L2.St → Hp → Prop} {K : PySem.W.Frag}
theorem w_var (h : σ[n]? = some (some v)) (q : Q v H) : tVar n σ H Q := ⟨v, h, q⟩
theorem w_c (q : Q v H) : tC v σ H Q := q
theorem w_op (q : ta σ H fun x H1 => tb σ H1 fun y H2 => r x y H2 Q) : tOp r ta tb σ H Q := q
theorem w_un {r : V → Hp → VK → Prop} (q : ta σ H fun x H1 => r x H1 Q) : tUn r ta σ H Q := q
theorem w_I0 {f : Int → Int → V} (q : Q (f i j) H) : rI0 f (.int i) (.int j) H Q := ⟨_, _, rfl, rfl, q⟩
theorem w_I {C : Int → Int → Prop} {f : Int → Int → V} (c : C i j) (q : Q (f i j) H) : rI C f (.int i) (.int j) H Q := ⟨_, _, rfl, rfl, c, q⟩
theorem w_U {f : Int → V} (q : Q (f i) H) : rU f (.int i) H Q := ⟨_, rfl, q⟩
theorem w_eq (h : scal x y = true) (q : Q (.bl (decide (x = y))) H) : rEq x y H Q := ⟨h, q⟩
theorem w_ne (h : scal x y = true) (q : Q (.bl (!decide (x = y))) H) : rNe x y H Q := ⟨h, q⟩
theorem w_test (q : te σ H fun x H' => ∃ k, x = .bl k ∧ Qb k H') : tTest te σ H Qb := q
theorem w_B (q : te σ H fun x H' => ∃ k, x = .bl k ∧ Qb k H') : tB te σ H Qb := q
theorem w_bl {R : Bool → Prop} (q : R a) : ∃ k, V.bl a = .bl k ∧ R k := ⟨_, rfl, q⟩
theorem w_and (q : t σ H fun c H1 => if c = true then u σ H1 Qb else Qb false H1) : tAnd t u σ H Qb := q
theorem w_or (q : t σ H fun c H1 => if c = true then Qb true H1 else u σ H1 Qb) : tOr t u σ H Qb := q
theorem w_not (q : t σ H fun c H1 => Qb (!c) H1) : tNot t σ H Qb := q
theorem w_andV (q : ta σ H fun x H1 => ∃ c, x = .bl c ∧ if c = true then tb σ H1 Q else Q (.bl false) H1) : tAndV ta tb σ H Q := q
theorem w_orV (q : ta σ H fun x H1 => ∃ c, x = .bl c ∧ if c = true then Q (.bl true) H1 else tb σ H1 Q) : tOrV ta tb σ H Q := q
theorem w_notV (q : ta σ H fun x H1 => ∃ c, x = .bl c ∧ Q (.bl (!c)) H1) : tNotV ta σ H Q := q
theorem w_chain (q : ta σ H fun x H1 => tb σ H1 fun y H2 => r x y H2 fun z H3 => ∃ k, z = .bl k ∧ (if k = true then tc σ H3 fun z H4 => r' y z H4 Q else Q (.bl false) H3)) : tChain r r' ta tb tc σ H Q := q
theorem w_seq (q : s1 { D with nx := s2 D } σ H) : tSeq s1 s2 D σ H := q
theorem w_next (q : D.nx σ H) : tNext D σ H := q
theorem w_ret (q : te σ H D.rt) : tRet te D σ H := q
theorem w_retN (q : D.rt .non H) : tRetN D σ H := q
theorem w_if (q : t σ H fun b H1 => if b = true then s1 D σ H1 else s2 D σ H1) : tIfS t s1 s2 D σ H := q
theorem w_drop (q : te σ H fun _ H1 => D.nx σ H1) : tDrop te D σ H := q
theorem w_asg (q : te σ H fun x H1 => g x σ H1 D.nx) : tAsg te g D σ H := q
theorem w_name (q : Qs (σ.set n (some v)) H) : gName n v σ H Qs := q
theorem w_nil (q : Qa [] H) : tNil σ H Qa := q
theorem w_cons (q : te σ H fun x H1 => ar σ H1 fun xs H2 => Qa (x :: xs) H2) : tCons te ar σ H Qa := q
theorem w_cb {r : List V → Hp → VK → Prop} (q : ar σ H fun vs H1 => r vs H1 Q) : tCB r ar σ H Q := q
theorem w_cont (q : D.ct σ H) : tCont D σ H := q
end
end Mn

namespace Mn
open PySem PySem.Spec PyProof.Rows L2
/-! ### named readings of what has none -/
section
variable {X : Cx} {K : PySem.W.Frag} {σ : L2.St} {H H1 H2 : Hp} {Q : VK} {D : Ends} {v x y z : V} {a b p q : Addr} {i j : Int} {n : Nat} {xs ys zs : List V} {s s' : Str} {Qs : L2.St → Hp → Prop} {Qt : Hp → Prop} {f : Str} {fs : List (Str × V)} {C dx : Addr} {ta tv te to ti : TE} {ar : TA}
theorem same_new (h : H p = none) (o : HO) : Same H (upd H p o) := fun b u q => by rw [upd_ne (ne_of_none q h)]; exact q
theorem same_upd {o : HO} (s : Same H H1) (h : H1 p = none) : Same H (upd H1 p o) := s.trans (same_new h o)
/-- an object that was not there at the start may change -/
theorem same_mut {o : HO} (s : Same H H1) (h : H p = none) : Same H (upd H1 p o) := fun b u q => by rw [upd_ne (ne_of_none q h)]; exact s b u q
theorem sqT_same (e : Same H H1) (h : SqT K H a xs) : SqT K H1 a xs := by
  rcases h with (h | ⟨o, h⟩) | h
  · exact .inl (.inl (e _ _ h))
  · exact .inl (.inr ⟨o, e _ _ h⟩)
  · exact .inr h
theorem rd_same {u : HO} (e : Same H H1) (h : Rd H a u) : Rd H1 a u := by
  rcases h with h | ⟨o, h⟩
  · exact .inl (e _ _ h)
  · exact .inr ⟨o, e _ _ h⟩
def cLenL (K : PySem.W.Frag) : List V → Hp → VK → Prop := fun xs H Q => ∃ p ys, xs = [.ref p] ∧ SqL K H p ys ∧ Q (.int ys.length) H
theorem call_lenL : CallR X (.builtin "len") (cLenL X.K) := fun pins s σ H xs us Q I r h => by
  obtain ⟨p, ys, e, hq, q⟩ := h
  exact call_len_seq pins s σ H xs us Q I r ⟨p, ys, e, .inl hq, q⟩
theorem w_lenL (h : SqL K H p ys) (q : Q (.int ys.length) H) : cLenL K [.ref p] H Q := ⟨_, _, rfl, h, q⟩
def cLenT (K : PySem.W.Frag) : List V → Hp → VK → Prop := fun xs H Q => ∃ p ys, xs = [.ref p] ∧ SqT K H p ys ∧ Q (.int ys.length) H
theorem call_lenT : CallR X (.builtin "len") (cLenT X.K) := fun pins s σ H xs us Q I r h => by
  obtain ⟨p, ys, e, hq, q⟩ := h
  exact call_len_seq pins s σ H xs us Q I r ⟨p, ys, e, .inr hq, q⟩
theorem w_lenT (h : SqT K H p ys) (q : Q (.int ys.length) H) : cLenT K [.ref p] H Q := ⟨_, _, rfl, h, q⟩
def cLenS : List V → Hp → VK → Prop := fun xs H Q => ∃ z, xs = [.str z] ∧ z.length ≤ sizeLine ∧ Q (.int z.length) H
theorem call_lenS : CallR X (.builtin "len") cLenS := call_len_str
theorem w_lenS (h : s.length ≤ sizeLine) (q : Q (.int s.length) H) : cLenS [.str s] H Q := ⟨_, rfl, h, q⟩
def cStrI : List V → Hp → VK → Prop := fun xs H Q => ∃ i, xs = [.int i] ∧ i.natAbs.log2 < 1920 ∧ Q (.str (toString i)) H
theorem call_strI : CallR X (.type "str") cStrI := call_str_int
theorem w_strI (h : i.natAbs.log2 < 1920) (q : Q (.str (toString i)) H) : cStrI [.int i] H Q := ⟨_, rfl, h, q⟩
def cIntS : List V → Hp → VK → Prop := fun xs H Q => ∃ a n, xs = [.str a] ∧ PySem.intText? a = some n ∧ a.length ≤ 640 ∧ Q (.int n) H
theorem call_intS : CallR X (.type "int") cIntS := call_int_str
theorem w_intS (h : PySem.intText? s = some i) (l : s.length ≤ 640) (q : Q (.int i) H) : cIntS [.str s] H Q := ⟨_, _, rfl, h, l, q⟩
def cIntB : List V → Hp → VK → Prop := fun xs H Q => ∃ k, xs = [.bl k] ∧ Q (.int (if k then 1 else 0)) H
theorem call_intB : CallR X (.type "int") cIntB := fun pins s σ H xs us Q I r h => call_int1 pins s σ H xs us Q I r (.inr h)
theorem w_intB {k : Bool} (q : Q (.int (if k then 1 else 0)) H) : cIntB [.bl k] H Q := ⟨_, rfl, q⟩
def cListL (K : PySem.W.Frag) : List V → Hp → VK → Prop := fun xs H Q => ∃ p ys, xs = [.ref p] ∧ SqL K H p ys ∧ ∀ l, H l = none → Q (.ref l) (upd H l (.lst ys))
theorem call_listL : CallR X (.type "list") (cListL X.K) := fun pins s σ H xs us Q I r h => by
  obtain ⟨p, ys, e, hq, q⟩ := h
  exact call_list_of pins s σ H xs us Q I r ⟨p, ys, e, .inl hq, q⟩
theorem w_listL (h : SqL K H p ys) (q : ∀ l, H l = none → Q (.ref l) (upd H l (.lst ys))) : cListL K [.ref p] H Q := ⟨_, _, rfl, h, q⟩
def cDivmod : List V → Hp → VK → Prop := fun xs H Q => ∃ i j, xs = [.int i, .int j] ∧ CDiv i j ∧ ∀ p, H p = none → Q (.ref p) (upd H p (.tup [.int (i / j), .int (i % j)]))
theorem call_divmodI : CallR X (.builtin "divmod") cDivmod := call_divmod
theorem w_divmod (c : CDiv i j) (q : ∀ p, H p = none → Q (.ref p) (upd H p (.tup [.int (i / j), .int (i % j)]))) : cDivmod [.int i, .int j] H Q := ⟨_, _, rfl, c, q⟩
def cMax : List V → Hp → VK → Prop := fun xs H Q => ∃ i j, xs = [.int i, .int j] ∧ Q (.int (if j > i then j else i)) H
theorem call_maxI (hc : X.calm = true) : CallR X (.builtin "max") cMax := call_max2 hc
theorem w_max (q : Q (.int (max i j)) H) : cMax [.int i, .int j] H Q := ⟨_, _, rfl, by
  have e : (if j > i then j else i) = max i j := by rw [Int.max_def]; split <;> split <;> omega
  rw [e]; exact q⟩
def cMin : List V → Hp → VK → Prop := fun xs H Q => ∃ i j, xs = [.int i, .int j] ∧ Q (.int (if j < i then j else i)) H
theorem call_minI (hc : X.calm = true) : CallR X (.builtin "min") cMin := call_min2 hc
theorem w_min (q : Q (.int (min i j)) H) : cMin [.int i, .int j] H Q := ⟨_, _, rfl, by
  have e : (if j < i then j else i) = min i j := by rw [Int.min_def]; split <;> split <;> omega
  rw [e]; exact q⟩
def rAddS : R2 := fun x y H Q => ∃ i j, x = .str i ∧ y = .str j ∧ i.length + j.length ≤ sizeLine ∧ Q (.str (i ++ j)) H
theorem op_addS : OpR X (binaryOp .Add) rAddS := op_add_str
theorem w_addS (h : s.length + s'.length ≤ sizeLine) (q : Q (.str (s ++ s')) H) : rAddS (.str s) (.str s') H Q := ⟨_, _, rfl, rfl, h, q⟩
def rInS : R2 := fun x y H Q => ∃ i j, x = .str i ∧ y = .str j ∧ Q (.bl (!(Builtin.Str.occurrences j i 0 j.length 1).isEmpty)) H
theorem op_inS : OpR X (compareOp .In) rInS := op_in_str
theorem w_inS (q : Q (.bl (!(Builtin.Str.occurrences s' s 0 s'.length 1).isEmpty)) H) : rInS (.str s) (.str s') H Q := ⟨_, _, rfl, rfl, q⟩
def rNinS : R2 := fun x y H Q => ∃ i j, x = .str i ∧ y = .str j ∧ Q (.bl (!(!(Builtin.Str.occurrences j i 0 j.length 1).isEmpty))) H
theorem op_ninS : OpR X (compareOp .NotIn) rNinS := op_notIn_str
theorem w_ninS (q : Q (.bl (!(!(Builtin.Str.occurrences s' s 0 s'.length 1).isEmpty))) H) : rNinS (.str s) (.str s') H Q := ⟨_, _, rfl, rfl, q⟩
def rIsN : R2 := fun x y H Q => y = .non ∧ Q (.bl (decide (x = .non))) H
theorem op_isNn : OpR X (compareOp .Is) rIsN := op_isN
theorem w_isN (q : Q (.bl (decide (x = .non))) H) : rIsN x .non H Q := ⟨rfl, q⟩
def rNotN : R2 := fun x y H Q => y = .non ∧ Q (.bl (!decide (x = .non))) H
theorem op_notNn : OpR X (compareOp .IsNot) rNotN := op_notN
theorem w_notN (q : Q (.bl (!decide (x = .non))) H) : rNotN x .non H Q := ⟨rfl, q⟩
theorem w_ixL (h : SqL K H p xs) (e : atI xs i = some v) (q : Q v H) : rIxL K (.ref p) (.int i) H Q := ⟨_, _, _, _, rfl, rfl, h, e, q⟩
theorem w_ixT (h : SqT K H p xs) (e : atI xs i = some v) (q : Q v H) : rIxT K (.ref p) (.int i) H Q := ⟨_, _, _, _, rfl, rfl, h, e, q⟩
theorem w_ixS {c : Nat} (l : s.length ≤ sizeLine) (e : atI s.cps.toList i = some c) (q : Q (.str ⟨#[c]⟩) H) : rIxS (.str s) (.int i) H Q := ⟨_, _, _, rfl, rfl, l, e, q⟩
theorem w_app (h : H p = some (.lst xs)) (l : xs.length < sizeLine) (q : Q .non (upd H p (.lst (xs ++ [y])))) : rAppend (.ref p) [y] H Q := ⟨_, _, _, rfl, rfl, h, l, q⟩
theorem w_cat (h : H p = some (.lst xs)) (h' : H a = some (.lst ys)) (l : xs.length + ys.length ≤ sizeLine) (q : ∀ r, H r = none → Q (.ref r) (upd H r (.lst (xs ++ ys)))) : rCat (.ref p) (.ref a) H Q := ⟨_, _, _, _, rfl, rfl, h, h', l, q⟩
theorem w_bm {T : String} {r : V → List V → Hp → VK → Prop} (q : to σ H fun x H1 => tyV K T x H1 ∧ ar σ H1 fun xs H2 => r x xs H2 Q) : tBM K T r to ar σ H Q := q
theorem w_bm0 {T : String} {r : V → List V → Hp → VK → Prop} (q : to σ H fun x H1 => tyV K T x H1 ∧ r x [] H1 Q) : tBM0 K T r to σ H Q := q
theorem w_tyL {P : Prop} (h : SqL K H p xs) (q : P) : tyV K "list" (.ref p) H ∧ P := ⟨.inl ⟨rfl, _, h⟩, q⟩
theorem w_tyS {P : Prop} (q : P) : tyV K "str" (.str s) H ∧ P := ⟨rfl, q⟩
theorem w_tyI {P : Prop} (q : P) : tyV K "int" (.int i) H ∧ P := ⟨rfl, q⟩
theorem w_lst (q : ar σ H fun xs H1 => xs.length ≤ sizeLine ∧ ∀ p, H1 p = none → Q (.ref p) (upd H1 p (.lst xs))) : tLst ar σ H Q := q
theorem w_tup (q : ar σ H fun xs H1 => xs.length ≤ sizeLine ∧ ∀ p, H1 p = none → Q (.ref p) (upd H1 p (.tup xs))) : tTup ar σ H Q := q
theorem w_new {P : Addr → Prop} (l : xs.length ≤ sizeLine) (q : ∀ p, H p = none → P p) : xs.length ≤ sizeLine ∧ ∀ p, H p = none → P p := ⟨l, q⟩
theorem w_sl {r : V → Option Int → Option Int → Hp → VK → Prop} {tl th : TO} (q : te σ H fun x H1 => tl σ H1 fun l H2 => th σ H2 fun u H3 => r x l u H3 Q) : tSl r te tl th σ H Q := q
theorem w_part {Qo : Option Int → Hp → Prop} (q : te σ H fun x H1 => ∃ i, x = .int i ∧ Qo (some i) H1) : tPart te σ H Qo := q
theorem w_part1 {R : Int → Prop} (q : R i) : ∃ j, V.int i = .int j ∧ R j := ⟨_, rfl, q⟩
theorem w_nopart {Qo : Option Int → Hp → Prop} (q : Qo none H) : tNoPart σ H Qo := q
theorem w_slL {lo hi : Option Int} (h : SqL K H p xs) (q : ∀ r, H r = none → Q (.ref r) (upd H r (.lst (cutV xs lo hi)))) : rSlL K (.ref p) lo hi H Q := ⟨_, _, rfl, h, q⟩
theorem w_slS {lo hi : Option Int} (l : s.length ≤ sizeLine) (q : Q (.str (cutS s lo hi)) H) : rSlS (.str s) lo hi H Q := ⟨_, rfl, l, q⟩
theorem w_m1 {r : V → List V → Hp → VK → Prop} (q : to σ H fun x H1 => (∃ a, x = .str a) ∧ te σ H1 fun y H2 => r x [y] H2 Q) : tM1 r to te σ H Q := q
theorem w_m0 {r : V → List V → Hp → VK → Prop} (q : to σ H fun x H1 => (∃ a, x = .str a) ∧ r x [] H1 Q) : tM0 r to σ H Q := q
theorem w_isS {P : Prop} (q : P) : (∃ a, V.str s = .str a) ∧ P := ⟨⟨_, rfl⟩, q⟩
/-- e.f at an instance -/
theorem w_fld (q : ta σ H fun x H1 => ∃ a C dx fs v, x = .ref a ∧ H1 a = some (.ins C dx fs) ∧ Cls K C ∧ NoAttr K C f ∧ fs.lookup f = some v ∧ Q v H1) : tFld K ta f σ H Q := q
theorem w_fld1 (h : H a = some (.ins C dx fs)) (c : Cls K C) (n : NoAttr K C f) (l : fs.lookup f = some v) {R : V → Prop} (q : R v) : ∃ a' C dx fs v', V.ref a = .ref a' ∧ H a' = some (.ins C dx fs) ∧ Cls K C ∧ NoAttr K C f ∧ fs.lookup f = some v' ∧ R v' := ⟨_, _, _, _, _, rfl, h, c, n, l, q⟩
theorem w_sfld (q : tv σ H fun y H1 => ta σ H1 fun x H2 => ∃ a C dx fs, x = .ref a ∧ H2 a = some (.ins C dx fs) ∧ Cls K C ∧ NoAttr K C f ∧ fs.length < 1000 ∧ D.nx σ (upd H2 a (.ins C dx (putF f y fs)))) : sFld K ta tv f D σ H := q
theorem w_sfld1 (h : H a = some (.ins C dx fs)) (c : Cls K C) (n : NoAttr K C f) (l : fs.length < 1000) {R : Hp → Prop} (q : R (upd H a (.ins C dx (putF f y fs)))) : ∃ a' C dx fs, V.ref a = .ref a' ∧ H a' = some (.ins C dx fs) ∧ Cls K C ∧ NoAttr K C f ∧ fs.length < 1000 ∧ R (upd H a' (.ins C dx (putF f y fs))) := ⟨_, _, _, _, rfl, h, c, n, l, q⟩
/-- a def's call: its promise -/
theorem w_ca {CX : CXT} {k j : Nat} {ps : List Str} {dvs : List V} {sp : Sp} {E : XK} (c : Cal X.prog X.w X.K X.mg X.base CX f j ps dvs sp) (hj : j ≤ k) (q : ar σ H fun vs H1 => sp (vs ++ dvs) H1 Q E) : tCA X CX f k E ar σ H Q := ⟨_, _, _, _, c, hj, q⟩
/-- a known test -/
theorem w_ite {c A B : Prop} [Decidable c] (h1 : c → A) (h2 : ¬ c → B) : if decide c = true then A else B := by
  by_cases h : c
  · rw [if_pos (decide_eq_true h)]; exact h1 h
  · rw [if_neg (by simp [h])]; exact h2 h
theorem w_iteN {c A B : Prop} [Decidable c] (h1 : ¬ c → A) (h2 : c → B) : if (!decide c) = true then A else B := by
  by_cases h : c
  · rw [if_neg (by simp [h])]; exact h2 h
  · rw [if_pos (by simp [h])]; exact h1 h
theorem w_iteB {c : Bool} {A B : Prop} (h1 : c = true → A) (h2 : c = false → B) : if c = true then A else B := by
  cases c
  · rw [if_neg Bool.false_ne_true]; exact h2 rfl
  · rw [if_pos rfl]; exact h1 rfl
end
/-! ### loops and comprehensions -/
section
variable {K : PySem.W.Frag} {σ : L2.St} {H : Hp} {Q : VK} {D : Ends} {a : Addr} {xs : List V} {g : TG} {tb : TS} {tt : TT} {te tl : TE} {vs : List Nat} {ar : TA}
theorem w_for {wi : TI} (q : wi σ H fun J H1 => ∃ W : Nat → Nat → L2.St → Hp → Prop, (∃ m, W 0 m σ H1) ∧ ∀ i m σ H, W i m σ H →
  (J.stop i H ∧ D.nx σ H) ∨ (J.go i H ∧ ∃ N : L2.St → Hp → Prop, (∀ σ' H', N σ' H' → ∃ m', m' < m ∧ W (i + 1) m' σ' H') ∧ ∀ x H', J.yld i H x H' → g x σ H' fun σ2 H2 => tb { D with nx := N, ct := N, bk := D.nx } σ2 H2)) : tFor wi g tb D σ H := q
theorem w_iList {R : It → Hp → Prop} (q : tl σ H fun x H1 => ∃ a, x = .ref a ∧ (∃ xs, SqL K H1 a xs) ∧ R (Itl K a) H1) : iList K tl σ H R := q
theorem w_iRng {R : It → Hp → Prop} (q : ar σ H fun vs H1 => ∃ j : Int, vs = [.int j] ∧ -(2 ^ 62) ≤ j ∧ j < 2 ^ 62 ∧ R (Itr 0 j.toNat) H1) : iRng1 ar σ H R := q
theorem w_iRng2 {R : It → Hp → Prop} (q : ar σ H fun vs H1 => ∃ i j : Int, vs = [.int i, .int j] ∧ (-(2 ^ 62) ≤ i ∧ i < 2 ^ 62 ∧ -(2 ^ 62) ≤ j ∧ j < 2 ^ 62) ∧ R (Itr i (j - i).toNat) H1) : iRng2 ar σ H R := q
/-- the loop over the list at a: an invariant over turn, slots, heap -/
theorem w_forL (Pv : Nat → L2.St → Hp → Prop) (hS : SqL K H a xs) (h0 : Pv 0 σ H) (hl : ∀ i σ H, i ≤ xs.length → Pv i σ H → SqL K H a xs)
    (hs : ∀ i x σ H, xs[i]? = some x → Pv i σ H → g x σ H fun σ2 H2 => tb { D with nx := Pv (i + 1), ct := Pv (i + 1), bk := D.nx } σ2 H2) (hd : ∀ σ H, Pv xs.length σ H → D.nx σ H) :
    ∃ a', V.ref a = .ref a' ∧ (∃ xs, SqL K H a' xs) ∧ ∃ W : Nat → Nat → L2.St → Hp → Prop, (∃ m, W 0 m σ H) ∧ ∀ i m σ H, W i m σ H →
      ((Itl K a').stop i H ∧ D.nx σ H) ∨ ((Itl K a').go i H ∧ ∃ N : L2.St → Hp → Prop, (∀ σ' H', N σ' H' → ∃ m', m' < m ∧ W (i + 1) m' σ' H') ∧ ∀ x H', (Itl K a').yld i H x H' → g x σ H' fun σ2 H2 => tb { D with nx := N, ct := N, bk := D.nx } σ2 H2) :=
  ⟨a, rfl, ⟨_, hS⟩, for_list Pv h0 hl hs hd⟩
theorem w_forR {n : Int} (Pv : Nat → L2.St → Hp → Prop) (b1 : -(2 ^ 62) ≤ n) (b2 : n < 2 ^ 62) (h0 : Pv 0 σ H)
    (hs : ∀ i σ H, i < n.toNat → Pv i σ H → g (.int (0 + i)) σ H fun σ2 H2 => tb { D with nx := Pv (i + 1), ct := Pv (i + 1), bk := D.nx } σ2 H2) (hd : ∀ σ H, Pv n.toNat σ H → D.nx σ H) :
    ∃ j : Int, [V.int n] = [V.int j] ∧ -(2 ^ 62) ≤ j ∧ j < 2 ^ 62 ∧ ∃ W : Nat → Nat → L2.St → Hp → Prop, (∃ m, W 0 m σ H) ∧ ∀ i m σ H, W i m σ H →
      ((Itr 0 j.toNat).stop i H ∧ D.nx σ H) ∨ ((Itr 0 j.toNat).go i H ∧ ∃ N : L2.St → Hp → Prop, (∀ σ' H', N σ' H' → ∃ m', m' < m ∧ W (i + 1) m' σ' H') ∧ ∀ x H', (Itr 0 j.toNat).yld i H x H' → g x σ H' fun σ2 H2 => tb { D with nx := N, ct := N, bk := D.nx } σ2 H2) :=
  ⟨n, rfl, b1, b2, for_range Pv h0 hs hd⟩
theorem w_lc {wi : TI} (q : wi σ H fun J H1 => ∀ D, H1 D = none → ∃ W : Nat → Nat → Hp → Prop, (∃ m, W 0 m (upd H1 D (.lst []))) ∧ ∀ i m H, W i m H →
  (J.stop i H ∧ Q (.ref D) H) ∨ (J.go i H ∧ ∃ Nx : Hp → Prop, (∀ H', Nx H' → ∃ m', m' < m ∧ W (i + 1) m' H') ∧ ∀ x H', J.yld i H x H' → g x (wipe σ vs) H' fun σ2 H2 => wipe σ2 vs = wipe σ vs ∧ tt σ2 H2 fun b H3 =>
    if b = true then te σ2 H3 fun y H4 => ∃ acc, H4 D = some (.lst acc) ∧ acc.length < sizeLine ∧ Nx (upd H4 D (.lst (acc ++ [y]))) else Nx H3)) : tLc wi g tt te vs σ H Q := q
theorem w_yes {Qb : Bool → Hp → Prop} (q : Qb true H) : tYes σ H Qb := q
/-- a comprehension over the list at a, in general -/
theorem w_lcL (Pv : Addr → Nat → Hp → Prop) (hS : SqL K H a xs) (h0 : ∀ C, H C = none → Pv C 0 (upd H C (.lst []))) (hl : ∀ C i H', H C = none → i ≤ xs.length → Pv C i H' → SqL K H' a xs)
    (hs : ∀ C i x H', H C = none → xs[i]? = some x → Pv C i H' → g x (wipe σ vs) H' fun σ2 H2 => wipe σ2 vs = wipe σ vs ∧ tt σ2 H2 fun b H3 =>
      if b = true then te σ2 H3 fun y H4 => ∃ acc, H4 C = some (.lst acc) ∧ acc.length < sizeLine ∧ Pv C (i + 1) (upd H4 C (.lst (acc ++ [y]))) else Pv C (i + 1) H3) (hd : ∀ C H', H C = none → Pv C xs.length H' → Q (.ref C) H') :
    ∃ a', V.ref a = .ref a' ∧ (∃ xs, SqL K H a' xs) ∧ ∀ C, H C = none → ∃ W : Nat → Nat → Hp → Prop, (∃ m, W 0 m (upd H C (.lst []))) ∧ ∀ i m H, W i m H →
      ((Itl K a').stop i H ∧ Q (.ref C) H) ∨ ((Itl K a').go i H ∧ ∃ Nx : Hp → Prop, (∀ H', Nx H' → ∃ m', m' < m ∧ W (i + 1) m' H') ∧ ∀ x H', (Itl K a').yld i H x H' → g x (wipe σ vs) H' fun σ2 H2 => wipe σ2 vs = wipe σ vs ∧ tt σ2 H2 fun b H3 =>
        if b = true then te σ2 H3 fun y H4 => ∃ acc, H4 C = some (.lst acc) ∧ acc.length < sizeLine ∧ Nx (upd H4 C (.lst (acc ++ [y]))) else Nx H3) :=
  ⟨a, rfl, ⟨_, hS⟩, fun C hC => lc_list (Pv C) (h0 C hC) (fun i H' hi p => hl C i H' hC hi p) (fun i x H' hx p => hs C i x H' hC hx p) fun H' p => hd C H' hC p⟩
theorem w_lcR {n : Int} (Pv : Addr → Nat → Hp → Prop) (b1 : -(2 ^ 62) ≤ n) (b2 : n < 2 ^ 62) (h0 : ∀ C, H C = none → Pv C 0 (upd H C (.lst [])))
    (hs : ∀ C i H', H C = none → i < n.toNat → Pv C i H' → g (.int (0 + i)) (wipe σ vs) H' fun σ2 H2 => wipe σ2 vs = wipe σ vs ∧ tt σ2 H2 fun b H3 =>
      if b = true then te σ2 H3 fun y H4 => ∃ acc, H4 C = some (.lst acc) ∧ acc.length < sizeLine ∧ Pv C (i + 1) (upd H4 C (.lst (acc ++ [y]))) else Pv C (i + 1) H3) (hd : ∀ C H', H C = none → Pv C n.toNat H' → Q (.ref C) H') :
    ∃ j : Int, [V.int n] = [V.int j] ∧ -(2 ^ 62) ≤ j ∧ j < 2 ^ 62 ∧ ∀ C, H C = none → ∃ W : Nat → Nat → Hp → Prop, (∃ m, W 0 m (upd H C (.lst []))) ∧ ∀ i m H, W i m H →
      ((Itr 0 j.toNat).stop i H ∧ Q (.ref C) H) ∨ ((Itr 0 j.toNat).go i H ∧ ∃ Nx : Hp → Prop, (∀ H', Nx H' → ∃ m', m' < m ∧ W (i + 1) m' H') ∧ ∀ x H', (Itr 0 j.toNat).yld i H x H' → g x (wipe σ vs) H' fun σ2 H2 => wipe σ2 vs = wipe σ vs ∧ tt σ2 H2 fun b H3 =>
        if b = true then te σ2 H3 fun y H4 => ∃ acc, H4 C = some (.lst acc) ∧ acc.length < sizeLine ∧ Nx (upd H4 C (.lst (acc ++ [y]))) else Nx H3) :=
  ⟨n, rfl, b1, b2, fun C hC => lc_range (Pv C) (h0 C hC) (fun i H' hi p => hs C i H' hC hi p) fun H' p => hd C H' hC p⟩
/-- what stands behind i items, where each gives a value or none and nothing else changes -/
def LcF (H : Hp) (xs : List V) (f : V → Option V) (C : Addr) (i : Nat) (H' : Hp) : Prop := Same H H' ∧ H' C = some (.lst ((xs.take i).filterMap f))
theorem take_succ' {α : Type} {xs : List α} {i : Nat} {x : α} (h : xs[i]? = some x) : xs.take (i + 1) = xs.take i ++ [x] := by
  rw [List.take_add_one, h]; rfl
theorem lcF_0 {f : V → Option V} {C : Addr} (h : H C = none) : LcF H xs f C 0 (upd H C (.lst [])) := ⟨same_new h _, by rw [upd_same]; rfl⟩
theorem lcF_yes {f : V → Option V} {C : Addr} {i : Nat} {x y : V} {H4 : Hp} (p : LcF H xs f C i H4) (h : H C = none) (hx : xs[i]? = some x) (hf : f x = some y) (hz : xs.length ≤ 100000) :
    ∃ acc, H4 C = some (.lst acc) ∧ acc.length < sizeLine ∧ LcF H xs f C (i + 1) (upd H4 C (.lst (acc ++ [y]))) := by
  refine ⟨_, p.2, ?_, same_mut p.1 h, ?_⟩
  · have h1 := List.length_filterMap_le f (xs.take i)
    rw [List.length_take] at h1
    have h2 := sizeLine_eq
    omega
  · rw [upd_same, take_succ' hx, List.filterMap_append, List.filterMap_cons_some hf]; rfl
theorem lcF_no {f : V → Option V} {C : Addr} {i : Nat} {x : V} {H4 : Hp} (p : LcF H xs f C i H4) (hx : xs[i]? = some x) (hf : f x = none) : LcF H xs f C (i + 1) H4 := by
  refine ⟨p.1, ?_⟩
  rw [p.2, take_succ' hx, List.filterMap_append, List.filterMap_cons_none hf, List.filterMap_nil, List.append_nil]
end
/-! ### isinstance; == of lists of ints -/
section
variable {X : Cx} {K : PySem.W.Frag} {H : Hp} {Q : VK} {a b : Addr} {ns ms : List Int} {x : V}
theorem w_isi {n t : String} {r : Bool} (ty : TyX K H x (.type t)) (k : kitB t n = some r) (q : Q (.bl r) H) : rIsi K [x, .ty n] H Q := ⟨_, _, _, _, _, rfl, ClsV.ty n, ty, kit_ty k, q⟩
theorem dpAll_ints : ∀ ns : List Int, DpAll K H (ns.map V.int) (ns.map PyData.int)
  | [] => .nil
  | n :: r => .cons (.int n) (dpAll_ints r)
theorem eqvAll_ints : ∀ ns ms : List Int, PyData.eqvAll (ns.map PyData.int) (ms.map PyData.int) = decide (ns = ms)
  | [], [] => by simp [PyData.eqvAll]
  | [], _ :: _ => by simp [PyData.eqvAll]
  | _ :: _, [] => by simp [PyData.eqvAll]
  | n :: r, k :: q => by
    simp only [List.map_cons, PyData.eqvAll, PyData.eqv, eqvAll_ints r q]
    by_cases h : n = k <;> simp [h]
theorem eqv_ints : PyData.eqv (.list (ns.map PyData.int)) (.list (ms.map PyData.int)) = decide (ns = ms) := by
  rw [PyData.eqv]; exact eqvAll_ints ns ms
def rEqI (K : PySem.W.Frag) : R2 := fun x y H Q => ∃ (a b : Addr) (ns ms : List Int), x = .ref a ∧ y = .ref b ∧ SqL K H a (ns.map V.int) ∧ SqL K H b (ms.map V.int) ∧ Q (.bl (decide (ns = ms))) H
def rNeI (K : PySem.W.Frag) : R2 := fun x y H Q => ∃ (a b : Addr) (ns ms : List Int), x = .ref a ∧ y = .ref b ∧ SqL K H a (ns.map V.int) ∧ SqL K H b (ms.map V.int) ∧ Q (.bl (!decide (ns = ms))) H
theorem op_eqLI (hu : X.A.units + 64 < cLine) : OpR X (compareOp .Eq) (rEqI X.K) := fun pins s σ H x y v u Q I rx ry h => by
  obtain ⟨a, b, ns, ms, rfl, rfl, h1, h2, q⟩ := h
  exact op_eqD hu pins s σ H _ _ v u Q I rx ry ⟨_, _, .lst h1 (dpAll_ints ns), .lst h2 (dpAll_ints ms), PySem.W.shaped_ints ns, PySem.W.shaped_ints ms, by rw [eqv_ints]; exact q⟩
theorem op_neLI (hu : X.A.units + 64 < cLine) : OpR X (compareOp .NotEq) (rNeI X.K) := fun pins s σ H x y v u Q I rx ry h => by
  obtain ⟨a, b, ns, ms, rfl, rfl, h1, h2, q⟩ := h
  exact op_neD hu pins s σ H _ _ v u Q I rx ry ⟨_, _, .lst h1 (dpAll_ints ns), .lst h2 (dpAll_ints ms), PySem.W.shaped_ints ns, PySem.W.shaped_ints ms, by rw [eqv_ints]; exact q⟩
theorem w_eqLI (h1 : SqL K H a (ns.map V.int)) (h2 : SqL K H b (ms.map V.int)) (q : Q (.bl (decide (ns = ms))) H) : rEqI K (.ref a) (.ref b) H Q := ⟨_, _, _, _, rfl, rfl, h1, h2, q⟩
theorem w_neLI (h1 : SqL K H a (ns.map V.int)) (h2 : SqL K H b (ms.map V.int)) (q : Q (.bl (!decide (ns = ms))) H) : rNeI K (.ref a) (.ref b) H Q := ⟨_, _, _, _, rfl, rfl, h1, h2, q⟩
theorem w_wip {σ σ' : L2.St} {vs : List Nat} {R : Prop} (h : wipe σ vs = wipe σ' vs) (q : R) : wipe σ vs = wipe σ' vs ∧ R := ⟨h, q⟩
theorem map_at {ns : List Int} {i : Nat} {x : V} (h : (ns.map V.int)[i]? = some x) : ∃ n, ns[i]? = some n ∧ x = .int n := by
  rw [List.getElem?_map] at h
  obtain ⟨t, ht, e⟩ := Option.map_eq_some_iff.mp h
  exact ⟨t, ht, e.symm⟩
theorem at_ints {ns : List Int} {k : Int} (h0 : 0 ≤ k) (h : k < (ns.length : Int)) : atI (ns.map V.int) k = some (V.int (ns.getD k.toNat 0)) := by
  refine at_of (j := k.toNat) (by omega) ?_
  rw [List.getElem?_map, List.getElem?_eq_getElem (by omega)]
  simp [List.getD, List.getElem?_eq_getElem (show k.toNat < ns.length by omega)]
theorem at_nat {xs : List V} {k : Int} {i : Nat} {v : V} (e : k = (i : Int)) (h : xs[i]? = some v) : atI xs k = some v := at_of e h
end
theorem kit_ll : kitB "list" "list" = some true := by decide +kernel
theorem kit_ii : kitB "int" "int" = some true := by decide +kernel
theorem kit_ib : kitB "int" "bool" = some false := by decide +kernel
theorem kit_bb : kitB "bool" "bool" = some true := by decide +kernel
theorem kit_tt : kitB "tuple" "tuple" = some true := by decide +kernel
theorem kit_ss : kitB "str" "str" = some true := by decide +kernel
theorem w_cut {t u : TS} {D : Ends} {σ : L2.St} {H : Hp} (Mid : L2.St → Hp → Prop) (h1 : t { D with nx := Mid } σ H) (h2 : ∀ σ' H', Mid σ' H' → u D σ' H') : C8.tCut t u D σ H := ⟨Mid, h1, h2⟩
section
variable {n : L2.St → Hp → Prop} {r : VK} {b c : L2.St → Hp → Prop} {σ : L2.St} {H : Hp} {v : V}
theorem w_nx (q : n σ H) : (Ends.mk n r b c).nx σ H := q
theorem w_rt (q : r v H) : (Ends.mk n r b c).rt v H := q
theorem w_bk (q : b σ H) : (Ends.mk n r b c).bk σ H := q
theorem w_ct (q : c σ H) : (Ends.mk n r b c).ct σ H := q
end
end Mn

/-! ### tactics: "rd" reads on as far as it goes; "hp", "ne", "sq", "st", "same", "sz" close what is asked of heaps and sizes -/
local macro_rules | `(tactic| walk_at "sz") => `(tactic| first
  | assumption
  | decide
  | (show _ ≤ PySem.sizeLine; decide)
  | (have sl' := PySem.sizeLine_eq; (try simp only [List.length_map, List.length_append, List.length_cons, List.length_nil, List.length_singleton, List.length_drop, List.length_take]); omega))
local macro_rules | `(tactic| walk_at "ne1") => `(tactic| first
  | assumption
  | (apply Ne.symm; assumption)
  | exact L2.ne_of_none (by assumption) (by assumption)
  | exact (L2.ne_of_none (by assumption) (by assumption)).symm)
local macro_rules | `(tactic| walk_at "hp") => `(tactic| first
  | assumption
  | exact L2.upd_same
  | (rw [L2.upd_ne (by walk_at "ne")]; walk_at "hp")
  | exact (by assumption : L2.Same _ _) _ _ (by assumption)
  | exact (by assumption : L2.Same _ _) _ _ ((by assumption : L2.Same _ _) _ _ (by assumption)))
local macro_rules | `(tactic| walk_at "ne") => `(tactic| first
  | walk_at "ne1"
  | exact L2.ne_of_none (by walk_at "hp") (by assumption)
  | exact (L2.ne_of_none (by walk_at "hp") (by assumption)).symm)
local macro_rules | `(tactic| walk_at "same") => `(tactic| first
  | assumption
  | exact L2.Same.refl _
  | exact L2.Same.trans (by assumption) (by assumption)
  | (refine' Mn.same_upd (by walk_at "same") (by assumption))
  | (refine' Mn.same_mut (by walk_at "same") (by assumption)))
local macro_rules | `(tactic| walk_at "sq") => `(tactic| first
  | assumption
  | exact L2.SqL.of L2.upd_same
  | exact L2.SqL.of (by walk_at "hp")
  | (refine' L2.Same.seq ?sq_s ?sq_h; (case sq_h => assumption); (case sq_s => walk_at "same")))
local macro_rules | `(tactic| walk_at "st") => `(tactic| first
  | assumption
  | exact L2.SqT.of L2.upd_same
  | exact L2.SqT.of (by walk_at "hp")
  | (refine' Mn.sqT_same ?sq_s ?sq_h; (case sq_h => assumption); (case sq_s => walk_at "same")))
local macro_rules | `(tactic| walk_at "v2") => `(tactic| first
  | ((with_reducible refine' Mn.w_lenL ?h ?_); (case h => walk_at "sq"))
  | ((with_reducible refine' Mn.w_lenT ?h ?_); (case h => walk_at "st"))
  | ((with_reducible refine' Mn.w_lenS ?h ?_); (case h => walk_at "sz"))
  | ((with_reducible refine' Mn.w_addS ?h ?_); (case h => walk_at "sz"))
  | with_reducible refine Mn.w_intB ?_
  | with_reducible refine Mn.w_max ?_
  | with_reducible refine Mn.w_min ?_
  | with_reducible refine Mn.w_isN ?_
  | with_reducible refine Mn.w_notN ?_
  | with_reducible refine Mn.w_inS ?_
  | with_reducible refine Mn.w_ninS ?_
  | with_reducible refine Mn.w_bm ?_
  | with_reducible refine Mn.w_bm0 ?_
  | with_reducible refine Mn.w_tyS ?_
  | with_reducible refine Mn.w_tyI ?_
  | ((with_reducible refine' Mn.w_tyL ?h ?_); (case h => walk_at "sq"))
  | ((with_reducible refine' Mn.w_app ?h ?hs ?_); (case h => walk_at "hp"); (case hs => walk_at "sz"))
  | with_reducible refine Mn.w_lst ?_
  | with_reducible refine Mn.w_tup ?_
  | with_reducible refine Mn.w_sl ?_
  | with_reducible refine Mn.w_part ?_
  | with_reducible refine Mn.w_part1 ?_
  | with_reducible refine Mn.w_nopart ?_
  | with_reducible refine Mn.w_m1 ?_
  | with_reducible refine Mn.w_m0 ?_
  | with_reducible refine Mn.w_isS ?_
  | with_reducible refine Mn.w_fld ?_
  | with_reducible refine Mn.w_sfld ?_
  | with_reducible refine Mn.w_for ?_
  | with_reducible refine Mn.w_iList ?_
  | with_reducible refine Mn.w_iRng ?_
  | with_reducible refine Mn.w_lc ?_
  | with_reducible refine Mn.w_yes ?_
  | ((with_reducible refine' Mn.w_wip ?h ?_); (case h => rfl))
  | ((with_reducible refine' Mn.w_eqLI ?h1 ?h2 ?_); (case h1 => walk_at "sq"); (case h2 => walk_at "sq"))
  | ((with_reducible refine' Mn.w_neLI ?h1 ?h2 ?_); (case h1 => walk_at "sq"); (case h2 => walk_at "sq"))
  | ((with_reducible refine' Mn.w_I ?c ?_); (case c => first | (show (0 : Int) < _; decide) | exact ⟨by decide, by decide⟩ | exact ⟨by decide, by decide, by decide⟩)))
local macro_rules | `(tactic| walk_at "v1") => `(tactic| first
  | ((with_reducible refine' Mn.w_var ?hv ?_); (case hv => rfl))
  | with_reducible refine Mn.w_c ?_
  | with_reducible refine Mn.w_seq ?_
  | with_reducible refine Mn.w_asg ?_
  | with_reducible refine Mn.w_name ?_
  | with_reducible refine Mn.w_op ?_
  | with_reducible refine Mn.w_I0 ?_
  | with_reducible refine Mn.w_cons ?_
  | with_reducible refine Mn.w_nil ?_
  | with_reducible refine Mn.w_cb ?_
  | with_reducible refine Mn.w_if ?_
  | with_reducible refine Mn.w_test ?_
  | with_reducible refine Mn.w_bl ?_
  | ((with_reducible refine' Mn.w_eq ?hs ?_); (case hs => rfl))
  | ((with_reducible refine' Mn.w_ne ?hs ?_); (case hs => rfl))
  | with_reducible refine Mn.w_drop ?_
  | with_reducible refine Mn.w_ret ?_
  | with_reducible refine Mn.w_and ?_
  | with_reducible refine Mn.w_or ?_
  | with_reducible refine Mn.w_not ?_
  | with_reducible refine Mn.w_B ?_
  | with_reducible refine Mn.w_un ?_
  | with_reducible refine Mn.w_U ?_
  | with_reducible refine Mn.w_andV ?_
  | with_reducible refine Mn.w_orV ?_
  | with_reducible refine Mn.w_notV ?_
  | with_reducible refine Mn.w_chain ?_
  | with_reducible refine Mn.w_next ?_
  | with_reducible refine Mn.w_retN ?_
  | with_reducible refine Mn.w_cont ?_
  | with_reducible refine Mn.w_nx ?_
  | with_reducible refine Mn.w_rt ?_
  | with_reducible refine Mn.w_ct ?_
  | with_reducible refine Mn.w_bk ?_)
local macro_rules | `(tactic| walk_at "if") => `(tactic| first
  | (refine' Mn.w_ite ?_ ?_ <;> (intro c))
  | (refine' Mn.w_iteN ?_ ?_ <;> (intro c))
  | (refine' Mn.w_iteB ?_ ?_ <;> (intro c)))
local macro_rules | `(tactic| walk_at "rd") => `(tactic| repeat (first | walk_at "v1" | walk_at "v2"))

namespace Mn
open PySem L2
def top (i : Nat) : Stmt := PySem.Challenge.pw_minders_k02_falls_in_a_span.main.body.getD i (.Pass ⟨0, 0, 0, 0⟩)
/-- the built-ins that the text names -/
structure Bt (mg : Str → Option Value) : Prop where
  len : mg "len" = none
  int : mg "int" = none
  bool : mg "bool" = none
  list : mg "list" = none
  range : mg "range" = none
  max : mg "max" = none
  sorted : mg "sorted" = none
  isinstance : mg "isinstance" = none
abbrev s_recent : Stmt := top 1
theorem sc_recent : FnScope ["falls", "clock", "span", "turn"] ["falls", "clock", "span"] (defScope s_recent) := ⟨rfl, rfl, rfl, by decide +kernel, rfl, by decide +kernel, by decide +kernel⟩
abbrev s_too_many : Stmt := top 2
theorem sc_too_many : FnScope ["falls", "clock", "span", "most"] ["falls", "clock", "span", "most"] (defScope s_too_many) := ⟨rfl, rfl, rfl, by decide +kernel, rfl, by decide +kernel, by decide +kernel⟩
abbrev s_law_cell_at : Stmt := top 4
theorem sc_law_cell_at : FnScope ["_law_script", "_law_k"] ["_law_script", "_law_k"] (defScope s_law_cell_at) := ⟨rfl, rfl, rfl, by decide +kernel, rfl, by decide +kernel, by decide +kernel⟩
abbrev s_law_counted : Stmt := top 5
theorem sc_law_counted : FnScope ["_law_falls", "_law_clock", "_law_span", "_law_rows", "_law_turn"] ["_law_falls", "_law_clock", "_law_span"] (defScope s_law_counted) := ⟨rfl, rfl, rfl, by decide +kernel, rfl, by decide +kernel, by decide +kernel⟩
abbrev s_law_asked : Stmt := top 6
theorem sc_law_asked : FnScope ["_law_falls", "_law_clock", "_law_span", "_law_most", "_law_due", "_law_handed", "_law_found", "_law_k", "_law_told"] ["_law_falls", "_law_clock", "_law_span", "_law_most"] (defScope s_law_asked) := ⟨rfl, rfl, rfl, by decide +kernel, rfl, by decide +kernel, by decide +kernel⟩
abbrev s_law : Stmt := top 7
theorem sc_law : FnScope ["_law_script", "_law_near", "_law_clock", "_law_span", "_law_falls", "_law_cell", "_law_most"] ["_law_script"] (defScope s_law) := ⟨rfl, rfl, rfl, by decide +kernel, rfl, by decide +kernel, by decide +kernel⟩
section
variable {P : Program} {w : World} {K : PySem.W.Frag} {mg : Str → Option Value} {base : Heap}
def spCell (K : PySem.W.Frag) : Sp := fun vs H Q _ => ∃ (a : Addr) (ns : List Int) (k : Int), vs = [.ref a, .int k] ∧ SqL K H a (ns.map V.int) ∧ 0 ≤ k ∧ ns.length ≤ 1000 ∧ Q (.int (ns.getD k.toNat 0)) H
theorem ok_cell {f : Addr} {fd : FuncData} (F : Fun K "_law_cell_at" "_law_cell_at" s_law_cell_at f fd) (T : Bt mg) : FnOk P w K mg base CX0 1 f fd ["_law_script", "_law_k"] (spCell K) := by
  refine F.ok sc_law_cell_at (fun vs H Q E h => ?_) (fun cdv A outer s H vs Q E hr h => ?_)
  · obtain ⟨a, ns, k, rfl, _⟩ := h
    rfl
  obtain ⟨a, ns, k, rfl, hS, h0, h1, q⟩ := h
  refine ⟨_, (pss_cons (ps_if (pt_cmpR op_lt (pv 1) (pe_callB call_lenL (by rfl) T.len (by decide +kernel) (pa_cons (pv 0) pa_nil)) (nomark _)) (pss_one (ps_ret (pe_ix ix_list (pv 0) (pv 1) (fun _ _ => rfl)))) pss_nil)
    (pss_one (ps_ret pe_int))), ?_⟩
  walk_at "rd"
  walk_at "if"
  all_goals rename_i c
  all_goals rw [List.length_map] at c
  all_goals walk_at "rd"
  · exact w_ixL hS (at_ints h0 c) q
  · have e : ns.getD k.toNat 0 = 0 := by simp [List.getD, List.getElem?_eq_none (show ns.length ≤ k.toNat by omega)]
    rw [e] at q
    exact q
/-- recent: those less than the span ahead -/
def recF (c s : Int) (ns : List Int) : List Int := ns.filter fun t => decide (c - t < s)
theorem recF_le (c s : Int) (ns : List Int) : (recF c s ns).length ≤ ns.length := List.length_filter_le _ _
theorem recF_map (c s : Int) (ns : List Int) : (ns.map V.int).filterMap (fun v => match v with | .int t => if c - t < s then some (.int t) else none | _ => none) = (recF c s ns).map V.int := by
  induction ns with
  | nil => rfl
  | cons n r ih =>
    unfold recF at ih ⊢
    by_cases h : c - n < s <;> simp [h, ih]
def spRec (K : PySem.W.Frag) : Sp := fun vs H Q _ => ∃ (a : Addr) (ns : List Int) (c s : Int), vs = [.ref a, .int c, .int s] ∧ SqL K H a (ns.map V.int) ∧ ns.length ≤ 1000 ∧
  ∀ p H', H p = none → Same H H' → H' p = some (.lst ((recF c s ns).map V.int)) → Q (.ref p) H'
theorem ok_recent {f : Addr} {fd : FuncData} (F : Fun K "recent" "recent" s_recent f fd) : FnOk P w K mg base CX0 1 f fd ["falls", "clock", "span"] (spRec K) := by
  refine F.ok sc_recent (fun vs H Q E h => ?_) (fun cdv A outer s H vs Q E hr h => ?_)
  · obtain ⟨a, ns, c, s, rfl, _⟩ := h
    rfl
  obtain ⟨a, ns, c, s, rfl, hS, hz, q⟩ := h
  refine ⟨_, (pss_one (ps_ret (pe_lc (own := [("turn", 3)]) (g := gName 3) (by rfl) sc_recent.nd (pi_list (pv 0)) (blkOk_by (own := [("turn", 3)]) (N := ["falls", "clock", "span", "turn"]) (sc := defScope s_recent) (by decide +kernel)) (fun _ _ _ _ _ => pg_name (i := 3) sc_recent.nd rfl (Or.inl rfl)) (fun _ _ _ _ _ => pts_one (pt_cmpR op_lt (pe_op op_sub (pv 1) (pv 3)) (pv 2) (nomark _))) (fun _ _ _ _ _ => (pv 3))))), ?_⟩
  walk_at "rd"
  refine w_lcL (xs := ns.map V.int) (LcF H (ns.map V.int) (fun v => match v with | .int t => if c - t < s then some (.int t) else none | _ => none)) hS (fun C h => lcF_0 h) (fun C i H' _ _ p => p.1.seq hS) (fun C i x H' hC hx p => ?_) (fun C H' hC p => ?_)
  · obtain ⟨t, ht, rfl⟩ := map_at hx
    walk_at "rd"
    walk_at "if"
    all_goals rename_i c
    all_goals walk_at "rd"
    · exact lcF_yes p hC hx (by simp [c]) (by simpa using (by omega : ns.length ≤ 100000))
    · exact lcF_no p hx (by simp [c])
  · refine q C H' hC p.1 ?_
    have e := p.2
    rw [List.take_length, recF_map] at e
    exact e
def spToo (K : PySem.W.Frag) : Sp := fun vs H Q _ => ∃ (a : Addr) (ns : List Int) (c s m : Int), vs = [.ref a, .int c, .int s, .int m] ∧ SqL K H a (ns.map V.int) ∧ ns.length ≤ 1000 ∧
  ∀ H', Same H H' → Q (.bl (decide (((recF c s ns).length : Int) + 1 > m))) H'
theorem ok_too {f : Addr} {fd : FuncData} (F : Fun K "too_many" "too_many" s_too_many f fd) (T : Bt mg) (CR : Cal P w K mg base CX0 "recent" 1 ["falls", "clock", "span"] [] (spRec K)) : FnOk P w K mg base CX0 2 f fd ["falls", "clock", "span", "most"] (spToo K) := by
  refine F.ok sc_too_many (fun vs H Q E h => ?_) (fun cdv A outer s H vs Q E hr h => ?_)
  · obtain ⟨a, ns, c, s, m, rfl, _⟩ := h
    rfl
  obtain ⟨a, ns, c, s, m, rfl, hS, hz, q⟩ := h
  refine ⟨_, (pss_one (ps_ret (pe_cmpR op_gt (pe_op op_add (pe_callB call_lenL (by rfl) T.len (by decide +kernel) (pa_cons (pe_ca hr rfl (pa_cons (pv 0) (pa_cons (pv 1) (pa_cons (pv 2) pa_nil)))) pa_nil)) pe_int) (pv 3) (nomark _)))), ?_⟩
  walk_at "rd"
  refine w_ca CR (by decide) ?_
  walk_at "rd"
  refine ⟨a, ns, c, s, rfl, hS, hz, fun p H1 hp s1 e1 => ?_⟩
  walk_at "rd"
  rw [List.length_map]
  exact q H1 s1
/-- _law_counted -/
def cntF (c s : Int) (ns : List Int) : List Int := ns.filter fun t => decide (t > c - s)
theorem cnt_rec (c s : Int) (ns : List Int) : cntF c s ns = recF c s ns := by
  unfold cntF recF
  refine congrArg (fun g => List.filter g ns) (funext fun t => ?_)
  have : (t > c - s) = (c - t < s) := propext ⟨fun h => by omega, fun h => by omega⟩
  simp only [this]
def spCnt (K : PySem.W.Frag) : Sp := fun vs H Q _ => ∃ (a : Addr) (ns : List Int) (c s : Int), vs = [.ref a, .int c, .int s] ∧ SqL K H a (ns.map V.int) ∧ ns.length ≤ 1000 ∧
  ∀ p H', H p = none → Same H H' → H' p = some (.lst ((cntF c s ns).map V.int)) → Q (.ref p) H'
theorem take_filter {p : Int → Bool} {ns : List Int} {i : Nat} {n : Int} (h : ns[i]? = some n) : (ns.take (i + 1)).filter p = (ns.take i).filter p ++ (if p n then [n] else []) := by
  rw [take_succ' h, List.filter_append]
  congr 1
  by_cases c : p n <;> simp [c]
theorem ok_counted {f : Addr} {fd : FuncData} (F : Fun K "_law_counted" "_law_counted" s_law_counted f fd) : FnOk P w K mg base CX0 1 f fd ["_law_falls", "_law_clock", "_law_span"] (spCnt K) := by
  refine F.ok sc_law_counted (fun vs H Q E h => ?_) (fun cdv A outer s H vs Q E hr h => ?_)
  · obtain ⟨a, ns, c, s, rfl, _⟩ := h
    rfl
  obtain ⟨a, ns, c, s, rfl, hS, hz, q⟩ := h
  refine ⟨_, (pss_cons (ps_set (i := 3) sc_law_counted.nd rfl (Or.inl rfl) (pe_lst pa_nil))
    (pss_cons (ps_for PassesOwn.never rfl (pi_list (pv 0)) (pg_name (i := 4) sc_law_counted.nd rfl (Or.inl rfl)) (pss_one (ps_if (pt_cmpR op_gt (pv 4) (pe_op op_sub (pv 1) (pv 2)) (nomark _)) (pss_one (ps_expr (pe_bm PySem.F.plainAttrs_list PySem.F.slot_list_append PySem.F.type_list_append mt_append (pv 3) (pa_cons (pv 4) pa_nil)))) pss_nil)))
    (pss_one (ps_ret (pv 3))))), ?_⟩
  walk_at "rd"
  refine ⟨by walk_at "sz", fun r hr0 => ?_⟩
  walk_at "rd"
  refine w_forL (xs := ns.map V.int) (fun i σ H' => ∃ v, σ = [some (.ref a), some (.int c), some (.int s), some (.ref r), v] ∧ Same H H' ∧ H' r = some (.lst ((cntF c s (ns.take i)).map V.int))) (by walk_at "sq") ⟨none, rfl, same_new hr0 _, upd_same⟩ (fun i σ H' _ p => ?_) (fun i x σ H' hx p => ?_) (fun σ H' p => ?_)
  · obtain ⟨v, rfl, s1, e1⟩ := p
    walk_at "sq"
  · obtain ⟨v, rfl, s1, e1⟩ := p
    obtain ⟨t, ht, rfl⟩ := map_at hx
    walk_at "rd"
    walk_at "if"
    all_goals rename_i k
    all_goals walk_at "rd"
    · have hl : ((cntF c s (ns.take i)).map V.int).length < sizeLine := by
        have h1 : (cntF c s (ns.take i)).length ≤ (ns.take i).length := List.length_filter_le _ _
        rw [List.length_take] at h1
        walk_at "sz"
      refine w_app (by walk_at "hp") hl ?_
      walk_at "rd"
      refine ⟨_, rfl, same_mut s1 hr0, ?_⟩
      rw [upd_same]
      show _ = some (HO.lst (((ns.take (i + 1)).filter _).map V.int))
      rw [take_filter ht, if_pos (decide_eq_true k), List.map_append]; rfl
    · refine ⟨_, rfl, s1, ?_⟩
      rw [e1]
      show _ = some (HO.lst (((ns.take (i + 1)).filter _).map V.int))
      rw [take_filter ht, if_neg (by simpa using k), List.append_nil]; rfl
  · obtain ⟨v, rfl, s1, e1⟩ := p
    walk_at "rd"
    rw [List.length_map, List.take_length] at e1
    exact q r H' hr0 s1 e1
end
end Mn

namespace Mn
open PySem L2
section
variable {P : Program} {w : World} {K : PySem.W.Frag} {mg : Str → Option Value} {base : Heap}
def spAsk (K : PySem.W.Frag) : Sp := fun vs H Q _ => ∃ (a : Addr) (ns : List Int) (c s m : Int), vs = [.ref a, .int c, .int s, .int m] ∧ SqL K H a (ns.map V.int) ∧ ns.length ≤ 1000 ∧ ∀ H', Same H H' → Q (.bl true) H'
theorem rec_le (c s : Int) (ns : List Int) (h : ns.length ≤ 1000) : (recF c s ns).length ≤ 1000 := Nat.le_trans (recF_le c s ns) h
theorem ok_asked {f : Addr} {fd : FuncData} (F : Fun K "_law_asked" "_law_asked" s_law_asked f fd) (T : Bt mg) (CR : Cal P w K mg base CX0 "recent" 1 ["falls", "clock", "span"] [] (spRec K))
    (CT : Cal P w K mg base CX0 "too_many" 2 ["falls", "clock", "span", "most"] [] (spToo K)) (CC : Cal P w K mg base CX0 "_law_counted" 1 ["_law_falls", "_law_clock", "_law_span"] [] (spCnt K)) :
    FnOk P w K mg base CX0 3 f fd ["_law_falls", "_law_clock", "_law_span", "_law_most"] (spAsk K) := by
  refine F.ok sc_law_asked (fun vs H Q E h => ?_) (fun cdv A outer s H vs Q E hr h => ?_)
  · obtain ⟨a, ns, c, s, m, rfl, _⟩ := h
    rfl
  obtain ⟨a, ns, c, s, m, rfl, hS, hz, q⟩ := h
  refine ⟨_, (pss_cons (ps_set (i := 4) sc_law_asked.nd rfl (Or.inl rfl) (pe_ca hr rfl (pa_cons (pv 0) (pa_cons (pv 1) (pa_cons (pv 2) pa_nil)))))
    (pss_cons (ps_set (i := 5) sc_law_asked.nd rfl (Or.inl rfl) (pe_callTy call_listL (by rfl) T.list (by decide +kernel) (pa_cons (pv 0) pa_nil)))
    (pss_cons (ps_set (i := 6) sc_law_asked.nd rfl (Or.inl rfl) (pe_ca hr rfl (pa_cons (pv 5) (pa_cons (pv 1) (pa_cons (pv 2) pa_nil)))))
    (pss_cons (ps_if (PW.pt (pw_or (pt_not (pt_val (pe_callB call_isi (by rfl) T.isinstance (by decide +kernel) (pa_cons (pv 6) (pa_cons (pe_bltn (v := .ty "list") (u := .type "list") rfl T.list (by decide +kernel) rfl) pa_nil))))) (pw_or1 (pt_cmpR op_ne (pe_callB call_lenL (by rfl) T.len (by decide +kernel) (pa_cons (pv 6) pa_nil)) (pe_callB call_lenL (by rfl) T.len (by decide +kernel) (pa_cons (pv 4) pa_nil)) (nomark _))))) (pss_one (ps_ret pe_bl)) pss_nil)
    (pss_cons (ps_for PassesOwn.never rfl (pi_range1 rfl T.range (pa_cons (pe_callB call_lenL (by rfl) T.len (by decide +kernel) (pa_cons (pv 4) pa_nil)) pa_nil)) (pg_name (i := 7) sc_law_asked.nd rfl (Or.inl rfl)) (pss_one (ps_if (PW.pt (pw_or (pt_not (pt_val (pe_callB call_isi (by rfl) T.isinstance (by decide +kernel) (pa_cons (pe_ix ix_list (pv 6) (pv 7) (fun _ _ => rfl)) (pa_cons (pe_bltn (v := .ty "int") (u := .type "int") rfl T.int (by decide +kernel) rfl) pa_nil))))) (pw_or (pt_val (pe_callB call_isi (by rfl) T.isinstance (by decide +kernel) (pa_cons (pe_ix ix_list (pv 6) (pv 7) (fun _ _ => rfl)) (pa_cons (pe_bltn (v := .ty "bool") (u := .type "bool") rfl T.bool (by decide +kernel) rfl) pa_nil)))) (pw_or1 (pt_cmpR op_ne (pe_ix ix_list (pv 6) (pv 7) (fun _ _ => rfl)) (pe_ix ix_list (pv 4) (pv 7) (fun _ _ => rfl)) (nomark _)))))) (pss_one (ps_ret pe_bl)) pss_nil)))
    (pss_cons (ps_expr (pe_bm PySem.F.plainAttrs_list PySem.F.slot_list_append PySem.F.type_list_append mt_append (pv 6) (pa_cons pe_int pa_nil)))
    (pss_cons (ps_set (i := 8) sc_law_asked.nd rfl (Or.inl rfl) (pe_ca hr rfl (pa_cons (pv 5) (pa_cons (pv 1) (pa_cons (pv 2) (pa_cons (pv 3) pa_nil))))))
    (pss_cons (ps_if (PW.pt (pw_or (pt_cmpR (op_neLI hr.units) (pv 5) (pv 0) (nomark _)) (pw_or1 (pt_not (pt_val (pe_callB call_isi (by rfl) T.isinstance (by decide +kernel) (pa_cons (pv 8) (pa_cons (pe_bltn (v := .ty "bool") (u := .type "bool") rfl T.bool (by decide +kernel) rfl) pa_nil)))))))) (pss_one (ps_ret pe_bl)) pss_nil)
    (pss_one (ps_ret (pe_cmpR op_eq (pv 8) (pe_cmpR op_ge (pe_callB call_lenL (by rfl) T.len (by decide +kernel) (pa_cons (pv 4) pa_nil)) (pv 3) (nomark _)) (nomark _)))))))))))), ?_⟩
  -- due
  walk_at "rd"
  refine w_ca CC (by decide) ?_
  walk_at "rd"
  refine ⟨a, ns, c, s, rfl, hS, hz, fun d H1 hd s1 e1 => ?_⟩
  rw [cnt_rec] at e1
  -- handed
  walk_at "rd"
  refine w_listL (by walk_at "sq") fun h hh => ?_
  have s2 : Same H (upd H1 h (.lst (ns.map V.int))) := same_upd s1 hh
  have e2 : upd H1 h (.lst (ns.map V.int)) d = some (.lst ((recF c s ns).map V.int)) := by walk_at "hp"
  have eh : upd H1 h (.lst (ns.map V.int)) h = some (.lst (ns.map V.int)) := upd_same
  generalize upd H1 h (.lst (ns.map V.int)) = H2 at s2 e2 eh
  -- found
  walk_at "rd"
  refine w_ca CR (by decide) ?_
  walk_at "rd"
  refine ⟨h, ns, c, s, rfl, SqL.of eh, hz, fun p H3 hp s3 e3 => ?_⟩
  have s03 : Same H H3 := s2.trans s3
  have e23 := s3 _ _ e2
  have eh3 := s3 _ _ eh
  have npd : d ≠ p := ne_of_none e2 hp
  have nph : h ≠ p := ne_of_none eh hp
  walk_at "rd"
  refine w_isi (TyX.base (TyOf.lst e3)) kit_ll ?_
  walk_at "rd"
  walk_at "if"
  · rename_i k; cases k
  rename_i k; clear k
  walk_at "rd"
  walk_at "if"
  · rename_i k; exact absurd rfl k
  rename_i k; clear k
  walk_at "rd"
  have hl := rec_le c s ns hz
  refine w_forR (fun i σ H' => ∃ v, σ = [some (.ref a), some (.int c), some (.int s), some (.int m), some (.ref d), some (.ref h), some (.ref p), v, none] ∧ H' = H3) (by rw [List.length_map]; omega) (by rw [List.length_map]; omega) ⟨none, rfl, rfl⟩ (fun i σ H' hi pv => ?_) (fun σ H' pv => ?_)
  · obtain ⟨v, rfl, rfl⟩ := pv
    have hi' : i < (recF c s ns).length := by simpa using hi
    have ez : ∃ z, ((recF c s ns).map V.int)[i]? = some (.int z) := ⟨(recF c s ns)[i], by rw [List.getElem?_map, List.getElem?_eq_getElem hi']; rfl⟩
    obtain ⟨z, ez⟩ := ez
    have ei : (0 : Int) + (i : Int) = ((i : Nat) : Int) := by omega
    walk_at "rd"
    refine w_ixL (SqL.of e3) (at_nat ei ez) ?_
    walk_at "rd"
    refine w_isi (TyX.base (TyOf.int z)) kit_ii ?_
    walk_at "rd"
    walk_at "if"
    · rename_i k; cases k
    rename_i k; clear k
    walk_at "rd"
    refine w_ixL (SqL.of e3) (at_nat ei ez) ?_
    walk_at "rd"
    refine w_isi (TyX.base (TyOf.int z)) kit_ib ?_
    walk_at "rd"
    walk_at "if"
    · rename_i k; cases k
    rename_i k; clear k
    walk_at "rd"
    refine w_ixL (SqL.of e3) (at_nat ei ez) ?_
    walk_at "rd"
    refine w_ixL (SqL.of e23) (at_nat ei ez) ?_
    walk_at "rd"
    walk_at "if"
    · rename_i k; exact absurd rfl k
    walk_at "rd"
    exact ⟨_, rfl, rfl⟩
  · obtain ⟨v, rfl, rfl⟩ := pv
    walk_at "rd"
    refine w_ca CT (by decide) ?_
    walk_at "rd"
    have e4 : upd H' p (.lst ((recF c s ns).map V.int ++ [.int 7])) h = some (.lst (ns.map V.int)) := by walk_at "hp"
    have e5 : upd H' p (.lst ((recF c s ns).map V.int ++ [.int 7])) d = some (.lst ((recF c s ns).map V.int)) := by walk_at "hp"
    have s4 : Same H (upd H' p (.lst ((recF c s ns).map V.int ++ [.int 7]))) := same_mut s03 (s2.free hp)
    generalize upd H' p (.lst ((recF c s ns).map V.int ++ [.int 7])) = H4 at e4 e5 s4
    refine ⟨h, ns, c, s, m, rfl, SqL.of e4, hz, fun H5 s5 => ?_⟩
    have s05 := s4.trans s5
    have e6 := s5 _ _ e4
    have e7 := s5 _ _ e5
    walk_at "rd"
    walk_at "if"
    · rename_i k; exact absurd rfl k
    walk_at "rd"
    refine w_isi (TyX.base (TyOf.bl _)) kit_bb ?_
    walk_at "rd"
    walk_at "if"
    · rename_i k; cases k
    walk_at "rd"
    have e : (decide (V.bl (decide (((recF c s ns).length : Int) + 1 > m)) = V.bl (decide (m ≤ (((recF c s ns).map V.int).length : Int))))) = true := by
      refine decide_eq_true (congrArg V.bl ?_)
      rw [List.length_map]
      exact decide_eq_decide.mpr ⟨fun h => by omega, fun h => by omega⟩
    rw [e]
    exact q _ s05
end
end Mn

namespace Mn
open PySem L2
section
variable {P : Program} {w : World} {K : PySem.W.Frag} {mg : Str → Option Value} {base : Heap}
def spLaw (K : PySem.W.Frag) : Sp := fun vs H Q _ => ∃ (a : Addr) (ns : List Int), vs = [.ref a] ∧ SqL K H a (ns.map V.int) ∧ ns.length ≤ 63 ∧ ∀ H', Q (.bl true) H'
theorem ok_law {f : Addr} {fd : FuncData} (F : Fun K "law" "law" s_law f fd) (T : Bt mg) (CL : Cal P w K mg base CX0 "_law_cell_at" 1 ["_law_script", "_law_k"] [] (spCell K))
    (CA : Cal P w K mg base CX0 "_law_asked" 3 ["_law_falls", "_law_clock", "_law_span", "_law_most"] [] (spAsk K)) (CC : Cal P w K mg base CX0 "_law_counted" 1 ["_law_falls", "_law_clock", "_law_span"] [] (spCnt K)) :
    FnOk P w K mg base CX0 4 f fd ["_law_script"] (spLaw K) := by
  refine F.ok sc_law (fun vs H Q E h => ?_) (fun cdv A outer s H vs Q E hr h => ?_)
  · obtain ⟨a, ns, rfl, _⟩ := h
    rfl
  obtain ⟨a, ns, rfl, hS, hz, q⟩ := h
  refine ⟨_, (pss_cons (ps_set (i := 1) sc_law.nd rfl (Or.inl rfl) (pe_op op_mod (pe_ca hr rfl (pa_cons (pv 0) (pa_cons pe_int pa_nil))) pe_int))
    (pss_cons (ps_set (i := 2) sc_law.nd rfl (Or.inl rfl) (pe_op op_mod (pe_ca hr rfl (pa_cons (pv 0) (pa_cons pe_int pa_nil))) (pe_op op_add (pe_op op_pow pe_int pe_int) pe_int)))
    (pss_cons (ps_set (i := 3) sc_law.nd rfl (Or.inl rfl) (pe_op op_add pe_int (pe_op op_mod (pe_ca hr rfl (pa_cons (pv 0) (pa_cons pe_int pa_nil))) pe_int)))
    (C8.pss_cut (ps_if (pt_cmpR op_gt (pv 1) pe_int (nomark _)) (pss_one (ps_set (i := 3) sc_law.nd rfl (Or.inl rfl) (pe_op op_add pe_int (pe_op op_mod (pe_ca hr rfl (pa_cons (pv 0) (pa_cons pe_int pa_nil))) pe_int)))) pss_nil)
    (pss_cons (ps_set (i := 4) sc_law.nd rfl (Or.inl rfl) (pe_lst pa_nil))
    (pss_cons (ps_for PassesOwn.never rfl (pi_list (pe_slice sl_list (pv 0) (po_some pe_int) (po_some pe_int))) (pg_name (i := 5) sc_law.nd rfl (Or.inl rfl)) (pss_one (ps_if (pt_cmpR op_gt (pv 1) pe_int (nomark _)) (pss_one (ps_expr (pe_bm PySem.F.plainAttrs_list PySem.F.slot_list_append PySem.F.type_list_append mt_append (pv 4) (pa_cons (pe_callB (call_maxI rfl) (by rfl) T.max (by decide +kernel) (pa_cons pe_int (pa_cons (pe_op op_sub (pv 2) (pe_op op_mod (pv 5) pe_int)) pa_nil))) pa_nil)))) (pss_one (ps_expr (pe_bm PySem.F.plainAttrs_list PySem.F.slot_list_append PySem.F.type_list_append mt_append (pv 4) (pa_cons (pe_op op_mod (pv 5) (pe_op op_add (pv 2) pe_int)) pa_nil)))))))
    (C8.pss_cut (ps_if (pt_cmpR op_eq (pv 1) pe_int (nomark _)) (pss_one (ps_set (i := 4) sc_law.nd rfl (Or.inl rfl) (pe_callB cr_sorted (by rfl) T.sorted (by decide +kernel) (pa_cons (pv 4) pa_nil)))) pss_nil)
    (pss_cons (ps_set (i := 6) sc_law.nd rfl (Or.inl rfl) (pe_op op_mod (pe_ca hr rfl (pa_cons (pv 0) (pa_cons pe_int pa_nil))) pe_int))
    (C8.pss_cut (ps_if (pt_cmpR op_eq (pe_op op_mod (pe_op op_fdiv (pe_ca hr rfl (pa_cons (pv 0) (pa_cons pe_int pa_nil))) pe_int) pe_int) pe_int (nomark _)) (pss_one (ps_set (i := 6) sc_law.nd rfl (Or.inl rfl) (pe_callB (call_maxI rfl) (by rfl) T.max (by decide +kernel) (pa_cons pe_int (pa_cons (pe_op op_sub (pe_op op_add (pe_callB call_lenL (by rfl) T.len (by decide +kernel) (pa_cons (pe_ca hr rfl (pa_cons (pv 4) (pa_cons (pv 2) (pa_cons (pv 3) pa_nil)))) pa_nil)) (pe_op op_mod (pe_ca hr rfl (pa_cons (pv 0) (pa_cons pe_int pa_nil))) pe_int)) pe_int) pa_nil))))) pss_nil)
    (pss_cons (ps_if (pt_not (pt_val (pe_ca hr rfl (pa_cons (pv 4) (pa_cons (pv 2) (pa_cons (pv 3) (pa_cons (pv 6) pa_nil))))))) (pss_one (ps_ret pe_bl)) pss_nil)
    (pss_one (ps_ret (pe_ca hr rfl (pa_cons (pe_op op_cat (pv 4) (pe_lst (pa_cons (pv 2) pa_nil))) (pa_cons (pv 2) (pa_cons (pv 3) (pa_cons (pv 6) pa_nil))))))))))))))))), ?_⟩
  have hz2 : ns.length ≤ 1000 := by omega
  walk_at "rd"
  refine w_ca CL (by decide) ?_
  walk_at "rd"
  refine ⟨a, ns, 0, rfl, hS, by decide, hz2, ?_⟩
  walk_at "rd"
  refine w_ca CL (by decide) ?_
  walk_at "rd"
  refine ⟨a, ns, 1, rfl, hS, by decide, hz2, ?_⟩
  walk_at "rd"
  refine w_ca CL (by decide) ?_
  walk_at "rd"
  refine ⟨a, ns, 2, rfl, hS, by decide, hz2, ?_⟩
  walk_at "rd"
  have hc0 : 0 ≤ ns.getD (1 : Int).toNat 0 % ((10 : Int) ^ (9 : Int).toNat + 2) := Int.emod_nonneg _ (by decide)
  generalize ns.getD (1 : Int).toNat 0 % ((10 : Int) ^ (9 : Int).toNat + 2) = clock at hc0
  generalize ns.getD (0 : Int).toNat 0 % 3 = near
  refine w_cut (fun σ H' => ∃ sp : Int, σ = [some (.ref a), some (.int near), some (.int clock), some (.int sp), none, none, none] ∧ H' = H) ?_ (fun σ H' hm => ?_)
  · walk_at "rd"
    walk_at "if"
    all_goals walk_at "rd"
    · refine w_ca CL (by decide) ?_
      walk_at "rd"
      refine ⟨a, ns, 2, rfl, hS, by decide, hz2, ?_⟩
      walk_at "rd"
      exact ⟨_, rfl, rfl⟩
    · exact ⟨_, rfl, rfl⟩
  obtain ⟨sp, rfl, rfl⟩ := hm
  walk_at "rd"
  refine ⟨by walk_at "sz", fun r hr0 => ?_⟩
  have s1 : Same H' (upd H' r (.lst [])) := same_new hr0 _
  have e1 : upd H' r (.lst []) r = some (.lst (([] : List Int).map V.int)) := upd_same
  generalize upd H' r (.lst []) = H1 at s1 e1
  walk_at "rd"
  refine w_slL (by walk_at "sq") fun p hp => ?_
  have s2 : Same H' (upd H1 p (.lst (cutV (ns.map V.int) (some 4) (some 64)))) := same_upd s1 hp
  have e2 : upd H1 p (.lst (cutV (ns.map V.int) (some 4) (some 64))) r = some (.lst (([] : List Int).map V.int)) := by walk_at "hp"
  have e3 : upd H1 p (.lst (cutV (ns.map V.int) (some 4) (some 64))) p = some (.lst (cutV (ns.map V.int) (some 4) (some 64))) := upd_same
  obtain ⟨ms, hms, hml⟩ : ∃ ms : List Int, cutV (ns.map V.int) (some 4) (some 64) = ms.map V.int ∧ ms.length ≤ 60 := by
    refine ⟨(ns.drop (HT.sIx ns.length 0 (some 4))).take (HT.sIx ns.length ns.length (some 64) - HT.sIx ns.length 0 (some 4)), ?_, ?_⟩
    · unfold cutV
      rw [List.length_map, List.map_take, List.map_drop]
    · rw [List.length_take, List.length_drop]
      have h4 : HT.sIx ns.length 0 (some 4) = min 4 ns.length := rfl
      have h6 : HT.sIx ns.length ns.length (some 64) = min 64 ns.length := rfl
      rw [h4, h6]
      omega
  rw [hms] at s2 e2 e3 ⊢
  have npr : p ≠ r := (ne_of_none e1 hp).symm
  have hpn : H' p = none := s1.free hp
  generalize upd H1 p (.lst (ms.map V.int)) = H2 at s2 e2 e3
  refine w_forL (xs := ms.map V.int) (fun i σ H3 => ∃ (v : Option V) (fs : List Int), σ = [some (.ref a), some (.int near), some (.int clock), some (.int sp), some (.ref r), v, none] ∧ Same H' H3 ∧ H3 r = some (.lst (fs.map V.int)) ∧ H3 p = some (.lst (ms.map V.int)) ∧ fs.length ≤ i)
    (SqL.of e3) ⟨none, [], rfl, s2, e2, e3, Nat.le_refl _⟩ (fun i σ H3 _ pv => ?_) (fun i x σ H3 hx pv => ?_) (fun σ H3 pv => ?_)
  · obtain ⟨v, fs, rfl, s3, f1, f2, f3⟩ := pv
    exact SqL.of f2
  · obtain ⟨v, fs, rfl, s3, f1, f2, f3⟩ := pv
    obtain ⟨t, ht, rfl⟩ := map_at hx
    have hi : i < ms.length := (List.getElem?_eq_some_iff.mp ht).1
    walk_at "rd"
    walk_at "if"
    all_goals walk_at "rd"
    · exact ⟨_, fs ++ [max 0 (clock - t % 40)], rfl, same_mut s3 hr0, by rw [upd_same, List.map_append]; rfl, by rw [upd_ne npr]; exact f2, by rw [List.length_append]; show fs.length + 1 ≤ _; omega⟩
    · refine w_I (show 0 < clock + 1 by omega) ?_
      walk_at "rd"
      exact ⟨_, fs ++ [t % (clock + 1)], rfl, same_mut s3 hr0, by rw [upd_same, List.map_append]; rfl, by rw [upd_ne npr]; exact f2, by rw [List.length_append]; show fs.length + 1 ≤ _; omega⟩
  obtain ⟨v, fs, rfl, s3, f1, f2, f3⟩ := pv
  rw [List.length_map] at f3
  have hfl : fs.length ≤ 60 := by omega
  clear f2 f3 e1 e2 e3 s1 s2
  walk_at "rd"
  -- if near == 2: sorted
  refine w_cut (fun σ H4 => ∃ (v : Option V) (r : Addr) (fs : List Int), σ = [some (.ref a), some (.int near), some (.int clock), some (.int sp), some (.ref r), v, none] ∧ Same H' H4 ∧ H4 r = some (.lst (fs.map V.int)) ∧ fs.length ≤ 60) ?_ (fun σ H4 hm => ?_)
  · walk_at "rd"
    walk_at "if"
    all_goals walk_at "rd"
    · refine ⟨r, fs, rfl, SqL.of f1, by omega, fun fs' r' hperm _ hr' => ?_⟩
      walk_at "rd"
      exact ⟨_, r', fs', rfl, same_upd s3 hr', upd_same, by rw [hperm.length_eq]; exact hfl⟩
    · exact ⟨_, r, fs, rfl, s3, f1, hfl⟩
  clear s3 f1 hfl hr0 npr fs r v
  obtain ⟨v, r, fs, rfl, s4, f1, hfl⟩ := hm
  walk_at "rd"
  refine w_ca CL (by decide) ?_
  walk_at "rd"
  refine ⟨a, ns, 3, rfl, by walk_at "sq", by decide, hz2, ?_⟩
  walk_at "rd"
  refine w_cut (fun σ H5 => ∃ (m : Int), σ = [some (.ref a), some (.int near), some (.int clock), some (.int sp), some (.ref r), v, some (.int m)] ∧ Same H' H5 ∧ H5 r = some (.lst (fs.map V.int))) ?_ (fun σ H5 hm => ?_)
  · walk_at "rd"
    refine w_ca CL (by decide) ?_
    walk_at "rd"
    refine ⟨a, ns, 3, rfl, by walk_at "sq", by decide, hz2, ?_⟩
    walk_at "rd"
    walk_at "if"
    all_goals walk_at "rd"
    · refine w_ca CC (by decide) ?_
      walk_at "rd"
      refine ⟨r, fs, clock, sp, rfl, SqL.of f1, by omega, fun d H5 hd s5 e5 => ?_⟩
      have s05 := s4.trans s5
      walk_at "rd"
      refine w_ca CL (by decide) ?_
      walk_at "rd"
      refine ⟨a, ns, 3, rfl, by walk_at "sq", by decide, hz2, ?_⟩
      walk_at "rd"
      exact ⟨_, rfl, s05, s5 _ _ f1⟩
    · exact ⟨_, rfl, s4, f1⟩
  obtain ⟨m, rfl, s5, f2⟩ := hm
  walk_at "rd"
  refine w_ca CA (by decide) ?_
  walk_at "rd"
  refine ⟨r, fs, clock, sp, m, rfl, SqL.of f2, by omega, fun H6 s6 => ?_⟩
  have f3 := s6 _ _ f2
  walk_at "rd"
  walk_at "if"
  · rename_i k; cases k
  walk_at "rd"
  refine w_ca CA (by decide) ?_
  walk_at "rd"
  refine ⟨by walk_at "sz", fun g hg => ?_⟩
  have f4 : upd H6 g (.lst [V.int clock]) r = some (.lst (fs.map V.int)) := by walk_at "hp"
  refine w_cat f4 upd_same (by have h2 := sizeLine_eq; rw [List.length_map]; show fs.length + 1 ≤ _; omega) fun u hu => ?_
  walk_at "rd"
  have e : fs.map V.int ++ [V.int clock] = (fs ++ [clock]).map V.int := by rw [List.map_append]; rfl
  rw [e]
  refine ⟨u, fs ++ [clock], clock, sp, m, rfl, SqL.of upd_same, by rw [List.length_append]; show fs.length + 1 ≤ _; omega, fun H7 _ => q H7⟩
end
end Mn

namespace Mn
open PySem L2
theorem all_mk {l : PySem.W.OpenLaw} {w : World} {K : PySem.W.Frag} {h : Heap} {mg : Str → Option Value} {fa f0 f1 f2 f3 f4 f5 : Addr} (X : K.In h) (G : h.Ns mainGlobals mg) (hfa : mg "law" = some (.ref fa))
    {od0 an0 od1 an1 od2 an2 od3 an3 od4 an4 od5 an5 : Option Addr} {sl0 sl1 sl2 sl3 sl4 sl5 : Array (Option Value)} {oc0 kV0 dc0 pm0 cd0 ct0 oc1 kV1 dc1 pm1 cd1 ct1 oc2 kV2 dc2 pm2 cd2 ct2 oc3 kV3 dc3 pm3 cd3 ct3 oc4 kV4 dc4 pm4 cd4 ct4 oc5 kV5 dc5 pm5 cd5 ct5 : Value}
    (a0 : PySem.W.nsIn K mainGlobals "_law_cell_at" = some (some (.ref f0))) (l0 : K.lookup f0 = some ⟨oc0, od0, .func (PySem.W.fnOf "_law_cell_at" "_law_cell_at" (defArgs s_law_cell_at) (defBody s_law_cell_at) (defScope s_law_cell_at) .none kV0 dc0 pm0 an0 cd0 ct0), sl0⟩) (c0 : PySem.W.codeIn K cd0 "_law_cell_at" = true) (k0 : PySem.W.keepIn K (.ref f0) = true)
    (a1 : PySem.W.nsIn K mainGlobals "recent" = some (some (.ref f1))) (l1 : K.lookup f1 = some ⟨oc1, od1, .func (PySem.W.fnOf "recent" "recent" (defArgs s_recent) (defBody s_recent) (defScope s_recent) .none kV1 dc1 pm1 an1 cd1 ct1), sl1⟩) (c1 : PySem.W.codeIn K cd1 "recent" = true) (k1 : PySem.W.keepIn K (.ref f1) = true)
    (a2 : PySem.W.nsIn K mainGlobals "too_many" = some (some (.ref f2))) (l2 : K.lookup f2 = some ⟨oc2, od2, .func (PySem.W.fnOf "too_many" "too_many" (defArgs s_too_many) (defBody s_too_many) (defScope s_too_many) .none kV2 dc2 pm2 an2 cd2 ct2), sl2⟩) (c2 : PySem.W.codeIn K cd2 "too_many" = true) (k2 : PySem.W.keepIn K (.ref f2) = true)
    (a3 : PySem.W.nsIn K mainGlobals "_law_counted" = some (some (.ref f3))) (l3 : K.lookup f3 = some ⟨oc3, od3, .func (PySem.W.fnOf "_law_counted" "_law_counted" (defArgs s_law_counted) (defBody s_law_counted) (defScope s_law_counted) .none kV3 dc3 pm3 an3 cd3 ct3), sl3⟩) (c3 : PySem.W.codeIn K cd3 "_law_counted" = true) (k3 : PySem.W.keepIn K (.ref f3) = true)
    (a4 : PySem.W.nsIn K mainGlobals "_law_asked" = some (some (.ref f4))) (l4 : K.lookup f4 = some ⟨oc4, od4, .func (PySem.W.fnOf "_law_asked" "_law_asked" (defArgs s_law_asked) (defBody s_law_asked) (defScope s_law_asked) .none kV4 dc4 pm4 an4 cd4 ct4), sl4⟩) (c4 : PySem.W.codeIn K cd4 "_law_asked" = true) (k4 : PySem.W.keepIn K (.ref f4) = true)
    (a5 : PySem.W.nsIn K mainGlobals "law" = some (some (.ref f5))) (l5 : K.lookup f5 = some ⟨oc5, od5, .func (PySem.W.fnOf "law" "law" (defArgs s_law) (defBody s_law) (defScope s_law) .none kV5 dc5 pm5 an5 cd5 ct5), sl5⟩) (c5 : PySem.W.codeIn K cd5 "law" = true) (k5 : PySem.W.keepIn K (.ref f5) = true)
    (z_len : PySem.W.nsIn K mainGlobals "len" = some none)
    (z_int : PySem.W.nsIn K mainGlobals "int" = some none)
    (z_bool : PySem.W.nsIn K mainGlobals "bool" = some none)
    (z_list : PySem.W.nsIn K mainGlobals "list" = some none)
    (z_range : PySem.W.nsIn K mainGlobals "range" = some none)
    (z_max : PySem.W.nsIn K mainGlobals "max" = some none)
    (z_sorted : PySem.W.nsIn K mainGlobals "sorted" = some none)
    (z_isinstance : PySem.W.nsIn K mainGlobals "isinstance" = some none) :
    ∃ fd : FuncData, (∀ (s : Shared) (v : Value), BindsTo s fd ⟨[v], []⟩ [("_law_script", v)]) ∧ ∀ base : Heap, K.In base → base.Ns mainGlobals mg → FnOk l.prog w K mg base CX0 4 fa fd ["_law_script"] (spLaw K) := by
  have e := hfa.symm.trans (PySem.W.mg_of X G a5)
  cases e
  have T : Bt mg := ⟨PySem.W.mg_none_of X G z_len, PySem.W.mg_none_of X G z_int, PySem.W.mg_none_of X G z_bool, PySem.W.mg_none_of X G z_list, PySem.W.mg_none_of X G z_range, PySem.W.mg_none_of X G z_max, PySem.W.mg_none_of X G z_sorted, PySem.W.mg_none_of X G z_isinstance⟩
  have F_law_cell_at := fun_mk (st := s_law_cell_at) l0 c0 k0
  have b_law_cell_at := F_law_cell_at.binds (ps := ["_law_script", "_law_k"]) fun _ _ _ _ _ _ us hl => match us, hl with | [_, _], _ => rfl
  have F_recent := fun_mk (st := s_recent) l1 c1 k1
  have b_recent := F_recent.binds (ps := ["falls", "clock", "span"]) fun _ _ _ _ _ _ us hl => match us, hl with | [_, _, _], _ => rfl
  have F_too_many := fun_mk (st := s_too_many) l2 c2 k2
  have b_too_many := F_too_many.binds (ps := ["falls", "clock", "span", "most"]) fun _ _ _ _ _ _ us hl => match us, hl with | [_, _, _, _], _ => rfl
  have F_law_counted := fun_mk (st := s_law_counted) l3 c3 k3
  have b_law_counted := F_law_counted.binds (ps := ["_law_falls", "_law_clock", "_law_span"]) fun _ _ _ _ _ _ us hl => match us, hl with | [_, _, _], _ => rfl
  have F_law_asked := fun_mk (st := s_law_asked) l4 c4 k4
  have b_law_asked := F_law_asked.binds (ps := ["_law_falls", "_law_clock", "_law_span", "_law_most"]) fun _ _ _ _ _ _ us hl => match us, hl with | [_, _, _, _], _ => rfl
  have F_law := fun_mk (st := s_law) l5 c5 k5
  have b_law := F_law.binds (ps := ["_law_script"]) fun _ _ _ _ _ _ us hl => match us, hl with | [_], _ => rfl
  refine ⟨PySem.W.fnOf "law" "law" (defArgs s_law) (defBody s_law) (defScope s_law) .none kV5 dc5 pm5 an5 cd5 ct5, fun s v => .of_eq rfl, fun base _ _ => ?_⟩
  have C_law_cell_at : Cal l.prog w K mg base CX0 "_law_cell_at" 1 ["_law_script", "_law_k"] [] (spCell K) := ⟨⟨_, _, [], ok_cell F_law_cell_at T, PySem.W.mg_of X G a0, k0, b_law_cell_at, .nil⟩⟩
  have C_recent : Cal l.prog w K mg base CX0 "recent" 1 ["falls", "clock", "span"] [] (spRec K) := ⟨⟨_, _, [], ok_recent F_recent, PySem.W.mg_of X G a1, k1, b_recent, .nil⟩⟩
  have C_too_many : Cal l.prog w K mg base CX0 "too_many" 2 ["falls", "clock", "span", "most"] [] (spToo K) := ⟨⟨_, _, [], ok_too F_too_many T C_recent, PySem.W.mg_of X G a2, k2, b_too_many, .nil⟩⟩
  have C_law_counted : Cal l.prog w K mg base CX0 "_law_counted" 1 ["_law_falls", "_law_clock", "_law_span"] [] (spCnt K) := ⟨⟨_, _, [], ok_counted F_law_counted, PySem.W.mg_of X G a3, k3, b_law_counted, .nil⟩⟩
  have C_law_asked : Cal l.prog w K mg base CX0 "_law_asked" 3 ["_law_falls", "_law_clock", "_law_span", "_law_most"] [] (spAsk K) := ⟨⟨_, _, [], ok_asked F_law_asked T C_recent C_too_many C_law_counted, PySem.W.mg_of X G a4, k4, b_law_asked, .nil⟩⟩
  exact ok_law F_law T C_law_cell_at C_law_asked C_law_counted
theorem walk {l : PySem.W.OpenLaw} {q : Program} {loose : List Str} {XP : (Str → Option Value) → Heap → Prop} {YP : World → Heap → Prop} {d : DefRec} {K : Params → PySem.W.Frag} (hn : l.most = some 63) (hdf : d.params.defaults = [])
    (hY : ∀ (w : World) (h : Heap), YP w h → (K w.params).In h)
    (F : ∀ (w : World) (mg : Str → Option Value) (fa : Addr) (h : Heap), (K w.params).In h → h.Ns mainGlobals mg → mg d.name = some (.ref fa) →
      ∃ fd : FuncData, (∀ (s : Shared) (u : Value), BindsTo s fd ⟨[u], []⟩ [("_law_script", u)]) ∧ ∀ base : Heap, (K w.params).In base → base.Ns mainGlobals mg → FnOk l.prog w (K w.params) mg base CX0 4 fa fd ["_law_script"] (spLaw (K w.params))) :
    PySem.W.WalkO q loose XP YP l.row.toRowW d [] (fun f vs => PySem.call f vs) :=
  L2.walk_of (n := 63) (k := 4) (x := "_law_script") (CX := fun _ => CX0) (sp := fun w => spLaw (K w.params)) hn (by decide) hdf ⟨rfl, by decide, by decide⟩ hY F (fun _ _ a ns hl _ hS => ⟨a, ns, rfl, hS, hl, fun _ => rfl⟩) fun _ _ _ _ _ z => z
end Mn
open PySem PySem.W PyProof.Rows
set_option maxRecDepth 100000 in
set_option maxHeartbeats 0 in
theorem PySem.Challenge.cw_minders_k02_falls_in_a_span_holds : PySem.Challenge.rw_minders_k02_falls_in_a_span.Holds := by
  w_on; o_law; k_head; (case hw => w_witness2)
  k_fill
  refine Mn.walk (l := PySem.Challenge.rw_minders_k02_falls_in_a_span) rfl rfl (fun w h Y => PySem.W.kIn_of Y) ?F
  case F =>
    intro w mg fa h KX G hmg
    refine' Mn.all_mk KX G hmg ?a0 ?l0 ?c0 ?k0 ?a1 ?l1 ?c1 ?k1 ?a2 ?l2 ?c2 ?k2 ?a3 ?l3 ?c3 ?k3 ?a4 ?l4 ?c4 ?k4 ?a5 ?l5 ?c5 ?k5 ?z_len ?z_int ?z_bool ?z_list ?z_range ?z_max ?z_sorted ?z_isinstance
    (case a0 => k_is)
    (case l0 => k_is)
    (case c0 => k_is)
    (case k0 => k_is)
    (case a1 => k_is)
    (case l1 => k_is)
    (case c1 => k_is)
    (case k1 => k_is)
    (case a2 => k_is)
    (case l2 => k_is)
    (case c2 => k_is)
    (case k2 => k_is)
    (case a3 => k_is)
    (case l3 => k_is)
    (case c3 => k_is)
    (case k3 => k_is)
    (case a4 => k_is)
    (case l4 => k_is)
    (case c4 => k_is)
    (case k4 => k_is)
    (case a5 => k_is)
    (case l5 => k_is)
    (case c5 => k_is)
    (case k5 => k_is)
    (case z_len => k_is)
    (case z_int => k_is)
    (case z_bool => k_is)
    (case z_list => k_is)
    (case z_range => k_is)
    (case z_max => k_is)
    (case z_sorted => k_is)
    (case z_isinstance => k_is)
#print axioms PySem.Challenge.cw_minders_k02_falls_in_a_span_holds
