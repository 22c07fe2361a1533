import PyProof.Rows.All
import Wide.All
import OpenK.AllK
import Wide.FinOn
import HandS.ForMost
import HandS.ForExc
import HandS.Defaults
import HandS.Codes
import HandS.ClsMeth
import HandS.TupLe
import HandS.StrMore
import HandS.IsInst
import HandS.SuiteRaise
import HandS.HotCalls
import HandS.ExcIs
import HandS.CallSlots
import KE.RegKIsAll
import HandS.TryElse
import HandS.TryMany
import HandS.WideBits
import PySem.Challenge.RW_minders_k01_a_number_in_a_text

set_option Elab.async false
set_option linter.all false
set_option maxRecDepth 100000
set_option maxHeartbeats 4000000
/-! Mn: rules of my own over HandS: calls whose promise the reading picks. -/
namespace Mn
open PySem PySem.Spec PyProof.Rows L2

/-- a def of the module, by its name, its promise, its defaults -/
structure Cal (P : Program) (w : World) (K : PySem.W.Frag) (mg : Str → Option Value) (base : Heap) (CX : CXT) (x : Str) (k : Nat) (ps : List Str) (dvs : List V) (sp : Sp) : Prop where
  ex : ∃ (f : Addr) (fd : FuncData) (ds : List Value), FnOk P w K mg base CX k f fd ps sp ∧ mg x = some (.ref f) ∧ PySem.W.keepIn K (.ref f) = true ∧ Binds K fd ps ds ∧ Vals dvs ds
/-- a method of the class at C -/
structure Mth (P : Program) (w : World) (K : PySem.W.Frag) (mg : Str → Option Value) (base : Heap) (CX : CXT) (C : Addr) (m : Str) (k : Nat) (ps : List Str) (dvs : List V) (sp : Sp) : Prop where
  ex : ∃ (f : Addr) (fd : FuncData) (ds : List Value), FnOk P w K mg base CX k f fd ps sp ∧ Meth K C m f ∧ Binds K fd ps ds ∧ Vals dvs ds
/-- a class that is made by its name -/
structure Mak (P : Program) (w : World) (K : PySem.W.Frag) (mg : Str → Option Value) (base : Heap) (CX : CXT) (x : Str) (C : Addr) (k : Nat) (ps : List Str) (dvs : List V) (sp : Sp) : Prop where
  ex : ∃ (f : Addr) (fd : FuncData) (ds : List Value), FnOk P w K mg base CX k f fd ps sp ∧ mg x = some (.ref C) ∧ Mk K C f ∧ Binds K fd ps ds ∧ Vals dvs ds
/-- the context stands over these -/
structure Sx (X : Cx) (P : Program) (w : World) (K : PySem.W.Frag) (mg : Str → Option Value) (base : Heap) : Prop where
  p : X.prog = P
  w : X.w = w
  k : X.K = K
  m : X.mg = mg
  b : X.base = base
section
variable {X : Cx} {P : Program} {w : World} {K : PySem.W.Frag} {mg : Str → Option Value} {base : Heap} {CX : CXT} {k : Nat} {E : XK} {x m : Str} {p pos apos : Pos} {e o : Expr} {es : List Expr} {ta : TE} {t : TA}
def tCA (P : Program) (w : World) (K : PySem.W.Frag) (mg : Str → Option Value) (base : Heap) (CX : CXT) (x : Str) (k : Nat) (E : XK) (t : TA) : TE := fun σ H Q => ∃ j ps dvs sp, Cal P w K mg base CX x j ps dvs sp ∧ j ≤ k ∧ t σ H fun vs H1 => sp (vs ++ dvs) H1 Q E
/-- f(e, ..), nothing raised -/
theorem pe_ca (hX : Sx X P w K mg base) (hr : Room k X.A) (hg : Gl X x) (ha : PA X (e :: es) t) (hdb : (x == ("__debug__" : Str)) = false := by decide) (he : starEach (e :: es) X.env = (false, eval e X.env) :: starEach es X.env := by rfl) (hpl : (backTo pos (starEach es X.env)).any (·.1) = false := by rfl) :
    PE X (.Call (.Name x p) (e :: es) [] pos) (tCA P w K mg base CX0 x k E0 t) := by
  obtain ⟨rfl, rfl, rfl, rfl, rfl⟩ := hX
  refine ⟨fun pins s σ H Q I h => ?_⟩
  obtain ⟨j, ps, dvs, sp, C, hj, h⟩ := h
  obtain ⟨f, fd, ds, F, hm, hk, hb, hd⟩ := C.ex
  exact (pe_call F (hr.mono hj) hg hm hk hb hd pass0 ha hdb he hpl).run pins s σ H Q I h
/-- f(), nothing raised -/
theorem pe_ca0 (hX : Sx X P w K mg base) (hr : Room k X.A) (hg : Gl X x) (hdb : (x == ("__debug__" : Str)) = false := by decide) : PE X (.Call (.Name x p) [] [] pos) (tCA P w K mg base CX0 x k E0 tNil) := by
  obtain ⟨rfl, rfl, rfl, rfl, rfl⟩ := hX
  refine ⟨fun pins s σ H Q I h => ?_⟩
  obtain ⟨j, ps, dvs, sp, C, hj, h⟩ := h
  obtain ⟨f, fd, ds, F, hm, hk, hb, hd⟩ := C.ex
  exact (pe_call0 F (hr.mono hj) hg hm hk hb hd pass0 hdb).run pins s σ H Q I h
def tMkA (P : Program) (w : World) (K : PySem.W.Frag) (mg : Str → Option Value) (base : Heap) (CX : CXT) (x : Str) (k : Nat) (E : XK) (t : TA) : TE := fun σ H Q => ∃ C j ps dvs sp, Mak P w K mg base CX x C j ps dvs sp ∧ j + 1 ≤ k ∧ tMake C sp dvs E t σ H Q
theorem pe_mka (hX : Sx X P w K mg base) (hr : Room k X.A) (hg : Gl X x) (ha : PA X (e :: es) t) (hdb : (x == ("__debug__" : Str)) = false := by decide) (he : starEach (e :: es) X.env = (false, eval e X.env) :: starEach es X.env := by rfl) (hpl : (backTo pos (starEach es X.env)).any (·.1) = false := by rfl) :
    PE X (.Call (.Name x p) (e :: es) [] pos) (tMkA P w K mg base CX0 x k E0 t) := by
  obtain ⟨rfl, rfl, rfl, rfl, rfl⟩ := hX
  refine ⟨fun pins s σ H Q I h => ?_⟩
  obtain ⟨C, j, ps, dvs, sp, M, hj, h⟩ := h
  obtain ⟨f, fd, ds, F, hm, hk, hb, hd⟩ := M.ex
  exact (pe_make hk F (hr.mono hj) hg hm hb hd pass0 ha hdb he hpl).run pins s σ H Q I h
theorem pe_mka0 (hX : Sx X P w K mg base) (hr : Room k X.A) (hg : Gl X x) (hdb : (x == ("__debug__" : Str)) = false := by decide) : PE X (.Call (.Name x p) [] [] pos) (tMkA P w K mg base CX0 x k E0 tNil) := by
  obtain ⟨rfl, rfl, rfl, rfl, rfl⟩ := hX
  refine ⟨fun pins s σ H Q I h => ?_⟩
  obtain ⟨C, j, ps, dvs, sp, M, hj, h⟩ := h
  obtain ⟨f, fd, ds, F, hm, hk, hb, hd⟩ := M.ex
  exact (pe_make0 hk F (hr.mono hj) hg hm hb hd pass0 hdb).run pins s σ H Q I h
def tMA (P : Program) (w : World) (K : PySem.W.Frag) (mg : Str → Option Value) (base : Heap) (CX : CXT) (m : Str) (k : Nat) (E : XK) (ta : TE) (t : TA) : TE := fun σ H Q => ta σ H fun xv H1 => ∃ a C dx fs j ps dvs sp, xv = .ref a ∧ H1 a = some (.ins C dx fs) ∧ Cls K C ∧ fs.lookup m = none ∧ Mth P w K mg base CX C m j ps dvs sp ∧ j ≤ k ∧
  t σ H1 fun vs H2 => sp (xv :: (vs ++ dvs)) H2 Q E
/-- o.m(e, ..), o of any own class -/
theorem pe_maX {pl : Sem Bool} (hX : Sx X P w K mg base) (hr : Room k X.A) (hx : Passes CX X E) (he : PE X o ta) (ha : PA X (e :: es) t)
    (hst : starEach (e :: es) X.env = (false, eval e X.env) :: starEach es X.env := by rfl) (hpl : (backTo pos (starEach es X.env)).any (·.1) = false := by rfl)
    (ht : eval (.Call (.Attribute o m apos) (e :: es) [] pos) X.env = (do
      let ov ← eval o X.env
      standAt apos.atName
      let (f, first) ← holding [ov] (getMethod ov m pl)
      callWith pos f first (backTo pos (starEach (e :: es) X.env)) (backToKw pos (keywordEach [] X.env))) := by rfl) :
    PE X (.Call (.Attribute o m apos) (e :: es) [] pos) (tMA P w K mg base CX m k E ta t) := by
  obtain ⟨rfl, rfl, rfl, rfl, rfl⟩ := hX
  refine ⟨fun pins s σ H Q I h => ?_⟩
  refine PySem.W.methodCall_KW (pl := pl) (thn (he.run pins s σ H _ I h) fun u s1 ⟨xv, H1, I1, rx, a, C, dx, fs, j, ps, dvs, sp, ex, ea, c, l, M, hj, q⟩ => ?_) ht
  subst ex
  obtain rfl : u = Value.ref a := rx
  obtain ⟨f, fd, ds, F, hm, hb, hd⟩ := M.ex
  refine getmeth_ok I1 ea c hm l ?_
  refine PySem.W.callWith_K (first := [.ref a]) (h₀ := X.base) I.ok.mod.kin hm.kp (thn (ha.run pos pins s1 σ H1 _ I1 q) fun us s2 ⟨vs, H2, I2, r, q2⟩ => ⟨I2.kIn, ?_⟩) hst hpl
  exact run_fn (us := .ref a :: us) (vs := .ref a :: vs) F (hr.mono hj) hb hd hx I2 (.cons rfl r) q2
theorem pe_maX0 {pl : Sem Bool} (hX : Sx X P w K mg base) (hr : Room k X.A) (hx : Passes CX X E) (he : PE X o ta)
    (ht : eval (.Call (.Attribute o m apos) [] [] pos) X.env = (do
      let ov ← eval o X.env
      standAt apos.atName
      let (f, first) ← holding [ov] (getMethod ov m pl)
      callWith pos f first (backTo pos (starEach [] X.env)) (backToKw pos (keywordEach [] X.env))) := by rfl) :
    PE X (.Call (.Attribute o m apos) [] [] pos) (tMA P w K mg base CX m k E ta tNil) := by
  obtain ⟨rfl, rfl, rfl, rfl, rfl⟩ := hX
  refine ⟨fun pins s σ H Q I h => ?_⟩
  refine PySem.W.methodCall_KW (pl := pl) (thn (he.run pins s σ H _ I h) fun u s1 ⟨xv, H1, I1, rx, a, C, dx, fs, j, ps, dvs, sp, ex, ea, c, l, M, hj, q⟩ => ?_) ht
  subst ex
  obtain rfl : u = Value.ref a := rx
  obtain ⟨f, fd, ds, F, hm, hb, hd⟩ := M.ex
  refine getmeth_ok I1 ea c hm l ?_
  exact PySem.W.callWith_K0 (first := [.ref a]) I1.kIn hm.kp (run_fn (us := [.ref a]) (vs := [.ref a]) F (hr.mono hj) hb hd hx I1 (.cons rfl .nil) q)
theorem pe_ma {pl : Sem Bool} (hX : Sx X P w K mg base) (hr : Room k X.A) (he : PE X o ta) (ha : PA X (e :: es) t)
    (hst : starEach (e :: es) X.env = (false, eval e X.env) :: starEach es X.env := by rfl) (hpl : (backTo pos (starEach es X.env)).any (·.1) = false := by rfl)
    (ht : eval (.Call (.Attribute o m apos) (e :: es) [] pos) X.env = (do
      let ov ← eval o X.env
      standAt apos.atName
      let (f, first) ← holding [ov] (getMethod ov m pl)
      callWith pos f first (backTo pos (starEach (e :: es) X.env)) (backToKw pos (keywordEach [] X.env))) := by rfl) :
    PE X (.Call (.Attribute o m apos) (e :: es) [] pos) (tMA P w K mg base CX0 m k E0 ta t) := pe_maX (pl := pl) hX hr pass0 he ha hst hpl ht
theorem pe_ma0 {pl : Sem Bool} (hX : Sx X P w K mg base) (hr : Room k X.A) (he : PE X o ta)
    (ht : eval (.Call (.Attribute o m apos) [] [] pos) X.env = (do
      let ov ← eval o X.env
      standAt apos.atName
      let (f, first) ← holding [ov] (getMethod ov m pl)
      callWith pos f first (backTo pos (starEach [] X.env)) (backToKw pos (keywordEach [] X.env))) := by rfl) :
    PE X (.Call (.Attribute o m apos) [] [] pos) (tMA P w K mg base CX0 m k E0 ta tNil) := pe_maX0 (pl := pl) hX hr pass0 he ht
/-- a name of the module as a value -/
def tGv (mg : Str → Option Value) (x : Str) : TE := fun _ H Q => ∃ v u, mg x = some u ∧ RelV v u ∧ Q v H
theorem pe_gv (hm : X.mg = mg) (hg : Gl X x) (hd : (x == ("__debug__" : Str)) = false := by decide) : PE X (.Name x p) (tGv mg x) := by
  subst hm
  refine ⟨fun pins s σ H Q I h => ?_⟩
  obtain ⟨v, u, hm, r, q⟩ := h
  exact ld_glob I hg hm ⟨v, H, I, r, q⟩ hd
end
/-! ### == of a list with [] -/
def rEqE : R2 := fun x y H Q => ∃ a b xs, x = .ref a ∧ y = .ref b ∧ H a = some (.lst xs) ∧ H b = some (.lst []) ∧ Q (.bl xs.isEmpty) H
def rNeE : R2 := fun x y H Q => ∃ a b xs, x = .ref a ∧ y = .ref b ∧ H a = some (.lst xs) ∧ H b = some (.lst []) ∧ Q (.bl (!xs.isEmpty)) H
/-! ### readings, step by step -/
section
variable {σ σ' : L2.St} {H H1 : Hp} {Q : VK} {D : Ends} {v x y z : V} {a b : Bool} {i j : Int} {n : Nat} {ta tb tc te : TE} {t u : TT} {s1 s2 : TS} {ar : TA} {r r' : R2} {g : TG} {Qb : Bool → Hp → Prop} {Qa : List V → Hp → Prop} {Qs : L2.St → Hp → Prop} {K : PySem.W.Frag}
theorem w_var (h : σ[n]? = some (some v)) (q : Q v H) : tVar n σ H Q := ⟨v, h, q⟩
theorem w_c (q : Q v H) : tC v σ H Q := q
theorem w_op (q : ta σ H fun x H1 => tb σ H1 fun y H2 => r x y H2 Q) : tOp r ta tb σ H Q := q
theorem w_un {r : V → Hp → VK → Prop} (q : ta σ H fun x H1 => r x H1 Q) : tUn r ta σ H Q := q
theorem w_I0 {f : Int → Int → V} (q : Q (f i j) H) : rI0 f (.int i) (.int j) H Q := ⟨_, _, rfl, rfl, q⟩
theorem w_I {C : Int → Int → Prop} {f : Int → Int → V} (c : C i j) (q : Q (f i j) H) : rI C f (.int i) (.int j) H Q := ⟨_, _, rfl, rfl, c, q⟩
theorem w_U {f : Int → V} (q : Q (f i) H) : rU f (.int i) H Q := ⟨_, rfl, q⟩
theorem w_eq (h : scal x y = true) (q : Q (.bl (decide (x = y))) H) : rEq x y H Q := ⟨h, q⟩
theorem w_ne (h : scal x y = true) (q : Q (.bl (!decide (x = y))) H) : rNe x y H Q := ⟨h, q⟩
theorem w_test (q : te σ H fun x H' => ∃ k, x = .bl k ∧ Qb k H') : tTest te σ H Qb := q
theorem w_B (q : te σ H fun x H' => ∃ k, x = .bl k ∧ Qb k H') : tB te σ H Qb := q
theorem w_bl {R : Bool → Prop} (q : R a) : ∃ k, V.bl a = .bl k ∧ R k := ⟨_, rfl, q⟩
theorem w_and (q : t σ H fun c H1 => if c = true then u σ H1 Qb else Qb false H1) : tAnd t u σ H Qb := q
theorem w_or (q : t σ H fun c H1 => if c = true then Qb true H1 else u σ H1 Qb) : tOr t u σ H Qb := q
theorem w_not (q : t σ H fun c H1 => Qb (!c) H1) : tNot t σ H Qb := q
theorem w_andV (q : ta σ H fun x H1 => ∃ c, x = .bl c ∧ if c = true then tb σ H1 Q else Q (.bl false) H1) : tAndV ta tb σ H Q := q
theorem w_orV (q : ta σ H fun x H1 => ∃ c, x = .bl c ∧ if c = true then Q (.bl true) H1 else tb σ H1 Q) : tOrV ta tb σ H Q := q
theorem w_notV (q : ta σ H fun x H1 => ∃ c, x = .bl c ∧ Q (.bl (!c)) H1) : tNotV ta σ H Q := q
theorem w_chain (q : ta σ H fun x H1 => tb σ H1 fun y H2 => r x y H2 fun z H3 => ∃ k, z = .bl k ∧ (if k = true then tc σ H3 fun z H4 => r' y z H4 Q else Q (.bl false) H3)) : tChain r r' ta tb tc σ H Q := q
theorem w_seq (q : s1 { D with nx := s2 D } σ H) : tSeq s1 s2 D σ H := q
theorem w_next (q : D.nx σ H) : tNext D σ H := q
theorem w_ret (q : te σ H D.rt) : tRet te D σ H := q
theorem w_retN (q : D.rt .non H) : tRetN D σ H := q
theorem w_if (q : t σ H fun b H1 => if b = true then s1 D σ H1 else s2 D σ H1) : tIfS t s1 s2 D σ H := q
theorem w_drop (q : te σ H fun _ H1 => D.nx σ H1) : tDrop te D σ H := q
theorem w_asg (q : te σ H fun x H1 => g x σ H1 D.nx) : tAsg te g D σ H := q
theorem w_name (q : Qs (σ.set n (some v)) H) : gName n v σ H Qs := q
theorem w_name2 (h : σ.set n (some v) = σ') (q : Qs σ' H) : gName n v σ H Qs := by subst h; exact q
theorem w_nil (q : Qa [] H) : tNil σ H Qa := q
theorem w_cons (q : te σ H fun x H1 => ar σ H1 fun xs H2 => Qa (x :: xs) H2) : tCons te ar σ H Qa := q
theorem w_cb {r : List V → Hp → VK → Prop} (q : ar σ H fun vs H1 => r vs H1 Q) : tCB r ar σ H Q := q
theorem w_cont (q : D.ct σ H) : tCont D σ H := q
end
end Mn

namespace Mn
open PySem PySem.Spec PyProof.Rows L2
/-! ### named readings of what has none -/
section
variable {X : Cx} {K : PySem.W.Frag} {σ : L2.St} {H H1 H2 : Hp} {Q : VK} {D : Ends} {v x y z : V} {a b p q : Addr} {i j : Int} {n : Nat} {xs ys zs : List V} {s s' : Str} {Qs : L2.St → Hp → Prop} {Qt : Hp → Prop} {f : Str} {fs : List (Str × V)} {C dx : Addr} {ta tv te to ti : TE} {ar : TA}
theorem same_new (h : H p = none) (o : HO) : Same H (upd H p o) := fun b u q => by rw [upd_ne (ne_of_none q h)]; exact q
theorem same_upd {o : HO} (s : Same H H1) (h : H1 p = none) : Same H (upd H1 p o) := s.trans (same_new h o)
/-- an object that was not there at the start may change -/
theorem same_mut {o : HO} (s : Same H H1) (h : H p = none) : Same H (upd H1 p o) := fun b u q => by rw [upd_ne (ne_of_none q h)]; exact s b u q
theorem sqT_same (e : Same H H1) (h : SqT K H a xs) : SqT K H1 a xs := by
  rcases h with (h | ⟨o, h⟩) | h
  · exact .inl (.inl (e _ _ h))
  · exact .inl (.inr ⟨o, e _ _ h⟩)
  · exact .inr h
theorem rd_same {u : HO} (e : Same H H1) (h : Rd H a u) : Rd H1 a u := by
  rcases h with h | ⟨o, h⟩
  · exact .inl (e _ _ h)
  · exact .inr ⟨o, e _ _ h⟩
def cLenL (K : PySem.W.Frag) : List V → Hp → VK → Prop := fun xs H Q => ∃ p ys, xs = [.ref p] ∧ SqL K H p ys ∧ Q (.int ys.length) H
theorem call_lenL : CallR X (.builtin "len") (cLenL X.K) := fun pins s σ H xs us Q I r h => by
  obtain ⟨p, ys, e, hq, q⟩ := h
  exact call_len_seq pins s σ H xs us Q I r ⟨p, ys, e, .inl hq, q⟩
theorem w_lenL (h : SqL K H p ys) (q : Q (.int ys.length) H) : cLenL K [.ref p] H Q := ⟨_, _, rfl, h, q⟩
def cLenT (K : PySem.W.Frag) : List V → Hp → VK → Prop := fun xs H Q => ∃ p ys, xs = [.ref p] ∧ SqT K H p ys ∧ Q (.int ys.length) H
theorem call_lenT : CallR X (.builtin "len") (cLenT X.K) := fun pins s σ H xs us Q I r h => by
  obtain ⟨p, ys, e, hq, q⟩ := h
  exact call_len_seq pins s σ H xs us Q I r ⟨p, ys, e, .inr hq, q⟩
theorem w_lenT (h : SqT K H p ys) (q : Q (.int ys.length) H) : cLenT K [.ref p] H Q := ⟨_, _, rfl, h, q⟩
def cLenS : List V → Hp → VK → Prop := fun xs H Q => ∃ z, xs = [.str z] ∧ z.length ≤ sizeLine ∧ Q (.int z.length) H
theorem call_lenS : CallR X (.builtin "len") cLenS := call_len_str
theorem w_lenS (h : s.length ≤ sizeLine) (q : Q (.int s.length) H) : cLenS [.str s] H Q := ⟨_, rfl, h, q⟩
def cStrI : List V → Hp → VK → Prop := fun xs H Q => ∃ i, xs = [.int i] ∧ i.natAbs.log2 < 1920 ∧ Q (.str (toString i)) H
theorem call_strI : CallR X (.type "str") cStrI := call_str_int
theorem w_strI (h : i.natAbs.log2 < 1920) (q : Q (.str (toString i)) H) : cStrI [.int i] H Q := ⟨_, rfl, h, q⟩
def cIntS : List V → Hp → VK → Prop := fun xs H Q => ∃ a n, xs = [.str a] ∧ PySem.intText? a = some n ∧ a.length ≤ 640 ∧ Q (.int n) H
theorem call_intS : CallR X (.type "int") cIntS := call_int_str
theorem w_intS (h : PySem.intText? s = some i) (l : s.length ≤ 640) (q : Q (.int i) H) : cIntS [.str s] H Q := ⟨_, _, rfl, h, l, q⟩
def cIntB : List V → Hp → VK → Prop := fun xs H Q => ∃ k, xs = [.bl k] ∧ Q (.int (if k then 1 else 0)) H
theorem call_intB : CallR X (.type "int") cIntB := fun pins s σ H xs us Q I r h => call_int1 pins s σ H xs us Q I r (.inr h)
theorem w_intB {k : Bool} (q : Q (.int (if k then 1 else 0)) H) : cIntB [.bl k] H Q := ⟨_, rfl, q⟩
def cListL (K : PySem.W.Frag) : List V → Hp → VK → Prop := fun xs H Q => ∃ p ys, xs = [.ref p] ∧ SqL K H p ys ∧ ∀ l, H l = none → Q (.ref l) (upd H l (.lst ys))
theorem call_listL : CallR X (.type "list") (cListL X.K) := fun pins s σ H xs us Q I r h => by
  obtain ⟨p, ys, e, hq, q⟩ := h
  exact call_list_of pins s σ H xs us Q I r ⟨p, ys, e, .inl hq, q⟩
theorem w_listL (h : SqL K H p ys) (q : ∀ l, H l = none → Q (.ref l) (upd H l (.lst ys))) : cListL K [.ref p] H Q := ⟨_, _, rfl, h, q⟩
def cDivmod : List V → Hp → VK → Prop := fun xs H Q => ∃ i j, xs = [.int i, .int j] ∧ CDiv i j ∧ ∀ p, H p = none → Q (.ref p) (upd H p (.tup [.int (i / j), .int (i % j)]))
theorem call_divmodI : CallR X (.builtin "divmod") cDivmod := call_divmod
theorem w_divmod (c : CDiv i j) (q : ∀ p, H p = none → Q (.ref p) (upd H p (.tup [.int (i / j), .int (i % j)]))) : cDivmod [.int i, .int j] H Q := ⟨_, _, rfl, c, q⟩
def cMax : List V → Hp → VK → Prop := fun xs H Q => ∃ i j, xs = [.int i, .int j] ∧ Q (.int (if j > i then j else i)) H
theorem call_maxI (hc : X.calm = true) : CallR X (.builtin "max") cMax := call_max2 hc
theorem w_max (q : Q (.int (max i j)) H) : cMax [.int i, .int j] H Q := ⟨_, _, rfl, by
  have e : (if j > i then j else i) = max i j := by rw [Int.max_def]; split <;> split <;> omega
  rw [e]; exact q⟩
def cMin : List V → Hp → VK → Prop := fun xs H Q => ∃ i j, xs = [.int i, .int j] ∧ Q (.int (if j < i then j else i)) H
theorem call_minI (hc : X.calm = true) : CallR X (.builtin "min") cMin := call_min2 hc
theorem w_min (q : Q (.int (min i j)) H) : cMin [.int i, .int j] H Q := ⟨_, _, rfl, by
  have e : (if j < i then j else i) = min i j := by rw [Int.min_def]; split <;> split <;> omega
  rw [e]; exact q⟩
def rAddS : R2 := fun x y H Q => ∃ i j, x = .str i ∧ y = .str j ∧ i.length + j.length ≤ sizeLine ∧ Q (.str (i ++ j)) H
theorem op_addS : OpR X (binaryOp .Add) rAddS := op_add_str
theorem w_addS (h : s.length + s'.length ≤ sizeLine) (q : Q (.str (s ++ s')) H) : rAddS (.str s) (.str s') H Q := ⟨_, _, rfl, rfl, h, q⟩
def rInS : R2 := fun x y H Q => ∃ i j, x = .str i ∧ y = .str j ∧ Q (.bl (!(Builtin.Str.occurrences j i 0 j.length 1).isEmpty)) H
theorem op_inS : OpR X (compareOp .In) rInS := op_in_str
theorem w_inS (q : Q (.bl (!(Builtin.Str.occurrences s' s 0 s'.length 1).isEmpty)) H) : rInS (.str s) (.str s') H Q := ⟨_, _, rfl, rfl, q⟩
def rNinS : R2 := fun x y H Q => ∃ i j, x = .str i ∧ y = .str j ∧ Q (.bl (!(!(Builtin.Str.occurrences j i 0 j.length 1).isEmpty))) H
theorem op_ninS : OpR X (compareOp .NotIn) rNinS := op_notIn_str
theorem w_ninS (q : Q (.bl (!(!(Builtin.Str.occurrences s' s 0 s'.length 1).isEmpty))) H) : rNinS (.str s) (.str s') H Q := ⟨_, _, rfl, rfl, q⟩
def rIsN : R2 := fun x y H Q => y = .non ∧ Q (.bl (decide (x = .non))) H
theorem op_isNn : OpR X (compareOp .Is) rIsN := op_isN
theorem w_isN (q : Q (.bl (decide (x = .non))) H) : rIsN x .non H Q := ⟨rfl, q⟩
def rNotN : R2 := fun x y H Q => y = .non ∧ Q (.bl (!decide (x = .non))) H
theorem op_notNn : OpR X (compareOp .IsNot) rNotN := op_notN
theorem w_notN (q : Q (.bl (!decide (x = .non))) H) : rNotN x .non H Q := ⟨rfl, q⟩
theorem w_ixL (h : SqL K H p xs) (e : atI xs i = some v) (q : Q v H) : rIxL K (.ref p) (.int i) H Q := ⟨_, _, _, _, rfl, rfl, h, e, q⟩
theorem w_ixT (h : SqT K H p xs) (e : atI xs i = some v) (q : Q v H) : rIxT K (.ref p) (.int i) H Q := ⟨_, _, _, _, rfl, rfl, h, e, q⟩
theorem w_ixS {c : Nat} (l : s.length ≤ sizeLine) (e : atI s.cps.toList i = some c) (q : Q (.str ⟨#[c]⟩) H) : rIxS (.str s) (.int i) H Q := ⟨_, _, _, rfl, rfl, l, e, q⟩
theorem w_app (h : H p = some (.lst xs)) (l : xs.length < sizeLine) (q : Q .non (upd H p (.lst (xs ++ [y])))) : rAppend (.ref p) [y] H Q := ⟨_, _, _, rfl, rfl, h, l, q⟩
theorem w_cat (h : H p = some (.lst xs)) (h' : H a = some (.lst ys)) (l : xs.length + ys.length ≤ sizeLine) (q : ∀ r, H r = none → Q (.ref r) (upd H r (.lst (xs ++ ys)))) : rCat (.ref p) (.ref a) H Q := ⟨_, _, _, _, rfl, rfl, h, h', l, q⟩
theorem w_bm {T : String} {r : V → List V → Hp → VK → Prop} (q : to σ H fun x H1 => tyV K T x H1 ∧ ar σ H1 fun xs H2 => r x xs H2 Q) : tBM K T r to ar σ H Q := q
theorem w_bm0 {T : String} {r : V → List V → Hp → VK → Prop} (q : to σ H fun x H1 => tyV K T x H1 ∧ r x [] H1 Q) : tBM0 K T r to σ H Q := q
theorem w_tyL {P : Prop} (h : SqL K H p xs) (q : P) : tyV K "list" (.ref p) H ∧ P := ⟨.inl ⟨rfl, _, h⟩, q⟩
theorem w_tyS {P : Prop} (q : P) : tyV K "str" (.str s) H ∧ P := ⟨rfl, q⟩
theorem w_tyI {P : Prop} (q : P) : tyV K "int" (.int i) H ∧ P := ⟨rfl, q⟩
theorem w_lst (q : ar σ H fun xs H1 => xs.length ≤ sizeLine ∧ ∀ p, H1 p = none → Q (.ref p) (upd H1 p (.lst xs))) : tLst ar σ H Q := q
theorem w_tup (q : ar σ H fun xs H1 => xs.length ≤ sizeLine ∧ ∀ p, H1 p = none → Q (.ref p) (upd H1 p (.tup xs))) : tTup ar σ H Q := q
theorem w_new {P : Addr → Prop} (l : xs.length ≤ sizeLine) (q : ∀ p, H p = none → P p) : xs.length ≤ sizeLine ∧ ∀ p, H p = none → P p := ⟨l, q⟩
theorem w_sl {r : V → Option Int → Option Int → Hp → VK → Prop} {tl th : TO} (q : te σ H fun x H1 => tl σ H1 fun l H2 => th σ H2 fun u H3 => r x l u H3 Q) : tSl r te tl th σ H Q := q
theorem w_part {Qo : Option Int → Hp → Prop} (q : te σ H fun x H1 => ∃ i, x = .int i ∧ Qo (some i) H1) : tPart te σ H Qo := q
theorem w_part1 {R : Int → Prop} (q : R i) : ∃ j, V.int i = .int j ∧ R j := ⟨_, rfl, q⟩
theorem w_nopart {Qo : Option Int → Hp → Prop} (q : Qo none H) : tNoPart σ H Qo := q
theorem w_slL {lo hi : Option Int} (h : SqL K H p xs) (q : ∀ r, H r = none → Q (.ref r) (upd H r (.lst (cutV xs lo hi)))) : rSlL K (.ref p) lo hi H Q := ⟨_, _, rfl, h, q⟩
theorem w_slS {lo hi : Option Int} (l : s.length ≤ sizeLine) (q : Q (.str (cutS s lo hi)) H) : rSlS (.str s) lo hi H Q := ⟨_, rfl, l, q⟩
theorem w_m1 {r : V → List V → Hp → VK → Prop} (q : to σ H fun x H1 => (∃ a, x = .str a) ∧ te σ H1 fun y H2 => r x [y] H2 Q) : tM1 r to te σ H Q := q
theorem w_m0 {r : V → List V → Hp → VK → Prop} (q : to σ H fun x H1 => (∃ a, x = .str a) ∧ r x [] H1 Q) : tM0 r to σ H Q := q
theorem w_isS {P : Prop} (q : P) : (∃ a, V.str s = .str a) ∧ P := ⟨⟨_, rfl⟩, q⟩
/-- e.f at an instance -/
theorem w_fld (q : ta σ H fun x H1 => ∃ a C dx fs v, x = .ref a ∧ H1 a = some (.ins C dx fs) ∧ Cls K C ∧ NoAttr K C f ∧ fs.lookup f = some v ∧ Q v H1) : tFld K ta f σ H Q := q
theorem w_fld1 (h : H a = some (.ins C dx fs)) (c : Cls K C) (n : NoAttr K C f) (l : fs.lookup f = some v) {R : V → Prop} (q : R v) : ∃ a' C dx fs v', V.ref a = .ref a' ∧ H a' = some (.ins C dx fs) ∧ Cls K C ∧ NoAttr K C f ∧ fs.lookup f = some v' ∧ R v' := ⟨_, _, _, _, _, rfl, h, c, n, l, q⟩
theorem w_sfld (q : tv σ H fun y H1 => ta σ H1 fun x H2 => ∃ a C dx fs, x = .ref a ∧ H2 a = some (.ins C dx fs) ∧ Cls K C ∧ NoAttr K C f ∧ fs.length < 1000 ∧ D.nx σ (upd H2 a (.ins C dx (putF f y fs)))) : sFld K ta tv f D σ H := q
theorem w_sfld1 (h : H a = some (.ins C dx fs)) (c : Cls K C) (n : NoAttr K C f) (l : fs.length < 1000) {R : Hp → Prop} (q : R (upd H a (.ins C dx (putF f y fs)))) : ∃ a' C dx fs, V.ref a = .ref a' ∧ H a' = some (.ins C dx fs) ∧ Cls K C ∧ NoAttr K C f ∧ fs.length < 1000 ∧ R (upd H a' (.ins C dx (putF f y fs))) := ⟨_, _, _, _, rfl, h, c, n, l, q⟩
/-- a def's call: its promise -/
theorem w_ca {P : Program} {w : World} {mg : Str → Option Value} {base : Heap} {CX : CXT} {k j : Nat} {ps : List Str} {dvs : List V} {sp : Sp} {E : XK} (c : Cal P w K mg base CX f j ps dvs sp) (hj : j ≤ k) (q : ar σ H fun vs H1 => sp (vs ++ dvs) H1 Q E) : tCA P w K mg base CX f k E ar σ H Q := ⟨_, _, _, _, c, hj, q⟩
/-- a known test -/
theorem w_ite {c A B : Prop} [Decidable c] (h1 : c → A) (h2 : ¬ c → B) : if decide c = true then A else B := by
  by_cases h : c
  · rw [if_pos (decide_eq_true h)]; exact h1 h
  · rw [if_neg (by simp [h])]; exact h2 h
theorem w_iteN {c A B : Prop} [Decidable c] (h1 : ¬ c → A) (h2 : c → B) : if (!decide c) = true then A else B := by
  by_cases h : c
  · rw [if_neg (by simp [h])]; exact h2 h
  · rw [if_pos (by simp [h])]; exact h1 h
theorem w_iteB {c : Bool} {A B : Prop} (h1 : c = true → A) (h2 : c = false → B) : if c = true then A else B := by
  cases c
  · rw [if_neg Bool.false_ne_true]; exact h2 rfl
  · rw [if_pos rfl]; exact h1 rfl
end
/-! ### loops and comprehensions -/
section
variable {K : PySem.W.Frag} {σ : L2.St} {H : Hp} {Q : VK} {D : Ends} {a : Addr} {xs : List V} {g : TG} {tb : TS} {tt : TT} {te tl : TE} {vs : List Nat} {ar : TA}
theorem w_for {wi : TI} (q : wi σ H fun J H1 => ∃ W : Nat → Nat → L2.St → Hp → Prop, (∃ m, W 0 m σ H1) ∧ ∀ i m σ H, W i m σ H →
  (J.stop i H ∧ D.nx σ H) ∨ (J.go i H ∧ ∃ N : L2.St → Hp → Prop, (∀ σ' H', N σ' H' → ∃ m', m' < m ∧ W (i + 1) m' σ' H') ∧ ∀ x H', J.yld i H x H' → g x σ H' fun σ2 H2 => tb { D with nx := N, ct := N, bk := D.nx } σ2 H2)) : tFor wi g tb D σ H := q
theorem w_iList {R : It → Hp → Prop} (q : tl σ H fun x H1 => ∃ a, x = .ref a ∧ (∃ xs, SqL K H1 a xs) ∧ R (Itl K a) H1) : iList K tl σ H R := q
theorem w_iRng {R : It → Hp → Prop} (q : ar σ H fun vs H1 => ∃ j : Int, vs = [.int j] ∧ -(2 ^ 62) ≤ j ∧ j < 2 ^ 62 ∧ R (Itr 0 j.toNat) H1) : iRng1 ar σ H R := q
theorem w_iRng2 {R : It → Hp → Prop} (q : ar σ H fun vs H1 => ∃ i j : Int, vs = [.int i, .int j] ∧ (-(2 ^ 62) ≤ i ∧ i < 2 ^ 62 ∧ -(2 ^ 62) ≤ j ∧ j < 2 ^ 62) ∧ R (Itr i (j - i).toNat) H1) : iRng2 ar σ H R := q
/-- the loop over the list at a: an invariant over turn, slots, heap -/
theorem w_forL (Pv : Nat → L2.St → Hp → Prop) (hS : SqL K H a xs) (h0 : Pv 0 σ H) (hl : ∀ i σ H, i ≤ xs.length → Pv i σ H → SqL K H a xs)
    (hs : ∀ i x σ H, xs[i]? = some x → Pv i σ H → g x σ H fun σ2 H2 => tb { D with nx := Pv (i + 1), ct := Pv (i + 1), bk := D.nx } σ2 H2) (hd : ∀ σ H, Pv xs.length σ H → D.nx σ H) :
    ∃ a', V.ref a = .ref a' ∧ (∃ xs, SqL K H a' xs) ∧ ∃ W : Nat → Nat → L2.St → Hp → Prop, (∃ m, W 0 m σ H) ∧ ∀ i m σ H, W i m σ H →
      ((Itl K a').stop i H ∧ D.nx σ H) ∨ ((Itl K a').go i H ∧ ∃ N : L2.St → Hp → Prop, (∀ σ' H', N σ' H' → ∃ m', m' < m ∧ W (i + 1) m' σ' H') ∧ ∀ x H', (Itl K a').yld i H x H' → g x σ H' fun σ2 H2 => tb { D with nx := N, ct := N, bk := D.nx } σ2 H2) :=
  ⟨a, rfl, ⟨_, hS⟩, for_list Pv h0 hl hs hd⟩
theorem w_forR {n : Int} (Pv : Nat → L2.St → Hp → Prop) (b1 : -(2 ^ 62) ≤ n) (b2 : n < 2 ^ 62) (h0 : Pv 0 σ H)
    (hs : ∀ i σ H, i < n.toNat → Pv i σ H → g (.int (0 + i)) σ H fun σ2 H2 => tb { D with nx := Pv (i + 1), ct := Pv (i + 1), bk := D.nx } σ2 H2) (hd : ∀ σ H, Pv n.toNat σ H → D.nx σ H) :
    ∃ j : Int, [V.int n] = [V.int j] ∧ -(2 ^ 62) ≤ j ∧ j < 2 ^ 62 ∧ ∃ W : Nat → Nat → L2.St → Hp → Prop, (∃ m, W 0 m σ H) ∧ ∀ i m σ H, W i m σ H →
      ((Itr 0 j.toNat).stop i H ∧ D.nx σ H) ∨ ((Itr 0 j.toNat).go i H ∧ ∃ N : L2.St → Hp → Prop, (∀ σ' H', N σ' H' → ∃ m', m' < m ∧ W (i + 1) m' σ' H') ∧ ∀ x H', (Itr 0 j.toNat).yld i H x H' → g x σ H' fun σ2 H2 => tb { D with nx := N, ct := N, bk := D.nx } σ2 H2) :=
  ⟨n, rfl, b1, b2, for_range Pv h0 hs hd⟩
theorem w_lc {wi : TI} (q : wi σ H fun J H1 => ∀ D, H1 D = none → ∃ W : Nat → Nat → Hp → Prop, (∃ m, W 0 m (upd H1 D (.lst []))) ∧ ∀ i m H, W i m H →
  (J.stop i H ∧ Q (.ref D) H) ∨ (J.go i H ∧ ∃ Nx : Hp → Prop, (∀ H', Nx H' → ∃ m', m' < m ∧ W (i + 1) m' H') ∧ ∀ x H', J.yld i H x H' → g x (wipe σ vs) H' fun σ2 H2 => wipe σ2 vs = wipe σ vs ∧ tt σ2 H2 fun b H3 =>
    if b = true then te σ2 H3 fun y H4 => ∃ acc, H4 D = some (.lst acc) ∧ acc.length < sizeLine ∧ Nx (upd H4 D (.lst (acc ++ [y]))) else Nx H3)) : tLc wi g tt te vs σ H Q := q
theorem w_yes {Qb : Bool → Hp → Prop} (q : Qb true H) : tYes σ H Qb := q
/-- a comprehension over the list at a, in general -/
theorem w_lcL {Rq : Addr → Hp → Prop} (Pv : Addr → Nat → Hp → Prop) (hS : SqL K H a xs) (h0 : ∀ C, H C = none → Pv C 0 (upd H C (.lst []))) (hl : ∀ C i H', H C = none → i ≤ xs.length → Pv C i H' → SqL K H' a xs)
    (hs : ∀ C i x H', H C = none → xs[i]? = some x → Pv C i H' → g x (wipe σ vs) H' fun σ2 H2 => wipe σ2 vs = wipe σ vs ∧ tt σ2 H2 fun b H3 =>
      if b = true then te σ2 H3 fun y H4 => ∃ acc, H4 C = some (.lst acc) ∧ acc.length < sizeLine ∧ Pv C (i + 1) (upd H4 C (.lst (acc ++ [y]))) else Pv C (i + 1) H3) (hd : ∀ C H', H C = none → Pv C xs.length H' → Rq C H') :
    ∃ a', V.ref a = .ref a' ∧ (∃ xs, SqL K H a' xs) ∧ ∀ C, H C = none → ∃ W : Nat → Nat → Hp → Prop, (∃ m, W 0 m (upd H C (.lst []))) ∧ ∀ i m H, W i m H →
      ((Itl K a').stop i H ∧ Rq C H) ∨ ((Itl K a').go i H ∧ ∃ Nx : Hp → Prop, (∀ H', Nx H' → ∃ m', m' < m ∧ W (i + 1) m' H') ∧ ∀ x H', (Itl K a').yld i H x H' → g x (wipe σ vs) H' fun σ2 H2 => wipe σ2 vs = wipe σ vs ∧ tt σ2 H2 fun b H3 =>
        if b = true then te σ2 H3 fun y H4 => ∃ acc, H4 C = some (.lst acc) ∧ acc.length < sizeLine ∧ Nx (upd H4 C (.lst (acc ++ [y]))) else Nx H3) :=
  ⟨a, rfl, ⟨_, hS⟩, fun C hC => lc_list (Pv C) (h0 C hC) (fun i H' hi p => hl C i H' hC hi p) (fun i x H' hx p => hs C i x H' hC hx p) fun H' p => hd C H' hC p⟩
theorem w_lcR {Rq : Addr → Hp → Prop} {n : Int} (Pv : Addr → Nat → Hp → Prop) (b1 : -(2 ^ 62) ≤ n) (b2 : n < 2 ^ 62) (h0 : ∀ C, H C = none → Pv C 0 (upd H C (.lst [])))
    (hs : ∀ C i H', H C = none → i < n.toNat → Pv C i H' → g (.int (0 + i)) (wipe σ vs) H' fun σ2 H2 => wipe σ2 vs = wipe σ vs ∧ tt σ2 H2 fun b H3 =>
      if b = true then te σ2 H3 fun y H4 => ∃ acc, H4 C = some (.lst acc) ∧ acc.length < sizeLine ∧ Pv C (i + 1) (upd H4 C (.lst (acc ++ [y]))) else Pv C (i + 1) H3) (hd : ∀ C H', H C = none → Pv C n.toNat H' → Rq C H') :
    ∃ j : Int, [V.int n] = [V.int j] ∧ -(2 ^ 62) ≤ j ∧ j < 2 ^ 62 ∧ ∀ C, H C = none → ∃ W : Nat → Nat → Hp → Prop, (∃ m, W 0 m (upd H C (.lst []))) ∧ ∀ i m H, W i m H →
      ((Itr 0 j.toNat).stop i H ∧ Rq C H) ∨ ((Itr 0 j.toNat).go i H ∧ ∃ Nx : Hp → Prop, (∀ H', Nx H' → ∃ m', m' < m ∧ W (i + 1) m' H') ∧ ∀ x H', (Itr 0 j.toNat).yld i H x H' → g x (wipe σ vs) H' fun σ2 H2 => wipe σ2 vs = wipe σ vs ∧ tt σ2 H2 fun b H3 =>
        if b = true then te σ2 H3 fun y H4 => ∃ acc, H4 C = some (.lst acc) ∧ acc.length < sizeLine ∧ Nx (upd H4 C (.lst (acc ++ [y]))) else Nx H3) :=
  ⟨n, rfl, b1, b2, fun C hC => lc_range (Pv C) (h0 C hC) (fun i H' hi p => hs C i H' hC hi p) fun H' p => hd C H' hC p⟩
/-- what stands behind i items, where each gives a value or none and nothing else changes -/
def LcF (H : Hp) (xs : List V) (f : V → Option V) (C : Addr) (i : Nat) (H' : Hp) : Prop := Same H H' ∧ H' C = some (.lst ((xs.take i).filterMap f))
theorem take_succ' {α : Type} {xs : List α} {i : Nat} {x : α} (h : xs[i]? = some x) : xs.take (i + 1) = xs.take i ++ [x] := by
  rw [List.take_add_one, h]; rfl
theorem lcF_0 {f : V → Option V} {C : Addr} (h : H C = none) : LcF H xs f C 0 (upd H C (.lst [])) := ⟨same_new h _, by rw [upd_same]; rfl⟩
theorem lcF_yes {f : V → Option V} {C : Addr} {i : Nat} {x y : V} {H4 : Hp} (p : LcF H xs f C i H4) (h : H C = none) (hx : xs[i]? = some x) (hf : f x = some y) (hz : xs.length ≤ 100000) :
    ∃ acc, H4 C = some (.lst acc) ∧ acc.length < sizeLine ∧ LcF H xs f C (i + 1) (upd H4 C (.lst (acc ++ [y]))) := by
  refine ⟨_, p.2, ?_, same_mut p.1 h, ?_⟩
  · have h1 := List.length_filterMap_le f (xs.take i)
    rw [List.length_take] at h1
    have h2 := sizeLine_eq
    omega
  · rw [upd_same, take_succ' hx, List.filterMap_append, List.filterMap_cons_some hf]; rfl
theorem lcF_no {f : V → Option V} {C : Addr} {i : Nat} {x : V} {H4 : Hp} (p : LcF H xs f C i H4) (hx : xs[i]? = some x) (hf : f x = none) : LcF H xs f C (i + 1) H4 := by
  refine ⟨p.1, ?_⟩
  rw [p.2, take_succ' hx, List.filterMap_append, List.filterMap_cons_none hf, List.filterMap_nil, List.append_nil]
end
/-! ### isinstance; == of lists of ints -/
section
variable {X : Cx} {K : PySem.W.Frag} {H : Hp} {Q : VK} {a b : Addr} {ns ms : List Int} {x : V}
theorem w_isi {n t : String} {r : Bool} (ty : TyX K H x (.type t)) (k : kitB t n = some r) (q : Q (.bl r) H) : rIsi K [x, .ty n] H Q := ⟨_, _, _, _, _, rfl, ClsV.ty n, ty, kit_ty k, q⟩
theorem dpAll_ints : ∀ ns : List Int, DpAll K H (ns.map V.int) (ns.map PyData.int)
  | [] => .nil
  | n :: r => .cons (.int n) (dpAll_ints r)
theorem eqvAll_ints : ∀ ns ms : List Int, PyData.eqvAll (ns.map PyData.int) (ms.map PyData.int) = decide (ns = ms)
  | [], [] => by simp [PyData.eqvAll]
  | [], _ :: _ => by simp [PyData.eqvAll]
  | _ :: _, [] => by simp [PyData.eqvAll]
  | n :: r, k :: q => by
    simp only [List.map_cons, PyData.eqvAll, PyData.eqv, eqvAll_ints r q]
    by_cases h : n = k <;> simp [h]
theorem eqv_ints : PyData.eqv (.list (ns.map PyData.int)) (.list (ms.map PyData.int)) = decide (ns = ms) := by
  rw [PyData.eqv]; exact eqvAll_ints ns ms
def rEqI (K : PySem.W.Frag) : R2 := fun x y H Q => ∃ (a b : Addr) (ns ms : List Int), x = .ref a ∧ y = .ref b ∧ SqL K H a (ns.map V.int) ∧ SqL K H b (ms.map V.int) ∧ Q (.bl (decide (ns = ms))) H
def rNeI (K : PySem.W.Frag) : R2 := fun x y H Q => ∃ (a b : Addr) (ns ms : List Int), x = .ref a ∧ y = .ref b ∧ SqL K H a (ns.map V.int) ∧ SqL K H b (ms.map V.int) ∧ Q (.bl (!decide (ns = ms))) H
theorem op_eqLI (hu : X.A.units + 64 < cLine) : OpR X (compareOp .Eq) (rEqI X.K) := fun pins s σ H x y v u Q I rx ry h => by
  obtain ⟨a, b, ns, ms, rfl, rfl, h1, h2, q⟩ := h
  exact op_eqD hu pins s σ H _ _ v u Q I rx ry ⟨_, _, .lst h1 (dpAll_ints ns), .lst h2 (dpAll_ints ms), PySem.W.shaped_ints ns, PySem.W.shaped_ints ms, by rw [eqv_ints]; exact q⟩
theorem op_neLI (hu : X.A.units + 64 < cLine) : OpR X (compareOp .NotEq) (rNeI X.K) := fun pins s σ H x y v u Q I rx ry h => by
  obtain ⟨a, b, ns, ms, rfl, rfl, h1, h2, q⟩ := h
  exact op_neD hu pins s σ H _ _ v u Q I rx ry ⟨_, _, .lst h1 (dpAll_ints ns), .lst h2 (dpAll_ints ms), PySem.W.shaped_ints ns, PySem.W.shaped_ints ms, by rw [eqv_ints]; exact q⟩
theorem w_eqLI (h1 : SqL K H a (ns.map V.int)) (h2 : SqL K H b (ms.map V.int)) (q : Q (.bl (decide (ns = ms))) H) : rEqI K (.ref a) (.ref b) H Q := ⟨_, _, _, _, rfl, rfl, h1, h2, q⟩
theorem w_neLI (h1 : SqL K H a (ns.map V.int)) (h2 : SqL K H b (ms.map V.int)) (q : Q (.bl (!decide (ns = ms))) H) : rNeI K (.ref a) (.ref b) H Q := ⟨_, _, _, _, rfl, rfl, h1, h2, q⟩
theorem w_wip {σ σ' : L2.St} {vs : List Nat} {R : Prop} (h : wipe σ vs = wipe σ' vs) (q : R) : wipe σ vs = wipe σ' vs ∧ R := ⟨h, q⟩
theorem map_at {ns : List Int} {i : Nat} {x : V} (h : (ns.map V.int)[i]? = some x) : ∃ n, ns[i]? = some n ∧ x = .int n := by
  rw [List.getElem?_map] at h
  obtain ⟨t, ht, e⟩ := Option.map_eq_some_iff.mp h
  exact ⟨t, ht, e.symm⟩
theorem at_ints {ns : List Int} {k : Int} (h0 : 0 ≤ k) (h : k < (ns.length : Int)) : atI (ns.map V.int) k = some (V.int (ns.getD k.toNat 0)) := by
  refine at_of (j := k.toNat) (by omega) ?_
  rw [List.getElem?_map, List.getElem?_eq_getElem (by omega)]
  simp [List.getD, List.getElem?_eq_getElem (show k.toNat < ns.length by omega)]
theorem at_nat {xs : List V} {k : Int} {i : Nat} {v : V} (e : k = (i : Int)) (h : xs[i]? = some v) : atI xs k = some v := at_of e h
end
theorem kit_ll : kitB "list" "list" = some true := by decide +kernel
theorem kit_ii : kitB "int" "int" = some true := by decide +kernel
theorem kit_ib : kitB "int" "bool" = some false := by decide +kernel
theorem kit_bb : kitB "bool" "bool" = some true := by decide +kernel
theorem kit_tt : kitB "tuple" "tuple" = some true := by decide +kernel
theorem kit_ss : kitB "str" "str" = some true := by decide +kernel
theorem w_cut {t u : TS} {D : Ends} {σ : L2.St} {H : Hp} (Mid : L2.St → Hp → Prop) (h1 : t { D with nx := Mid } σ H) (h2 : ∀ σ' H', Mid σ' H' → u D σ' H') : C8.tCut t u D σ H := ⟨Mid, h1, h2⟩
section
variable {n : L2.St → Hp → Prop} {r : VK} {b c : L2.St → Hp → Prop} {σ : L2.St} {H : Hp} {v : V}
theorem w_nx (q : n σ H) : (Ends.mk n r b c).nx σ H := q
theorem w_rt (q : r v H) : (Ends.mk n r b c).rt v H := q
theorem w_bk (q : b σ H) : (Ends.mk n r b c).bk σ H := q
theorem w_ct (q : c σ H) : (Ends.mk n r b c).ct σ H := q
end
end Mn

namespace Mn
open PySem PySem.Spec PyProof.Rows L2
theorem ltb {n : Nat} (h : Nat.blt n 1000 = true) : n < 1000 := Nat.le_of_ble_eq_true h
/-! ### classes: their attributes -/
structure ClsF (K : PySem.W.Frag) (C : Addr) (fs : List Str) : Prop where
  cl : Cls K C
  no : ∀ f ∈ fs, NoAttr K C f
/-- Class.m(self, ..) -/
structure CMt (P : Program) (w : World) (K : PySem.W.Frag) (mg : Str → Option Value) (base : Heap) (CX : CXT) (x m : Str) (k : Nat) (ps : List Str) (dvs : List V) (sp : Sp) : Prop where
  ex : ∃ (C f : Addr) (mc : Value) (fd : FuncData) (ds : List Value), mg x = some (.ref C) ∧ ClX.CRead K C mc ∧ PySem.W.findCls K (.ref C) mc m = some (.val (.ref f)) ∧ FnOk P w K mg base CX k f fd ps sp ∧ PySem.W.keepIn K (.ref f) = true ∧ Binds K fd ps ds ∧ Vals dvs ds
section
variable {X : Cx} {P : Program} {w : World} {K : PySem.W.Frag} {mg : Str → Option Value} {base : Heap} {CX : CXT} {k : Nat} {E : XK} {x m : Str} {p pos apos : Pos} {e o : Expr} {es : List Expr} {ta : TE} {t : TA}
def tCMA (P : Program) (w : World) (K : PySem.W.Frag) (mg : Str → Option Value) (base : Heap) (CX : CXT) (x m : Str) (k : Nat) (E : XK) (t : TA) : TE := fun σ H Q => ∃ j ps dvs sp, CMt P w K mg base CX x m j ps dvs sp ∧ j ≤ k ∧ t σ H fun vs H1 => sp (vs ++ dvs) H1 Q E
theorem pe_cma {pl : Sem Bool} (hX : Sx X P w K mg base) (hr : Room k X.A) (hg : Gl X x) (ha : PA X (e :: es) t) (hdb : (x == ("__debug__" : Str)) = false := by decide)
    (hst : starEach (e :: es) X.env = (false, eval e X.env) :: starEach es X.env := by rfl) (hpl : (backTo pos (starEach es X.env)).any (·.1) = false := by rfl)
    (ht : eval (.Call (.Attribute (.Name x p) m apos) (e :: es) [] pos) X.env = (do
      let ov ← eval (.Name x p) X.env
      standAt apos.atName
      let (f, first) ← holding [ov] (getMethod ov m pl)
      callWith pos f first (backTo pos (starEach (e :: es) X.env)) (backToKw pos (keywordEach [] X.env))) := by rfl) :
    PE X (.Call (.Attribute (.Name x p) m apos) (e :: es) [] pos) (tCMA P w K mg base CX0 x m k E0 t) := by
  obtain ⟨rfl, rfl, rfl, rfl, rfl⟩ := hX
  refine ⟨fun pins s σ H Q I h => ?_⟩
  obtain ⟨j, ps, dvs, sp, M, hj, h⟩ := h
  obtain ⟨C, f, mc, fd, ds, hm, rd, fc, F, hk, hb, hd⟩ := M.ex
  refine PySem.W.methodCall_KW (pl := pl) (ld_glob I hg hm ?_ hdb) ht
  refine PySem.W.method_cls I.kIn rd.ga (ClX.getcval_ok (v := V.ref f) (u := Value.ref f) I rd ⟨fc, rfl⟩ fun s1 I1 => ?_)
  refine PySem.W.callWith_K (first := []) (h₀ := X.base) I.ok.mod.kin hk (thn (ha.run pos pins s1 σ H _ I1 h) fun us s2 ⟨vs, H2, I2, r, q2⟩ => ⟨I2.kIn, ?_⟩) hst hpl
  exact run_fn F (hr.mono hj) hb hd pass0 I2 r q2
theorem w_cma {σ : L2.St} {H : Hp} {Q : VK} {j : Nat} {ps : List Str} {dvs : List V} {sp : Sp} (c : CMt P w K mg base CX x m j ps dvs sp) (hj : j ≤ k) (q : t σ H fun vs H1 => sp (vs ++ dvs) H1 Q E) : tCMA P w K mg base CX x m k E t σ H Q := ⟨_, _, _, _, c, hj, q⟩
theorem w_mka {σ : L2.St} {H : Hp} {Q : VK} {j : Nat} {ps : List Str} {dvs : List V} {sp : Sp} {C : Addr} (c : Mak P w K mg base CX x C j ps dvs sp) (hj : j + 1 ≤ k) (q : t σ H fun vs H1 => ∀ x dx, H1 x = none → H1 dx = none → dx ≠ x →
  sp (.ref x :: (vs ++ dvs)) (upd (upd H1 dx (.own x)) x (.ins C dx [])) (fun v H2 => v = .non ∧ Q (.ref x) H2) E) : tMkA P w K mg base CX x k E t σ H Q := ⟨_, _, _, _, _, c, hj, q⟩
theorem w_ma {σ : L2.St} {H : Hp} {Q : VK} (q : ta σ H fun xv H1 => ∃ a C dx fs j ps dvs sp, xv = .ref a ∧ H1 a = some (.ins C dx fs) ∧ Cls K C ∧ fs.lookup m = none ∧ Mth P w K mg base CX C m j ps dvs sp ∧ j ≤ k ∧
  t σ H1 fun vs H2 => sp (xv :: (vs ++ dvs)) H2 Q E) : tMA P w K mg base CX m k E ta t σ H Q := q
theorem w_ma1 {H : Hp} {a C dx : Addr} {fs : List (Str × V)} {j : Nat} {ps : List Str} {dvs : List V} {sp : Sp} {R : List V → Sp → Prop} (h : H a = some (.ins C dx fs)) (c : Cls K C) (l : fs.lookup m = none)
    (M : Mth P w K mg base CX C m j ps dvs sp) (hj : j ≤ k) (q : R dvs sp) : ∃ a' C dx fs j ps dvs sp, V.ref a = .ref a' ∧ H a' = some (.ins C dx fs) ∧ Cls K C ∧ fs.lookup m = none ∧ Mth P w K mg base CX C m j ps dvs sp ∧ j ≤ k ∧ R dvs sp :=
  ⟨_, _, _, _, _, _, _, _, rfl, h, c, l, M, hj, q⟩
end
/-! ### lists of texts, is of bools, += -/
section
variable {X : Cx} {K : PySem.W.Frag} {H : Hp} {Q : VK} {a b : Addr} {ns ms : List Str} {x y : V} {D : Ends} {σ : L2.St} {te : TE} {n : Nat} {i j : Int} {p : Bool} {q : Bool}
theorem dpAll_strs : ∀ ns : List Str, DpAll K H (ns.map V.str) (ns.map PyData.str)
  | [] => .nil
  | n :: r => .cons (.str n) (dpAll_strs r)
theorem eqvAll_strs : ∀ ns ms : List Str, PyData.eqvAll (ns.map PyData.str) (ms.map PyData.str) = decide (ns = ms)
  | [], [] => by simp [PyData.eqvAll]
  | [], _ :: _ => by simp [PyData.eqvAll]
  | _ :: _, [] => by simp [PyData.eqvAll]
  | n :: r, k :: q => by
    simp only [List.map_cons, PyData.eqvAll, PyData.eqv, eqvAll_strs r q]
    by_cases h : n = k <;> simp [h]
def okStrs (ns : List Str) : Bool := ns.all PyData.strOk
theorem canLay_strs : ∀ ns : List Str, okStrs ns = true → PyData.canLayAll0 (ns.map PyData.str) = true
  | [], _ => by simp [PyData.canLayAll0]
  | n :: r, h => by
    simp only [okStrs, List.all_cons, Bool.and_eq_true] at h
    simp only [List.map_cons, PyData.canLayAll0, PyData.canLay0, Bool.and_eq_true]
    exact ⟨h.1, canLay_strs r h.2⟩
theorem depth_strs : ∀ ns : List Str, PyData.depthAll (ns.map PyData.str) ≤ 1
  | [] => by simp [PyData.depthAll]
  | n :: r => by
    have := depth_strs r
    simp only [List.map_cons, PyData.depthAll, PyData.depth]
    omega
theorem shaped_strs (h : okStrs ns = true) : SeqAt.shaped (.list (ns.map PyData.str)) = true := by
  have h1 := depth_strs ns
  have h2 : PyData.depth (.list (ns.map PyData.str)) ≤ 64 := by simp only [PyData.depth]; omega
  show (PyData.canLay0 (.list (ns.map PyData.str)) && decide (PyData.depth (.list (ns.map PyData.str)) ≤ 64)) = true
  rw [Bool.and_eq_true]
  exact ⟨by simp only [PyData.canLay0]; exact canLay_strs ns h, decide_eq_true h2⟩
def rEqS (K : PySem.W.Frag) : R2 := fun x y H Q => ∃ (a b : Addr) (ns ms : List Str), x = .ref a ∧ y = .ref b ∧ SqL K H a (ns.map V.str) ∧ SqL K H b (ms.map V.str) ∧ okStrs ns = true ∧ okStrs ms = true ∧ Q (.bl (decide (ns = ms))) H
def rNeS (K : PySem.W.Frag) : R2 := fun x y H Q => ∃ (a b : Addr) (ns ms : List Str), x = .ref a ∧ y = .ref b ∧ SqL K H a (ns.map V.str) ∧ SqL K H b (ms.map V.str) ∧ okStrs ns = true ∧ okStrs ms = true ∧ Q (.bl (!decide (ns = ms))) H
theorem op_eqLS (hu : X.A.units + 64 < cLine) : OpR X (compareOp .Eq) (rEqS X.K) := fun pins s σ H x y v u Q I rx ry h => by
  obtain ⟨a, b, ns, ms, rfl, rfl, h1, h2, o1, o2, q⟩ := h
  exact op_eqD hu pins s σ H _ _ v u Q I rx ry ⟨_, _, .lst h1 (dpAll_strs ns), .lst h2 (dpAll_strs ms), shaped_strs o1, shaped_strs o2, by rw [PyData.eqv, eqvAll_strs]; exact q⟩
theorem op_neLS (hu : X.A.units + 64 < cLine) : OpR X (compareOp .NotEq) (rNeS X.K) := fun pins s σ H x y v u Q I rx ry h => by
  obtain ⟨a, b, ns, ms, rfl, rfl, h1, h2, o1, o2, q⟩ := h
  exact op_neD hu pins s σ H _ _ v u Q I rx ry ⟨_, _, .lst h1 (dpAll_strs ns), .lst h2 (dpAll_strs ms), shaped_strs o1, shaped_strs o2, by rw [PyData.eqv, eqvAll_strs]; exact q⟩
theorem w_eqLS (h1 : SqL K H a (ns.map V.str)) (h2 : SqL K H b (ms.map V.str)) (o1 : okStrs ns = true) (o2 : okStrs ms = true) (q : Q (.bl (decide (ns = ms))) H) : rEqS K (.ref a) (.ref b) H Q := ⟨_, _, _, _, rfl, rfl, h1, h2, o1, o2, q⟩
theorem w_neLS (h1 : SqL K H a (ns.map V.str)) (h2 : SqL K H b (ms.map V.str)) (o1 : okStrs ns = true) (o2 : okStrs ms = true) (q : Q (.bl (!decide (ns = ms))) H) : rNeS K (.ref a) (.ref b) H Q := ⟨_, _, _, _, rfl, rfl, h1, h2, o1, o2, q⟩
def rIsBl : R2 := fun x y H Q => ∃ a b, x = .bl a ∧ y = .bl b ∧ Q (.bl (decide (a = b))) H
theorem op_isB : OpR X (compareOp .Is) rIsBl := op_is_bl
theorem w_isBl (h : Q (.bl (decide (p = q))) H) : rIsBl (.bl p) (.bl q) H Q := ⟨_, _, rfl, rfl, h⟩
theorem w_aug {ti : TIp} (h : σ[n]? = some (some x)) (q : te σ H fun y H1 => ti x y H1 fun z H2 => D.nx (σ.set n (some z)) H2) : tAug n te ti D σ H := ⟨_, h, q⟩
theorem w_ipI {f : Int → Int → Int} (q : Q (.int (f i j)) H) : ipI f (.int i) (.int j) H Q := ⟨_, _, rfl, rfl, q⟩
theorem w_tup_at {xs : List V} {i : Int} {k : Nat} {v : V} (e : i = (k : Int)) (h : xs[k]? = some v) : atI xs i = some v := at_of e h
theorem w_sub {to ti : TE} {ts : TSet} {v : V} {Qs : L2.St → Hp → Prop} (q : to σ H fun o H1 => ti σ H1 fun i H2 => ts o i v H2 fun H3 => Qs σ H3) : gSub to ti ts v σ H Qs := q
theorem w_setL {xs : List V} {k : Nat} {r : Addr} {v : V} {Qh : Hp → Prop} (h : H r = some (.lst xs)) (e : ixN xs.length i = some k) (q : Qh (upd H r (.lst (xs.set k v)))) : rSetL (.ref r) (.int i) v H Qh := ⟨_, _, _, _, rfl, rfl, h, e, q⟩
theorem ixN_of {m k : Nat} (e : i = (k : Int)) (h : k < m) : ixN m i = some k := by
  subst e
  unfold ixN
  rw [if_pos (by omega), if_pos (by omega), Int.toNat_natCast]
end
end Mn

namespace Mn
open PySem PySem.Spec PyProof.Rows L2
/-! ### the rules that name the written part, K told ahead -/
section
variable {X : Cx} {K : PySem.W.Frag} {e a b o value : Expr} {es : List Expr} {f name : Str} {pos pos' tpos apos cpos : Pos} {ta tb tv te to : TE} {t : TA} {tg : Expr}
theorem kFld (hK : X.K = K) (he : PE X e ta) (hb : attributeBase e f X.env (eval e X.env) = eval e X.env := by rfl) : PE X (.Attribute e f pos) (tFld K ta f) := hK ▸ pe_fld he hb
theorem kSFld (hK : X.K = K) (ha : PE X o ta) (hv : PE X value tv) (hs : swapsWith value (some (.Attribute o f pos')) pos.line X.env = pure false := by rfl) : PS X (.Assign [.Attribute o f pos'] value pos) (sFld K ta tv f) := hK ▸ ps_fld ha hv hs
theorem kSFldAug {op : Operator} {rd : V → V → Hp → VK → Prop} (hK : X.K = K) (ha : PE X o ta) (hv : PE X value tv) (hop : InOp X op rd) : PS X (.AugAssign (.Attribute o f tpos) op value pos) (sFldAug K ta tv rd f) := hK ▸ ps_fldaug ha hv hop
theorem kIxL (hK : X.K = K) : IxR X (rIxL K) := hK ▸ ix_list
theorem kIxT (hK : X.K = K) : IxR X (rIxT K) := hK ▸ ix_tup
theorem kLenL (hK : X.K = K) : CallR X (.builtin "len") (cLenL K) := hK ▸ call_lenL
theorem kLenT (hK : X.K = K) : CallR X (.builtin "len") (cLenT K) := hK ▸ call_lenT
theorem kListL (hK : X.K = K) : CallR X (.type "list") (cListL K) := hK ▸ call_listL
theorem kSorted (hK : X.K = K) : CallR X (.builtin "sorted") (rSorted K) := hK ▸ cr_sorted
theorem kIsi (hK : X.K = K) : CallR X (.builtin "isinstance") (rIsi K) := hK ▸ call_isi
theorem kPiL (hK : X.K = K) (hl : PE X e te) : PI X tg e (iList K te) := hK ▸ pi_list hl
theorem kPiT (hK : X.K = K) (hl : PE X e te) : PI X tg e (iTup K te) := hK ▸ pi_tup hl
theorem kSlL (hK : X.K = K) : SlR X (rSlL K) := hK ▸ sl_list
theorem kIn (hK : X.K = K) : OpR X (compareOp .In) (rIn K false) := hK ▸ op_in_seq
theorem kNotIn (hK : X.K = K) : OpR X (compareOp .NotIn) (rIn K true) := hK ▸ op_notIn_seq
theorem kEqI (hK : X.K = K) (hu : X.A.units + 64 < cLine) : OpR X (compareOp .Eq) (rEqI K) := hK ▸ op_eqLI hu
theorem kNeI (hK : X.K = K) (hu : X.A.units + 64 < cLine) : OpR X (compareOp .NotEq) (rNeI K) := hK ▸ op_neLI hu
theorem kEqS (hK : X.K = K) (hu : X.A.units + 64 < cLine) : OpR X (compareOp .Eq) (rEqS K) := hK ▸ op_eqLS hu
theorem kNeS (hK : X.K = K) (hu : X.A.units + 64 < cLine) : OpR X (compareOp .NotEq) (rNeS K) := hK ▸ op_neLS hu
theorem kEqD (hK : X.K = K) (hu : X.A.units + 64 < cLine) : OpR X (compareOp .Eq) (rEqD K) := hK ▸ op_eqD hu
theorem kNeD (hK : X.K = K) (hu : X.A.units + 64 < cLine) : OpR X (compareOp .NotEq) (rNeD K) := hK ▸ op_neD hu
theorem kIndex (hK : X.K = K) : MtR X "list.index" (rIndex K) := hK ▸ mt_index
theorem kTup {k : Nat} {n : Nat} {gs : TGs} (hK : X.K = K) (hc : X.calm = true) (h : PGs X es gs)
    (hn : (assignEach es X.env).length = n := by rfl) (hst : (assignEach es X.env).findIdx? (·.1) = none := by rfl) : PG X (.Tuple es k pos) (gTup K n gs) := hK ▸ pg_tup hc h hn hst
theorem kBm {T id : String} {r : V → List V → Hp → VK → Prop} (hK : X.K = K) (pa : PlainAttrs T) (slot : Slot T name id) (hty : typeOf (.builtin id) = pure (.type "method_descriptor")) (hm : MtR X id r) (ho : PE X o to) (ha : PA X (e :: es) t)
    (hbase : attributeBase o name X.env (eval o X.env) = eval o X.env := by rfl)
    (hfew : ((backTo cpos (starEach (e :: es) X.env)).all (fun x => !x.1) && (backToKw cpos (keywordEach [] X.env)).all (fun x => x.1.isSome)
      && decide ((e :: es).length + ([] : List Keyword).length + (if ([] : List Keyword).isEmpty then 0 else 1) < 30)) = true := by rfl)
    (hline : (apos.endLine == cpos.line) = true := by rfl) (hs : starEach (e :: es) X.env = (false, eval e X.env) :: starEach es X.env := by rfl) (hplain : (backTo cpos (starEach es X.env)).any (·.1) = false := by rfl) : PE X (.Call (.Attribute o name apos) (e :: es) [] cpos) (tBM K T r to t) := hK ▸ pe_bm pa slot hty hm ho ha hbase hfew hline hs hplain
theorem kBm0 {T id : String} {r : V → List V → Hp → VK → Prop} (hK : X.K = K) (pa : PlainAttrs T) (slot : Slot T name id) (hty : typeOf (.builtin id) = pure (.type "method_descriptor")) (hm : MtR X id r) (ho : PE X o to)
    (hbase : attributeBase o name X.env (eval o X.env) = eval o X.env := by rfl) (hline : (apos.endLine == cpos.line) = true := by rfl) : PE X (.Call (.Attribute o name apos) [] [] cpos) (tBM0 K T r to) := hK ▸ pe_bm0 pa slot hty hm ho hbase hline
end
end Mn

namespace Mn
open PySem L2
/-! ### texts that can be laid -/
theorem strOk_of (s : String) : PyData.strOk (Str.ofString s) = true := by
  rw [Str.ofString_eq_toList]
  show (List.toArray (s.toList.map Char.toNat)).all (fun n => decide (n < 0x110000)) = true
  rw [List.all_toArray, List.all_map, List.all_eq_true]
  intro c _
  refine decide_eq_true ?_
  have h := c.valid
  show c.val.toNat < 0x110000
  rcases h with h | h
  · exact Nat.lt_trans h (by decide)
  · exact h.2
theorem okStrs_cons {n : Str} {r : List Str} (h : PyData.strOk n = true) (t : okStrs r = true) : okStrs (n :: r) = true := by
  simp only [okStrs, List.all_cons, Bool.and_eq_true] at t ⊢
  exact ⟨h, t⟩
/-- a number whose digits are fewer than 577 -/
def Smol (i : Int) : Prop := i.natAbs.log2 < 1920
theorem smol_of {i : Int} (h : i.natAbs < 2 ^ 64) : Smol i := by
  unfold Smol
  by_cases h0 : i.natAbs = 0
  · rw [h0]; decide
  · have := (Nat.log2_lt h0).mpr h
    omega
abbrev FunS (K : PySem.W.Frag) (x qual : Str) (st : Stmt) (dvs : List V) (f : Addr) (fd : FuncData) : Prop := FunD K x qual (defArgs st) (defBody st) (defScope st) dvs [] f fd
/-! ### names of the module, x in a tuple | list -/
section
variable {K : PySem.W.Frag} {mg : Str → Option Value} {σ : L2.St} {H : Hp} {Q : VK} {x : Str} {v y : V} {u : Value} {p : Addr} {xs : List V}
theorem w_gv (h : mg x = some u) (r : RelV v u) (q : Q v H) : tGv mg x σ H Q := ⟨v, u, h, r, q⟩
theorem w_inT (h : SqT K H p xs) (fx : flatV y = true) (fs : xs.all flatV = true) (q : Q (.bl (inV y xs)) H) : rIn K false y (.ref p) H Q := ⟨p, xs, rfl, .inr h, fx, fs, q⟩
theorem w_inL (h : SqL K H p xs) (fx : flatV y = true) (fs : xs.all flatV = true) (q : Q (.bl (inV y xs)) H) : rIn K false y (.ref p) H Q := ⟨p, xs, rfl, .inl h, fx, fs, q⟩
theorem w_ninT (h : SqT K H p xs) (fx : flatV y = true) (fs : xs.all flatV = true) (q : Q (.bl (!inV y xs)) H) : rIn K true y (.ref p) H Q := ⟨p, xs, rfl, .inr h, fx, fs, q⟩
theorem w_ninL (h : SqL K H p xs) (fx : flatV y = true) (fs : xs.all flatV = true) (q : Q (.bl (!inV y xs)) H) : rIn K true y (.ref p) H Q := ⟨p, xs, rfl, .inl h, fx, fs, q⟩
end
theorem inV2 (x a b : Str) : inV (.str x) [.str a, .str b] = (decide (x = a) || decide (x = b)) := by
  unfold inV
  simp only [List.any_cons, List.any_nil, Bool.or_false]
  have e : ∀ a : Str, eqV (.str a) (.str x) = decide (x = a) := fun a => by
    show decide (a = x) = decide (x = a)
    exact decide_eq_decide.mpr ⟨Eq.symm, Eq.symm⟩
  rw [e, e]
theorem inV_int {z : Int} {l : List Int} : inV (.int z) (l.map V.int) = decide (z ∈ l) := by
  rw [Bool.eq_iff_iff, decide_eq_true_eq]
  unfold inV
  rw [List.any_map, List.any_eq_true]
  constructor
  · rintro ⟨y, hy, e⟩
    have e : decide (y = z) = true := e
    rw [← of_decide_eq_true e]
    exact hy
  · exact fun h => ⟨z, h, decide_eq_true rfl⟩
end Mn

/-! ### errors of own classes: raised, caught, handed to a def in the suite -/
namespace Mn
open PySem PySem.Spec PyProof.Rows L2 L2H
/-- the wish of a def's caller, slots aside -/
abbrev wE (E : XK) : WX := fun c d _ H => E c d H
abbrev CXN (P : Program) (w : World) : CXT := L2N.CX P w
section
variable {X : Cx} {P : Program} {w : World} {K : PySem.W.Frag} {mg : Str → Option Value} {base : Heap} {k : Nat} {W : WX} {x m : Str} {p pos apos : Pos} {e o : Expr} {es : List Expr} {ta : TE} {t : TA}
/-- f(e, ..) of a def that may raise; W takes what it lets out -/
def tCE (P : Program) (w : World) (K : PySem.W.Frag) (mg : Str → Option Value) (base : Heap) (x : Str) (k : Nat) (W : WX) (t : TA) : TE := fun σ H Q => ∃ j ps dvs sp, Cal P w K mg base (CXN P w) x j ps dvs sp ∧ j ≤ k ∧ t σ H fun vs H1 => sp (vs ++ dvs) H1 Q (WE W σ)
theorem pe_cae (hX : Sx X P w K mg base) (hr : Room k X.A) (hg : Gl X x) (tk : L2N.Takes X W) (ha : PA X (e :: es) t) (hdb : (x == ("__debug__" : Str)) = false := by decide) (he : starEach (e :: es) X.env = (false, eval e X.env) :: starEach es X.env := by rfl)
    (hpl : (backTo pos (starEach es X.env)).any (·.1) = false := by rfl) : PE X (.Call (.Name x p) (e :: es) [] pos) (tCE P w K mg base x k W t) := by
  obtain ⟨rfl, rfl, rfl, rfl, rfl⟩ := hX
  refine ⟨fun pins s σ H Q I h => ?_⟩
  obtain ⟨j, ps, dvs, sp, C, hj, h⟩ := h
  obtain ⟨f, fd, ds, F, hm, hk, hb, hd⟩ := C.ex
  refine wpAny_Call_Name_kw (ld_glob I hg hm ?_ hdb)
  refine PySem.W.callWith_K (h₀ := X.base) I.ok.mod.kin hk (thn (ha.run pos pins s σ H _ I h) fun us s1 ⟨vs, H1, I1, r, q⟩ => ⟨I1.kIn, ?_⟩) he hpl
  exact run_fnSD F (hr.mono hj) hb hd (L2N.passAt tk σ) I1 r q
theorem w_cae {σ : L2.St} {H : Hp} {Q : VK} {j : Nat} {ps : List Str} {dvs : List V} {sp : Sp} (c : Cal P w K mg base (CXN P w) x j ps dvs sp) (hj : j ≤ k) (q : t σ H fun vs H1 => sp (vs ++ dvs) H1 Q (WE W σ)) : tCE P w K mg base x k W t σ H Q := ⟨_, _, _, _, c, hj, q⟩
end
/-! ### a def that the suite calls with the error that it holds -/
/-- its promise may speak of the error's address and class -/
structure FnE (P : Program) (w : World) (K : PySem.W.Frag) (mg : Str → Option Value) (base : Heap) (k : Nat) (f : Addr) (fd : FuncData) (ps : List Str) (sp : Addr → Value → Option Addr → Sp) : Prop where
  len : ∀ a c d vs H Q E, sp a c d vs H Q E → vs.length = ps.length
  run : ∀ (A : Around) (outer : List Env) (s : Shared) (H : Hp) (args : Args) (us : List Value) (vs : List V) (Q : VK) (E : XK) (q : Addr × Obj) (c : Value) (d : Option Addr), RoomH k A → Hot1 A q → L2N.Zn c d q.2 → PinOk outer H s q → Env0 P w K mg base A outer s H →
    BindsTo s fd args (ps.zip us) → Vals vs us → sp q.1 c d vs H Q E → codeAny (model P w) A (.call (.ref f) args) (CR CX0 outer P w H s Q E) s
theorem hot_fields {A : Around} {q : Addr × Obj} (h : Hot1 A q) : ∃ vs, q.2.data = .fields vs := ⟨_, h.2.choose_spec.1⟩
/-- the rule for such a def -/
theorem fnE_of {P : Program} {w : World} {K : PySem.W.Frag} {mg : Str → Option Value} {base : Heap} {k : Nat} {x qual : Str} {st : Stmt} {f : Addr} {fd : FuncData} {N ps : List Str} {sp : Addr → Value → Option Addr → Sp} (F : Fun K x qual st f fd) (S : FnScope N ps (defScope st))
    (len : ∀ a c d vs H Q E, sp a c d vs H Q E → vs.length = ps.length)
    (hbody : ∀ (cdv : Value) (A : Around) (outer : List Env) (s : Shared) (H : Hp) (vs : List V) (Q : VK) (E : XK) (q : Addr × Obj) (c : Value) (d : Option Addr), Hot1 A q → L2N.Zn c d q.2 → RoomH k (A.deeper (envOfC qual (defScope st) s.heap.objs.size f cdv)) → sp q.1 c d vs H Q E →
      ∃ t, PSs (cxH CX0 P w K mg base N qual (defScope st) f cdv A outer s H E q) (defBody st) t ∧ t { nx := fun _ H' => Q .non H', rt := Q } (L2.start N vs) H) : FnE P w K mg base (k + 1) f fd ps sp := by
  obtain ⟨oc, od, kV, doc, pm, an, cdv, ct, osl, rfl, lk, hcd⟩ := F.ex
  refine ⟨len, fun A outer s H args us vs Q E q c d hr hot hz hpin e0 hb r hsp => ?_⟩
  -- the def is found, its frame is made
  have inK : K.In s.heap := e0.mod.kin.keeps fun b o z => (e0.bs b o z).1
  have noLim : s.heap.NoLimit := e0.mod.nolimit.keeps fun b o z => (e0.bs b o z).1
  refine codeAny_call_function hr.depth (inK _ _ lk) rfl S.co S.gen rfl (PySem.W.codeRec_of inK hcd) (hb _ _ _ _ ?_)
  refine wpAny_newFunctionEnv_cells S.kind (fun y hy => ?_) fun env he s1 z => ?_
  · rcases S.par y.1 (List.of_mem_zip hy).1 with loc | cell
    · exact .inl loc
    · exact .inr ⟨cell, PySem.W.cellsFrom_some _ _ _ (.inl cell)⟩
  subst he
  refine ⟨noLim.keeps z.toInCall.keep, codeAny_func ?_⟩
  -- its body
  obtain ⟨t, ht, hq⟩ := hbody cdv A outer s H vs Q E q c d hot hz (hr.deeper _) hsp
  have I := inv_startH (CX := CX0) (E := E) S hpin e0 (len _ _ _ _ _ _ _ hsp) r z
  refine wpAny_mono (ht.run [] s1 (L2.start N vs) H _ I hq) (fun fl s' hs => ?_) fun _ _ hs => hs
  cases fl with
  | brk => exact hs.choose_spec.choose_spec.2.elim
  | cont => exact hs.choose_spec.choose_spec.2.elim
  | next =>
    obtain ⟨σ', H', J, q'⟩ := hs
    exact ⟨V.non, H', J.os, J.bare, J.base, J.hok, rfl, q'⟩
  | ret u =>
    obtain ⟨v, σ', H', J, rv, q'⟩ := hs
    exact ⟨v, H', J.os, J.bare, J.base, J.hok, rv, q'⟩
structure CalE (P : Program) (w : World) (K : PySem.W.Frag) (mg : Str → Option Value) (base : Heap) (x : Str) (k : Nat) (ps : List Str) (sp : Addr → Value → Option Addr → Sp) : Prop where
  ex : ∃ (f : Addr) (fd : FuncData), FnE P w K mg base k f fd ps sp ∧ mg x = some (.ref f) ∧ PySem.W.keepIn K (.ref f) = true ∧ Binds K fd ps []
section
variable {X : Cx} {P : Program} {w : World} {K : PySem.W.Frag} {mg : Str → Option Value} {base : Heap} {k : Nat} {x : Str} {p pos : Pos} {e : Expr} {es : List Expr} {t : TA} {q : Addr × Obj} {c : Value} {d : Option Addr}
def tCH (P : Program) (w : World) (K : PySem.W.Frag) (mg : Str → Option Value) (base : Heap) (x : Str) (k : Nat) (a : Addr) (c : Value) (d : Option Addr) (t : TA) : TE := fun σ H Q => ∃ j ps sp, CalE P w K mg base x j ps sp ∧ j ≤ k ∧ t σ H fun vs H1 => sp a c d vs H1 Q E0
theorem pe_cah (hX : Sx X P w K mg base) (hr : RoomH k X.A) (hot : Hot1 X.A q) (hq : q ∈ X.pn) (hz : L2N.Zn c d q.2) (hg : Gl X x) (ha : PA X (e :: es) t) (hdb : (x == ("__debug__" : Str)) = false := by decide)
    (he : starEach (e :: es) X.env = (false, eval e X.env) :: starEach es X.env := by rfl) (hpl : (backTo pos (starEach es X.env)).any (·.1) = false := by rfl) : PE X (.Call (.Name x p) (e :: es) [] pos) (tCH P w K mg base x k q.1 c d t) := by
  obtain ⟨rfl, rfl, rfl, rfl, rfl⟩ := hX
  refine ⟨fun pins s σ H Q I h => ?_⟩
  obtain ⟨j, ps, sp, C, hj, h⟩ := h
  obtain ⟨f, fd, F, hm, hk, hb⟩ := C.ex
  refine wpAny_Call_Name_kw (ld_glob I hg hm ?_ hdb)
  refine PySem.W.callWith_K (h₀ := X.base) I.ok.mod.kin hk (thn (ha.run pos pins s σ H _ I h) fun us s1 ⟨vs, H1, I1, r, h1⟩ => ⟨I1.kIn, ?_⟩) he hpl
  -- the error stands where nothing else reaches
  have at_ := I1.pin q (List.mem_append_left _ hq)
  have pin : PinOk X.stack H1 s1 q := ⟨at_.1, at_.2.1, fun z => (List.mem_cons.mp (I1.stkSub q.1 z)).elim at_.2.2.1 at_.2.2.2.1, at_.2.2.2.2⟩
  have n : us.length = ps.length := r.length.symm.trans (F.len _ _ _ _ _ _ _ h1)
  have b := hb s1 us I1.kIn (by rw [List.append_nil]; exact n)
  rw [List.append_nil] at b
  refine wpAny_call (codeAny_mono (F.run X.A X.stack s1 H1 ⟨us, []⟩ us vs Q E0 q c d (hr.mono hj) hot hz pin I1.env0 b r h1) fun z s' hs => ?_)
  cases z with
  | error _ => exact hs.elim
  | ok fl => cases fl with
    | ret u => exact I1.after hs
    | next => exact hs.elim
    | brk => exact hs.elim
    | cont => exact hs.elim
theorem w_cah {σ : L2.St} {H : Hp} {Q : VK} {j : Nat} {ps : List Str} {sp : Addr → Value → Option Addr → Sp} {a : Addr} (C : CalE P w K mg base x j ps sp) (hj : j ≤ k) (h : t σ H fun vs H1 => sp a c d vs H1 Q E0) : tCH P w K mg base x k a c d t σ H Q := ⟨_, _, _, C, hj, h⟩
/-- isinstance(e, c) where the error is pinned -/
theorem call_isP {D : Addr} (hq : q ∈ X.pn) (C : ExcC X.K D) (hz : Zc (.ref D) none q.2) (hf : ∃ vs, q.2.data = .fields vs) : CallR X (.builtin "isinstance") (rIsE X.K D q.1) := by
  intro pins s σ H xs us Q I r h
  obtain ⟨c, cv, b, rfl, hcv, hk, h⟩ := h
  obtain ⟨vs, hv⟩ := hf
  have g := (I.pin q (List.mem_append_left _ hq)).1
  have J : PySem.W.InstAt s.heap q.1 q.2 D none := by
    obtain ⟨qa, oc, od, oda, osl⟩ := q
    obtain ⟨h1, h2⟩ := hz
    dsimp only at h1 h2 hv
    subst h1 h2 hv
    exact ⟨g, rfl, rfl, trivial⟩
  match us, r with
  | [u1, u2], .cons r1 (.cons r2 .nil) =>
    obtain rfl : u1 = Value.ref q.1 := r1
    obtain rfl := hcv _ r2
    exact PySem.W.kia_one (PySem.W.handS_kitx_exc C.hg C.hk C.hs C.hd C.ha C.hn C.ht C.hm) I.kIn J hk (fun z => nomatch z) fun tk => ⟨.bl b, H, I.kept (t' := tk) fun _ _ z => z, rfl, h⟩
theorem kIsP {K : PySem.W.Frag} {D : Addr} (hK : X.K = K) (hq : q ∈ X.pn) (C : ExcC K D) (hz : Zc (.ref D) none q.2) (hf : ∃ vs, q.2.data = .fields vs) : CallR X (.builtin "isinstance") (rIsE K D q.1) := by
  subst hK
  exact call_isP hq C hz hf
theorem w_isE {K : PySem.W.Frag} {D a : Addr} {v : V} {cv : Value} {b : Bool} {H : Hp} {Q : VK} (hv : ∀ u, RelV v u → u = cv) (hk : PySem.W.kitOne K (.ref D) cv = some b) (h : Q (.bl b) H) : rIsE K D a [.ref a, v] H Q := ⟨_, _, _, rfl, hv, hk, h⟩
end
theorem roomH_mark {k : Nat} {A : Around} {h : Option Value} (r : Room k A) : RoomH k (A.mark h) := ⟨r.dp, r.un⟩
theorem hot_mark {A : Around} {a : Addr} {oe : Obj} {c : Value} {d : Option Addr} (hz : L2N.Zn c d oe) (hv : ∃ vs, oe.data = .fields vs) : Hot1 (A.mark (some (.ref a))) (a, oe) := by
  obtain ⟨vs, e⟩ := hv
  exact ⟨rfl, vs, e, hz.2.2 vs e⟩
/-- what the text must say of an own error, so that it can be raised and named -/
structure ErrK (K : PySem.W.Frag) (mg : Str → Option Value) (x : Str) (C : Addr) : Prop where
  xf : PySem.W.excIn K C [.type "ValueError", .type "Exception", .type "BaseException", .type "object"] "ValueError.__new__" = true
  g : mg x = some (.ref C)
  k : PySem.W.keepIn K (.ref C) = true
  b : PySem.W.subIn K (.ref C) (.type "BaseException") = some true
  t : PySem.W.typeIn K (.ref C) = some (.type "type")
/-- the class named in a clause -/
structure NamK (K : PySem.W.Frag) (mg : Str → Option Value) (x : Str) (C : Addr) : Prop where
  g : mg x = some (.ref C)
theorem tk_weak {X : Cx} {W : WX} (tk : L2.Takes X W) : L2N.Takes X W := fun u s' h => by
  obtain ⟨a, B, sI, pins, σ, H, cls, d, e, I, nb, up, sky, na, os, ag, w⟩ := h
  refine tk u s' ⟨a, B, sI, pins, σ, H, cls, d, e, I, nb, up, ?_, na, os, ag, w⟩
  rcases sky with ⟨h1, h2, h3, oe, vs, he, hz, hd, h4⟩ | fl | hh
  · exact .inl ⟨h1, h2, h3, oe, vs, he, hz.zc, hd, h4⟩
  · exact .inr (.inl (flyingZ_imp (fun _ z => L2N.Zn.zc z) fl))
  · obtain ⟨h1, h2, h3, h4⟩ := hh
    exact .inr (.inr ⟨h1, h2, h3, tracedZ_imp (fun _ z => L2N.Zn.zc z) h4⟩)
theorem takesN0 {X : Cx} : L2N.Takes X (fun _ _ _ _ => False) := fun _ _ h => by
  obtain ⟨_, _, _, _, _, _, _, _, _, _, _, _, _, _, _, _, z⟩ := h
  exact z.elim
/-- a call in the suite, the error handed on -/
theorem pe_cas {X : Cx} {P : Program} {w : World} {K : PySem.W.Frag} {mg : Str → Option Value} {base : Heap} {k : Nat} {x : Str} {p pos : Pos} {e : Expr} {es : List Expr} {t : TA} {a : Addr} {oe : Obj} {c : Value} {d : Option Addr} (hX : Sx X P w K mg base) (hr : RoomH k X.A) (hz : L2N.Zn c d oe)
    (hot : Hot1 X.A (a, oe)) (hq : (a, oe) ∈ X.pn) (hg : Gl X x) (ha : PA X (e :: es) t) (hdb : (x == ("__debug__" : Str)) = false := by decide)
    (he : starEach (e :: es) X.env = (false, eval e X.env) :: starEach es X.env := by rfl) (hpl : (backTo pos (starEach es X.env)).any (·.1) = false := by rfl) : PE X (.Call (.Name x p) (e :: es) [] pos) (tCH P w K mg base x k a c d t) :=
  pe_cah (q := (a, oe)) hX hr hot hq hz hg ha hdb he hpl
theorem w_thru {t u : TS} {D : Ends} {σ : L2.St} {H : Hp} (q : t { D with nx := u D } σ H) : tThru t u D σ H := q
end Mn

namespace Mn
open PySem L2
def top (i : Nat) : Stmt := PySem.Challenge.pw_minders_k01_a_number_in_a_text.main.body.getD i (.Pass ⟨0, 0, 0, 0⟩)
/-- the built-ins that the text names -/
structure Bt (mg : Str → Option Value) : Prop where
  len : mg "len" = none
  int : mg "int" = none
  bool : mg "bool" = none
  max : mg "max" = none
  ValueError : mg "ValueError" = none
  str : mg "str" = none
  isinstance : mg "isinstance" = none
abbrev s_number_in : Stmt := top 10
theorem sc_number_in : FnScope ["text", "most", "value"] ["text", "most"] (defScope s_number_in) := ⟨rfl, rfl, rfl, by decide +kernel, rfl, by decide +kernel, by decide +kernel⟩
abbrev s_law_cell_at : Stmt := top 12
theorem sc_law_cell_at : FnScope ["_law_script", "_law_k"] ["_law_script", "_law_k"] (defScope s_law_cell_at) := ⟨rfl, rfl, rfl, by decide +kernel, rfl, by decide +kernel, by decide +kernel⟩
abbrev s_law_only : Stmt := top 13
theorem sc_law_only : FnScope ["_law_error", "_law_others"] ["_law_error"] (defScope s_law_only) := ⟨rfl, rfl, rfl, by decide +kernel, rfl, by decide +kernel, by decide +kernel⟩
abbrev s_law_text : Stmt := top 14
theorem sc_law_text : FnScope ["_law_value", "_law_way", "_law_cell", "_law_text_here", "_law_at"] ["_law_value", "_law_way", "_law_cell"] (defScope s_law_text) := ⟨rfl, rfl, rfl, by decide +kernel, rfl, by decide +kernel, by decide +kernel⟩
abbrev s_law : Stmt := top 15
theorem sc_law : FnScope ["_law_script", "_law_way", "_law_value", "_law_most", "_law_text_here", "_law_due", "_law_error", "_law_found"] ["_law_script"] (defScope s_law) := ⟨rfl, rfl, rfl, by decide +kernel, rfl, by decide +kernel, by decide +kernel⟩
end Mn

/-! ### texts: stripped signs, numbers -/
namespace Mn
open PySem PySem.Spec PyProof.Rows L2 TL
open PySem.Builtin PySem.Builtin.Str
theorem mem_tl {x : Str} {c : Nat} (h : c ∈ tl x) : ∃ k, k < x.length ∧ x.cps.getD k 0 = c := by
  obtain ⟨k, hk, e⟩ := List.getElem_of_mem h
  refine ⟨k, by rw [len_tl]; exact hk, ?_⟩
  rw [← getD_list]
  simp [List.getD, List.getElem?_eq_getElem hk, e]
theorem getD_mem {x : Str} {k : Nat} (h : k < x.length) : x.cps.getD k 0 ∈ tl x := by
  rw [len_tl] at h
  rw [← getD_list]
  simp [List.getD, List.getElem?_eq_getElem h]
theorem lo_all {g : Nat → Bool} {x : Str} (h : ∀ c ∈ tl x, g c = true) : stripLo g true x = x.length := by
  obtain ⟨h1, _, h3⟩ := lo_facts g x
  rcases h3 with h3 | h3
  · exact h3
  · by_cases hl : stripLo g true x < x.length
    · rw [h _ (getD_mem hl)] at h3
      cases h3
    · omega
theorem strip_all {g : Nat → Bool} {x : Str} {r : Bool} (h : ∀ c ∈ tl x, g c = true) : Txt.stripBy g true r x = "" := by
  refine ext_tl ?_
  rw [stripBy_eq, tl_strSub, lo_all h, List.drop_eq_nil_of_le (by rw [len_tl]; exact Nat.le_refl _), List.take_nil]
  rfl
theorem strip_all_of {g : Nat → Bool} {x : Str} (h : Txt.stripBy g true true x = "") : ∀ c ∈ tl x, g c = true := by
  have e := congrArg tl h
  rw [stripBy_eq, tl_strSub] at e
  obtain ⟨h1, h2, h3⟩ := lo_facts g x
  obtain ⟨k1, k2, k3, k4⟩ := hi_facts g x _ h1
  have e' := congrArg List.length e
  rw [List.length_take, List.length_drop, ← len_tl] at e'
  have e0 : (tl "").length = 0 := rfl
  rw [e0] at e'
  intro c hc
  obtain ⟨k, hk, rfl⟩ := mem_tl hc
  by_cases hl : k < stripLo g true x
  · exact h2 k hl
  · exact k3 k (by omega) hk
theorem strip_chars {x y : Str} : Txt.stripChars x y = "" ↔ ∀ c ∈ tl x, y.cps.contains c = true := ⟨strip_all_of, strip_all⟩
theorem digit_has (c : Nat) : ("0123456789" : Str).cps.contains c = true ↔ 48 ≤ c ∧ c ≤ 57 := by
  show (Array.contains #[48, 49, 50, 51, 52, 53, 54, 55, 56, 57] c) = true ↔ _
  simp only [Array.contains_eq_mem, decide_eq_true_eq, List.mem_toArray, List.mem_cons, List.not_mem_nil, or_false]
  omega
theorem starts_one (x : Str) (c : Nat) : Txt.startswith x ⟨#[c]⟩ = decide ((tl x).head? = some c) := by
  unfold Txt.startswith subAt
  rw [Bool.eq_iff_iff]
  simp only [Bool.and_eq_true, decide_eq_true_eq, beq_iff_eq]
  rw [len_tl x]
  show 0 + 1 ≤ (tl x).length ∧ x.cps.extract 0 (0 + 1) = #[c] ↔ _
  rw [← Array.toList_inj]
  simp only [Array.toList_extract]
  show 0 + 1 ≤ (tl x).length ∧ (tl x).extract 0 (0 + 1) = [c] ↔ _
  cases tl x with
  | nil => simp
  | cons a r => simp [List.extract_eq_drop_take]
def figs (l : List Nat) : Bool := l.all fun c => decide (48 ≤ c) && decide (c ≤ 57)
theorem figs_iff {l : List Nat} : figs l = true ↔ NumText.AllDigits l := by
  unfold figs NumText.AllDigits
  rw [List.all_eq_true]
  exact ⟨fun h c hc => by have := h c hc; simpa using this, fun h c hc => by simpa using h c hc⟩
theorem strip_figs {x : Str} : Txt.stripChars x "0123456789" = "" ↔ figs (tl x) = true := by
  rw [strip_chars, figs_iff]
  exact ⟨fun h c hc => (digit_has c).mp (h c hc), fun h c hc => (digit_has c).mpr (h c hc)⟩
def numOk (l : List Nat) : Bool := decide (l ≠ []) && figs l && !(decide (1 < l.length) && decide (l.head? = some 48))
/-- the number that a text tells: figures alone, no nought ahead of others -/
def numOf (x : Str) : Option Int := if numOk (tl x) = true then some ((NumText.digitsVal (tl x) : Nat) : Int) else none
theorem eq_nil_tl {x : Str} : x = "" ↔ tl x = [] := ⟨fun h => by rw [h]; rfl, fun h => ext_tl h⟩
theorem numOf_none {x : Str} (h : numOk (tl x) = false) : numOf x = none := by
  unfold numOf
  rw [h]
  exact if_neg Bool.false_ne_true
theorem intText_figs {x : Str} (h : figs (tl x) = true) (h1 : tl x ≠ []) (h2 : x.length ≤ 640) : intText? x = some ((NumText.digitsVal (tl x) : Nat) : Int) := intText_digits (figs_iff.mp h) h1 (by omega)
end Mn

/-! ### tactics: "rd" reads on as far as it goes; "hp", "ne", "sq", "st", "same", "sz" close what is asked of heaps and sizes -/
local macro_rules | `(tactic| walk_at "sz") => `(tactic| first
  | assumption
  | decide
  | (show _ ≤ PySem.sizeLine; decide)
  | (have sl' := PySem.sizeLine_eq; (try simp only [List.length_map, List.length_append, List.length_cons, List.length_nil, List.length_singleton, List.length_drop, List.length_take]); omega))
local macro_rules | `(tactic| walk_at "ne1") => `(tactic| first
  | assumption
  | (apply Ne.symm; assumption)
  | exact L2.ne_of_none (by assumption) (by assumption)
  | exact (L2.ne_of_none (by assumption) (by assumption)).symm)
local macro_rules | `(tactic| walk_at "hp") => `(tactic| first
  | assumption
  | exact L2.upd_same
  | (rw [L2.upd_ne (by walk_at "ne")]; walk_at "hp")
  | exact (by assumption : L2.Same _ _) _ _ (by assumption)
  | exact (by assumption : L2.Same _ _) _ _ ((by assumption : L2.Same _ _) _ _ (by assumption)))
local macro_rules | `(tactic| walk_at "ne") => `(tactic| first
  | walk_at "ne1"
  | exact L2.ne_of_none (by walk_at "hp") (by assumption)
  | exact (L2.ne_of_none (by walk_at "hp") (by assumption)).symm)
local macro_rules | `(tactic| walk_at "same") => `(tactic| first
  | assumption
  | exact L2.Same.refl _
  | exact L2.Same.trans (by assumption) (by assumption)
  | (refine' Mn.same_upd (by walk_at "same") (by assumption))
  | (refine' Mn.same_mut (by walk_at "same") (by assumption)))
local macro_rules | `(tactic| walk_at "sq") => `(tactic| first
  | assumption
  | exact L2.SqL.of L2.upd_same
  | exact L2.SqL.of (by walk_at "hp")
  | (refine' L2.Same.seq ?sq_s ?sq_h; (case sq_h => assumption); (case sq_s => walk_at "same")))
local macro_rules | `(tactic| walk_at "st") => `(tactic| first
  | assumption
  | exact L2.SqT.of L2.upd_same
  | exact L2.SqT.of (by walk_at "hp")
  | (refine' Mn.sqT_same ?sq_s ?sq_h; (case sq_h => assumption); (case sq_s => walk_at "same")))
local macro_rules | `(tactic| walk_at "cls") => `(tactic| first | assumption | exact Mn.ClsF.cl (by assumption))
local macro_rules | `(tactic| walk_at "noattr") => `(tactic| exact Mn.ClsF.no (by assumption) _ (by decide))
local macro_rules | `(tactic| walk_at "v2") => `(tactic| first
  | ((with_reducible refine' Mn.w_lenL ?h ?_); (case h => walk_at "sq"))
  | ((with_reducible refine' Mn.w_lenT ?h ?_); (case h => walk_at "st"))
  | ((with_reducible refine' Mn.w_lenS ?h ?_); (case h => walk_at "sz"))
  | ((with_reducible refine' Mn.w_addS ?h ?_); (case h => walk_at "sz"))
  | with_reducible refine Mn.w_intB ?_
  | with_reducible refine Mn.w_max ?_
  | with_reducible refine Mn.w_min ?_
  | with_reducible refine Mn.w_isN ?_
  | with_reducible refine Mn.w_notN ?_
  | with_reducible refine Mn.w_inS ?_
  | with_reducible refine Mn.w_ninS ?_
  | with_reducible refine Mn.w_bm ?_
  | with_reducible refine Mn.w_bm0 ?_
  | with_reducible refine Mn.w_tyS ?_
  | with_reducible refine Mn.w_tyI ?_
  | ((with_reducible refine' Mn.w_tyL ?h ?_); (case h => walk_at "sq"))
  | ((with_reducible refine' Mn.w_app ?h ?hs ?_); (case h => walk_at "hp"); (case hs => walk_at "sz"))
  | with_reducible refine Mn.w_lst ?_
  | with_reducible refine Mn.w_tup ?_
  | with_reducible refine Mn.w_sl ?_
  | with_reducible refine Mn.w_part ?_
  | with_reducible refine Mn.w_part1 ?_
  | with_reducible refine Mn.w_nopart ?_
  | with_reducible refine Mn.w_m1 ?_
  | with_reducible refine Mn.w_m0 ?_
  | with_reducible refine Mn.w_isS ?_
  | with_reducible refine Mn.w_fld ?_
  | ((with_reducible refine' Mn.w_fld1 ?h ?c ?n ?l ?_); (case h => walk_at "hp"); (case c => walk_at "cls"); (case n => walk_at "noattr"); (case l => rfl))
  | ((with_reducible refine' Mn.w_sfld1 ?h ?c ?n ?l ?_); (case h => walk_at "hp"); (case c => walk_at "cls"); (case n => walk_at "noattr"); (case l => exact Mn.ltb rfl))
  | with_reducible refine Mn.w_ma ?_
  | with_reducible refine Mn.w_isBl ?_
  | ((with_reducible refine' Mn.w_aug ?h ?_); (case h => rfl))
  | with_reducible refine Mn.w_ipI ?_
  | with_reducible refine Mn.w_sub ?_
  | with_reducible refine Mn.w_sfld ?_
  | with_reducible refine Mn.w_for ?_
  | with_reducible refine Mn.w_iList ?_
  | with_reducible refine Mn.w_iRng ?_
  | with_reducible refine Mn.w_lc ?_
  | with_reducible refine Mn.w_yes ?_
  | ((with_reducible refine' Mn.w_wip ?h ?_); (case h => rfl))
  | ((with_reducible refine' Mn.w_eqLI ?h1 ?h2 ?_); (case h1 => walk_at "sq"); (case h2 => walk_at "sq"))
  | ((with_reducible refine' Mn.w_neLI ?h1 ?h2 ?_); (case h1 => walk_at "sq"); (case h2 => walk_at "sq"))
  | with_reducible refine L2.iteT ?_
  | with_reducible refine L2.iteF ?_
  | ((with_reducible refine' Mn.w_I ?c ?_); (case c => first | (show (0 : Int) < _; decide) | exact ⟨by decide, by decide⟩ | exact ⟨by decide, by decide, by decide⟩)))
local macro_rules | `(tactic| walk_at "v1") => `(tactic| first
  | ((with_reducible refine' Mn.w_var ?hv ?_); (case hv => rfl))
  | with_reducible refine Mn.w_c ?_
  | with_reducible refine Mn.w_seq ?_
  | with_reducible refine Mn.w_asg ?_
  | ((with_reducible refine' Mn.w_name2 ?hn ?_); (case hn => first | (simp only [L2.start, L2.wipe, List.map_cons, List.map_nil, List.length_cons, List.length_nil, List.replicate_succ, List.replicate_zero, List.cons_append, List.nil_append, List.set_cons_succ, List.set_cons_zero, Nat.reduceSub, Nat.reduceAdd]; exact rfl) | exact rfl))
  | with_reducible refine Mn.w_op ?_
  | with_reducible refine Mn.w_I0 ?_
  | with_reducible refine Mn.w_cons ?_
  | with_reducible refine Mn.w_nil ?_
  | with_reducible refine Mn.w_cb ?_
  | with_reducible refine Mn.w_if ?_
  | with_reducible refine Mn.w_test ?_
  | with_reducible refine Mn.w_bl ?_
  | ((with_reducible refine' Mn.w_eq ?hs ?_); (case hs => rfl))
  | ((with_reducible refine' Mn.w_ne ?hs ?_); (case hs => rfl))
  | with_reducible refine Mn.w_drop ?_
  | with_reducible refine Mn.w_ret ?_
  | with_reducible refine Mn.w_and ?_
  | with_reducible refine Mn.w_or ?_
  | with_reducible refine Mn.w_not ?_
  | with_reducible refine Mn.w_B ?_
  | with_reducible refine Mn.w_un ?_
  | with_reducible refine Mn.w_U ?_
  | with_reducible refine Mn.w_andV ?_
  | with_reducible refine Mn.w_orV ?_
  | with_reducible refine Mn.w_notV ?_
  | with_reducible refine Mn.w_chain ?_
  | with_reducible refine Mn.w_next ?_
  | with_reducible refine Mn.w_retN ?_
  | with_reducible refine Mn.w_cont ?_
  | with_reducible refine Mn.w_nx ?_
  | with_reducible refine Mn.w_rt ?_
  | with_reducible refine Mn.w_ct ?_
  | with_reducible refine Mn.w_bk ?_)
local macro_rules | `(tactic| walk_at "if") => `(tactic| first
  | (refine' Mn.w_ite ?_ ?_ <;> (intro c))
  | (refine' Mn.w_iteN ?_ ?_ <;> (intro c))
  | (refine' Mn.w_iteB ?_ ?_ <;> (intro c)))
local macro_rules | `(tactic| walk_at "rd") => `(tactic| repeat (first | walk_at "v1" | walk_at "v2"))

namespace Mn
open PySem L2 TL
section
variable {P : Program} {w : World} {K : PySem.W.Frag} {mg : Str → Option Value} {base : Heap}
/-- number_in: the number told, within the bound; else NoNumber (its class at CN) -/
def spNum (CN : Addr) : Sp := fun vs H Q E => ∃ (x : Str) (most : Int), vs = [.str x, .int most] ∧ x.length ≤ 640 ∧ (∀ v, numOf x = some v → v ≤ most → Q (.int v) H) ∧ ((∀ v, numOf x = some v → ¬ v ≤ most) → E (.ref CN) none H)
theorem ok_number {CN f : Addr} {fd : FuncData} (F : FunS K "number_in" "number_in" s_number_in [.int 1000000] f fd) (T : Bt mg) (e_NoNumber : ErrK K mg "NoNumber" CN) : FnOk P w K mg base (CXN P w) 1 f fd ["text", "most"] (spNum CN) := by
  refine F.ok sc_number_in (fun vs H Q E h => ?_) (fun cdv A outer s H vs Q E hr h => ?_)
  · obtain ⟨x, most, rfl, _⟩ := h
    rfl
  obtain ⟨x, most, rfl, hl, q, qe⟩ := h
  have hz := PySem.sizeLine_eq
  refine ⟨_, (pss_cons (ps_if (PW.pt (pw_or (pt_cmpR op_eq (pv 0) pe_str (nomark _)) (pw_or (pt_cmpR op_ne (kBm (K := K) rfl PySem.F.plainAttrs_str PySem.F.slot_str_strip PySem.F.type_str_strip mt_stripChars (pv 0) (pa_cons pe_str pa_nil)) pe_str (nomark _)) (pw_or1 (PW.pt (pw_and (pt_cmpR op_gt (pe_callB call_lenS (by rfl) T.len (by decide +kernel) (pa_cons (pv 0) pa_nil)) pe_int (nomark _)) (pw_and1 (pt_val (pe_m1 PySem.F.slot_str_startswith PySem.F.type_str_startswith mt_startswith (pv 0) pe_str))))))))) (pss_one (L2N.ps_raise rfl (L2N.takes_of rfl rfl rfl rfl) (L2N.pmk_own PySem.F.excBase_ValueError e_NoNumber.xf e_NoNumber.g e_NoNumber.k (raises_own e_NoNumber.b e_NoNumber.t) rfl))) pss_nil)
    (pss_cons (ps_try_thru (pss_one (ps_set (i := 2) sc_number_in.nd rfl (Or.inl rfl) (pe_callTy call_intS (by rfl) T.int (by decide +kernel) (pa_cons (pv 0) pa_nil)))) (pss_one (ps_if (pt_cmpR op_gt (pv 2) (pv 1) (nomark _)) (pss_one (L2N.ps_raise rfl (L2N.takes_of rfl rfl rfl rfl) (L2N.pmk_own PySem.F.excBase_ValueError e_NoNumber.xf e_NoNumber.g e_NoNumber.k (raises_own e_NoNumber.b e_NoNumber.t) rfl))) pss_nil)))
    (pss_one (ps_ret (pv 2))))), ?_⟩
  walk_at "rd"
  have no : numOk (tl x) = false → E (.ref CN) none H := fun h => qe fun v e => by rw [numOf_none h] at e; cases e
  walk_at "if"
  · rename_i c
    walk_at "rd"
    refine no ?_
    rw [V.str.inj c]
    rfl
  rename_i c
  have c : tl x ≠ [] := fun e => c (congrArg V.str (eq_nil_tl.mpr e))
  walk_at "rd"
  refine ⟨x, _, rfl, rfl, by omega, ?_⟩
  walk_at "rd"
  walk_at "if"
  · rename_i c2
    walk_at "rd"
    refine no ?_
    have f : figs (tl x) = false := Bool.eq_false_iff.mpr fun f => by
      have c3 := c2
      rw [strip_figs.mpr f] at c3
      exact c3 rfl
    unfold numOk
    rw [f, Bool.and_false, Bool.false_and]
  rename_i c2
  have f : figs (tl x) = true := strip_figs.mp (V.str.inj c2)
  have lx : x.length = (tl x).length := len_tl x
  -- the number told
  have fin : numOk (tl x) = true → (∀ v, (numOf x = some v) ↔ v = ((NumText.digitsVal (tl x) : Nat) : Int)) := fun h v => by
    unfold numOf
    rw [if_pos h]
    exact ⟨fun e => (Option.some.inj e).symm, fun e => congrArg some e.symm⟩
  have hi := intText_figs f c hl
  generalize ((NumText.digitsVal (tl x) : Nat) : Int) = n at fin hi
  walk_at "rd"
  walk_at "if"
  all_goals rename_i c3
  all_goals walk_at "rd"
  · refine ⟨x, _, rfl, rfl, ?_⟩
    have es : Txt.startswith x "0" = decide ((tl x).head? = some 48) := starts_one x 48
    rw [es]
    walk_at "rd"
    walk_at "if"
    all_goals rename_i c4
    all_goals walk_at "rd"
    · refine no ?_
      unfold numOk
      rw [c4, f, decide_eq_true (show 1 < (tl x).length by omega), decide_eq_true c]
      rfl
    have ok : numOk (tl x) = true := by
      unfold numOk
      rw [f, decide_eq_true c, decide_eq_false c4, Bool.and_false]
      rfl
    refine w_thru ?_
    walk_at "rd"
    refine ⟨x, n, rfl, hi, hl, ?_⟩
    walk_at "rd"
    walk_at "if"
    all_goals rename_i c5
    all_goals walk_at "rd"
    · exact qe fun v e => by rw [(fin ok v).mp e]; omega
    · exact q n ((fin ok n).mpr rfl) (by omega)
  · have ok : numOk (tl x) = true := by
      unfold numOk
      rw [f, decide_eq_true c, decide_eq_false (show ¬ 1 < (tl x).length by omega), Bool.false_and]
      rfl
    refine w_thru ?_
    walk_at "rd"
    refine ⟨x, n, rfl, hi, hl, ?_⟩
    walk_at "rd"
    walk_at "if"
    all_goals rename_i c5
    all_goals walk_at "rd"
    · exact qe fun v e => by rw [(fin ok v).mp e]; omega
    · exact q n ((fin ok n).mpr rfl) (by omega)
end
end Mn

namespace Mn
open PySem L2
section
variable {P : Program} {w : World} {K : PySem.W.Frag} {mg : Str → Option Value} {base : Heap}
def cellAt (ns : List Int) (k : Nat) : Int := ns.getD k 0
def spCell (K : PySem.W.Frag) : Sp := fun vs H Q _ => ∃ (a : Addr) (ns : List Int) (k : Nat), vs = [.ref a, .int (k : Int)] ∧ SqL K H a (ns.map V.int) ∧ ns.length ≤ 1000 ∧ Q (.int (cellAt ns k)) H
theorem ok_cell {f : Addr} {fd : FuncData} (F : Fun K "_law_cell_at" "_law_cell_at" s_law_cell_at f fd) (T : Bt mg) : FnOk P w K mg base CX0 1 f fd ["_law_script", "_law_k"] (spCell K) := by
  refine F.ok sc_law_cell_at (fun vs H Q E h => ?_) (fun cdv A outer s H vs Q E hr h => ?_)
  · obtain ⟨a, ns, k, rfl, _⟩ := h
    rfl
  obtain ⟨a, ns, k, rfl, hS, h1, q⟩ := h
  unfold cellAt at q
  refine ⟨_, (pss_cons (ps_if (pt_cmpR op_lt (pv 1) (pe_callB (kLenL (K := K) rfl) (by rfl) T.len (by decide +kernel) (pa_cons (pv 0) pa_nil)) (nomark _)) (pss_one (ps_ret (pe_ix (kIxL (K := K) rfl) (pv 0) (pv 1) (fun _ _ => rfl)))) pss_nil)
    (pss_one (ps_ret pe_int))), ?_⟩
  walk_at "rd"
  walk_at "if"
  all_goals rename_i c
  all_goals rw [List.length_map] at c
  all_goals walk_at "rd"
  · have e := at_ints (ns := ns) (k := (k : Int)) (by omega) c
    rw [Int.toNat_natCast] at e
    exact w_ixL hS e q
  · have e : ns.getD k 0 = 0 := by simp [List.getD, List.getElem?_eq_none (show ns.length ≤ k by omega)]
    rw [e] at q
    exact q
end
end Mn

namespace Mn
open PySem L2 TL
/-! ### the texts that are handed in -/
theorem numL_head (n : Nat) (h : 0 < n) : (numL n).head? ≠ some 48 := by
  induction n using Nat.strongRecOn with
  | _ n ih =>
    by_cases h9 : n < 10
    · rw [numL_lt h9]
      intro e
      have := Option.some.inj e
      omega
    · rw [numL_step (by omega)]
      have i := ih (n / 10) (by omega) (by omega)
      have ne := numL_ne (n / 10)
      cases hc : numL (n / 10) with
      | nil => exact absurd hc ne
      | cons a r =>
        rw [hc] at i
        exact i
theorem numOk_numL (n : Nat) : numOk (numL n) = true := by
  unfold numOk
  rw [decide_eq_true (numL_ne n), figs_iff.mpr (numL_digits n)]
  by_cases h : n = 0
  · subst h
    rw [numL_lt (by decide)]
    rfl
  · rw [decide_eq_false (numL_head n (by omega)), Bool.and_false]
    rfl
theorem numOf_str (n : Nat) : numOf (Str.ofString (toString ((n : Nat) : Int))) = some (n : Int) := by
  unfold numOf
  rw [tl_num, if_pos (numOk_numL n), numL_val]
theorem numOf_sign {x : Str} {c : Nat} (h : c ∈ tl x) (hc : ¬ (48 ≤ c ∧ c ≤ 57)) : numOf x = none := by
  refine numOf_none ?_
  have f : figs (tl x) = false := Bool.eq_false_iff.mpr fun f => hc (figs_iff.mp f c h)
  unfold numOk
  rw [f, Bool.and_false, Bool.false_and]
theorem smol_big {i : Int} (h : i.natAbs < 2 ^ 1900) : Smol i := by
  unfold Smol
  by_cases h0 : i.natAbs = 0
  · rw [h0]; decide
  · have := (Nat.log2_lt h0).mpr h
    omega
theorem len_str {n : Nat} (h : n < 10 ^ 40) : (Str.ofString (toString ((n : Nat) : Int))).length ≤ 40 := by
  rw [len_tl, tl_num]
  exact numL_len (by decide) h
section
variable {P : Program} {w : World} {K : PySem.W.Frag} {mg : Str → Option Value} {base : Heap}
def textOk (t : Str) (value way : Int) : Prop := t.length ≤ 640 ∧ (way ≠ 1 → way ≠ 2 → way ≠ 3 → way ≠ 4 → numOf t = some value) ∧ (way = 1 ∨ way = 2 ∨ way = 3 → numOf t = none) ∧ (way = 4 → (t = "0" ∧ numOf t = some 0) ∨ (t ≠ "0" ∧ numOf t = none))
def spText : Sp := fun vs H Q _ => ∃ (n : Nat) (way cell : Int), vs = [.int (n : Int), .int way, .int cell] ∧ n < 10 ^ 40 ∧ ∀ t, textOk t n way → Q (.str t) H
theorem sign7 (i : Int) (h0 : 0 ≤ i) (h7 : i < 7) : ∃ c, atI ("a b+_-." : Str).cps.toList i = some c ∧ ¬ (48 ≤ c ∧ c ≤ 57) := by
  have : i = 0 ∨ i = 1 ∨ i = 2 ∨ i = 3 ∨ i = 4 ∨ i = 5 ∨ i = 6 := by omega
  rcases this with rfl | rfl | rfl | rfl | rfl | rfl | rfl
  · exact ⟨97, rfl, by decide⟩
  · exact ⟨32, rfl, by decide⟩
  · exact ⟨98, rfl, by decide⟩
  · exact ⟨43, rfl, by decide⟩
  · exact ⟨95, rfl, by decide⟩
  · exact ⟨45, rfl, by decide⟩
  · exact ⟨46, rfl, by decide⟩
theorem noughts (i : Int) (h0 : 0 ≤ i) (h7 : i < 7) (n : Int) : textOk (cutS "000000" none (some i)) n 4 := by
  have : i = 0 ∨ i = 1 ∨ i = 2 ∨ i = 3 ∨ i = 4 ∨ i = 5 ∨ i = 6 := by omega
  refine ⟨Nat.le_trans (cutS_length _ _ _) (by show 6 ≤ 640; decide), fun _ _ _ h => absurd rfl h, fun h => ?_, fun _ => ?_⟩
  · rcases h with h | h | h <;> cases h
  rcases this with rfl | rfl | rfl | rfl | rfl | rfl | rfl
  · exact .inr ⟨by decide +kernel, by decide +kernel⟩
  · exact .inl ⟨by decide +kernel, by decide +kernel⟩
  · exact .inr ⟨by decide +kernel, by decide +kernel⟩
  · exact .inr ⟨by decide +kernel, by decide +kernel⟩
  · exact .inr ⟨by decide +kernel, by decide +kernel⟩
  · exact .inr ⟨by decide +kernel, by decide +kernel⟩
  · exact .inr ⟨by decide +kernel, by decide +kernel⟩
theorem ok_text {f : Addr} {fd : FuncData} (F : Fun K "_law_text" "_law_text" s_law_text f fd) (T : Bt mg) : FnOk P w K mg base CX0 1 f fd ["_law_value", "_law_way", "_law_cell"] spText := by
  refine F.ok sc_law_text (fun vs H Q E h => ?_) (fun cdv A outer s H vs Q E hr h => ?_)
  · obtain ⟨n, way, cell, rfl, _⟩ := h
    rfl
  obtain ⟨n, way, cell, rfl, hn, q⟩ := h
  refine ⟨_, (pss_cons (ps_set (i := 3) sc_law_text.nd rfl (Or.inl rfl) (pe_callTy call_strI (by rfl) T.str (by decide +kernel) (pa_cons (pv 0) pa_nil)))
    (pss_cons (ps_if (pt_cmpR op_eq (pv 1) pe_int (nomark _)) (pss_one (ps_ret (pe_op op_addS pe_str (pv 3)))) pss_nil)
    (pss_cons (ps_if (pt_cmpR op_eq (pv 1) pe_int (nomark _)) (pss_one (ps_ret pe_str)) pss_nil)
    (pss_cons (ps_if (pt_cmpR op_eq (pv 1) pe_int (nomark _)) (pss_cons (ps_set (i := 4) sc_law_text.nd rfl (Or.inl rfl) (pe_op op_mod (pv 2) (pe_op op_add (pe_callB call_lenS (by rfl) T.len (by decide +kernel) (pa_cons (pv 3) pa_nil)) pe_int)))
    (pss_one (ps_ret (pe_op op_addS (pe_op op_addS (pe_slice sl_str (pv 3) po_none (po_some (pv 4))) (pe_ix ix_str pe_str (pe_op op_mod (pe_op op_fdiv (pv 2) pe_int) pe_int) (fun _ _ => rfl))) (pe_slice sl_str (pv 3) (po_some (pv 4)) po_none))))) pss_nil)
    (pss_cons (ps_if (pt_cmpR op_eq (pv 1) pe_int (nomark _)) (pss_one (ps_ret (pe_slice sl_str pe_str po_none (po_some (pe_op op_mod (pv 2) pe_int))))) pss_nil)
    (pss_one (ps_ret (pv 3)))))))), ?_⟩
  have hsz := PySem.sizeLine_eq
  have ls := len_str hn
  have ns := numOf_str n
  have ts : tl (Str.ofString (toString ((n : Nat) : Int))) = numL n := tl_num n
  walk_at "rd"
  refine w_strI (smol_big (by show n < _; exact Nat.lt_trans hn (by decide +kernel))) ?_
  generalize Str.ofString (toString ((n : Nat) : Int)) = x at ls ns ts
  walk_at "rd"
  walk_at "if"
  · rename_i c
    have c := V.int.inj c
    subst c
    walk_at "rd"
    refine w_addS (by show 1 + _ ≤ _; omega) ?_
    refine q _ ⟨?_, fun h => absurd rfl h, fun _ => numOf_none ?_, fun h => by cases h⟩
    · rw [len_tl, tl_append, List.length_append, ← len_tl x]
      show 1 + _ ≤ _
      omega
    · rw [tl_append]
      have e : tl (Str.ofString "0") = [48] := rfl
      rw [e]
      show numOk (48 :: tl x) = false
      unfold numOk
      have : 1 < (48 :: tl x).length := by
        rw [ts, List.length_cons]
        have := List.length_pos_iff.mpr (numL_ne n)
        omega
      rw [decide_eq_true this, decide_eq_true (show (48 :: tl x).head? = some 48 from rfl)]
      simp
  rename_i c1
  walk_at "rd"
  walk_at "if"
  · rename_i c
    have c := V.int.inj c
    subst c
    walk_at "rd"
    refine q _ ⟨by show 0 ≤ 640; decide, fun _ h => absurd rfl h, fun _ => numOf_none (by decide +kernel), fun h => by cases h⟩
  rename_i c2
  walk_at "rd"
  walk_at "if"
  · rename_i c
    have c := V.int.inj c
    subst c
    walk_at "rd"
    refine w_I (show (0 : Int) < (x.length : Int) + 1 by omega) ?_
    walk_at "rd"
    generalize cell % ((x.length : Int) + 1) = at_
    refine w_slS (by omega) ?_
    walk_at "rd"
    obtain ⟨c, ec, hc⟩ := sign7 (cell / 41 % 7) (Int.emod_nonneg _ (by decide)) (Int.emod_lt_of_pos _ (by decide))
    refine w_ixS (by show 7 ≤ _; omega) ec ?_
    have l1 := cutS_length x none (some at_)
    have l2 := cutS_length x (some at_) none
    generalize cutS x none (some at_) = y1 at l1
    walk_at "rd"
    refine w_addS (by show y1.length + 1 ≤ _; omega) ?_
    walk_at "rd"
    refine w_slS (by omega) ?_
    generalize cutS x (some at_) none = y2 at l2
    have l3 : (y1 ++ (⟨#[c]⟩ : Str)).length = y1.length + 1 := by rw [len_tl, tl_append, List.length_append, ← len_tl y1]; rfl
    refine w_addS (by omega) ?_
    refine q _ ⟨?_, fun _ _ h => absurd rfl h, fun _ => numOf_sign (c := c) ?_ hc, fun h => by cases h⟩
    · rw [len_tl, tl_append, List.length_append, ← len_tl, ← len_tl, l3]
      omega
    · rw [tl_append, tl_append]
      exact List.mem_append_left _ (List.mem_append_right _ List.mem_cons_self)
  rename_i c3
  walk_at "rd"
  walk_at "if"
  · rename_i c
    have c := V.int.inj c
    subst c
    walk_at "rd"
    refine w_slS (by show 6 ≤ _; omega) ?_
    exact q _ (noughts _ (Int.emod_nonneg _ (by decide)) (Int.emod_lt_of_pos _ (by decide)) _)
  rename_i c4
  walk_at "rd"
  exact q _ ⟨by omega, fun _ _ _ _ => ns, fun h => by
    rcases h with h | h | h
    · exact absurd (congrArg V.int h) c1
    · exact absurd (congrArg V.int h) c2
    · exact absurd (congrArg V.int h) c3, fun h => absurd (congrArg V.int h) c4⟩
/-! ### what was raised is NoNumber and none of the others -/
structure OnlyK (K : PySem.W.Frag) (mg : Str → Option Value) (CN : Addr) : Prop where
  ex : ExcC K CN
  ot : ∀ x : Str, x = "BadRow" ∨ x = "NoLeaf" ∨ x = "NoName" ∨ x = "NotOn" ∨ x = "NoTop" ∨ x = "TooMany" → ∃ C : Addr, mg x = some (.ref C) ∧ PySem.W.kitOne K (.ref CN) (.ref C) = some false
  me : mg "NoNumber" = some (.ref CN) ∧ PySem.W.kitOne K (.ref CN) (.ref CN) = some true
  ve : PySem.W.kitOne K (.ref CN) (.type "ValueError") = some true
def spOnly (CN : Addr) : Addr → Value → Option Addr → Sp := fun a c d vs H Q _ => c = .ref CN ∧ d = none ∧ vs = [.ref a] ∧ Q (.bl true) H
theorem ok_only {CN f : Addr} {fd : FuncData} (F : Fun K "_law_only" "_law_only" s_law_only f fd) (T : Bt mg) (N : OnlyK K mg CN) : FnE P w K mg base 1 f fd ["_law_error"] (spOnly CN) := by
  refine fnE_of F sc_law_only (fun a c d vs H Q E h => ?_) (fun cdv A outer s H vs Q E q c d hot hz hr h => ?_)
  · obtain ⟨_, _, rfl, _⟩ := h
    rfl
  obtain ⟨rfl, rfl, rfl, h⟩ := h
  have eC := N.ex
  have hzc := hz.zc
  have hvf := hot_fields hot
  obtain ⟨C1, m1, k1⟩ := N.ot "BadRow" (by decide)
  obtain ⟨C2, m2, k2⟩ := N.ot "NoLeaf" (by decide)
  obtain ⟨C3, m3, k3⟩ := N.ot "NoName" (by decide)
  obtain ⟨C4, m4, k4⟩ := N.ot "NotOn" (by decide)
  obtain ⟨C5, m5, k5⟩ := N.ot "NoTop" (by decide)
  obtain ⟨C6, m6, k6⟩ := N.ot "TooMany" (by decide)
  refine ⟨_, (pss_cons (ps_set (i := 1) sc_law_only.nd rfl (Or.inl rfl) (pe_or (pe_callB (kIsP (K := K) (q := q) rfl List.mem_cons_self eC hzc hvf) (by rfl) T.isinstance (by decide +kernel) (pa_cons (pv 0) (pa_cons (pe_gv (mg := mg) rfl rfl) pa_nil))) (pe_or (pe_callB (kIsP (K := K) (q := q) rfl List.mem_cons_self eC hzc hvf) (by rfl) T.isinstance (by decide +kernel) (pa_cons (pv 0) (pa_cons (pe_gv (mg := mg) rfl rfl) pa_nil))) (pe_one (pe_callB (kIsP (K := K) (q := q) rfl List.mem_cons_self eC hzc hvf) (by rfl) T.isinstance (by decide +kernel) (pa_cons (pv 0) (pa_cons (pe_gv (mg := mg) rfl rfl) pa_nil)))))))
    (pss_cons (ps_set (i := 1) sc_law_only.nd rfl (Or.inl rfl) (pe_or (pv 1) (pe_or (pe_callB (kIsP (K := K) (q := q) rfl List.mem_cons_self eC hzc hvf) (by rfl) T.isinstance (by decide +kernel) (pa_cons (pv 0) (pa_cons (pe_gv (mg := mg) rfl rfl) pa_nil))) (pe_or (pe_callB (kIsP (K := K) (q := q) rfl List.mem_cons_self eC hzc hvf) (by rfl) T.isinstance (by decide +kernel) (pa_cons (pv 0) (pa_cons (pe_gv (mg := mg) rfl rfl) pa_nil))) (pe_one (pe_callB (kIsP (K := K) (q := q) rfl List.mem_cons_self eC hzc hvf) (by rfl) T.isinstance (by decide +kernel) (pa_cons (pv 0) (pa_cons (pe_gv (mg := mg) rfl rfl) pa_nil))))))))
    (pss_one (ps_ret (pe_and (pe_callB (kIsP (K := K) (q := q) rfl List.mem_cons_self eC hzc hvf) (by rfl) T.isinstance (by decide +kernel) (pa_cons (pv 0) (pa_cons (pe_gv (mg := mg) rfl rfl) pa_nil))) (pe_and (pe_callB (kIsP (K := K) (q := q) rfl List.mem_cons_self eC hzc hvf) (by rfl) T.isinstance (by decide +kernel) (pa_cons (pv 0) (pa_cons (pe_bltn (v := .ty "ValueError") (u := .type "ValueError") rfl T.ValueError (by decide +kernel) rfl) pa_nil))) (pe_one (pe_not (pv 1))))))))), ?_⟩
  walk_at "rd"
  refine w_gv (v := .ref C1) m1 rfl ?_
  walk_at "rd"
  refine w_isE (fun u h => h) k1 ?_
  walk_at "rd"
  refine w_gv (v := .ref C2) m2 rfl ?_
  walk_at "rd"
  refine w_isE (fun u h => h) k2 ?_
  walk_at "rd"
  refine w_gv (v := .ref C3) m3 rfl ?_
  walk_at "rd"
  refine w_isE (fun u h => h) k3 ?_
  walk_at "rd"
  refine w_gv (v := .ref C4) m4 rfl ?_
  walk_at "rd"
  refine w_isE (fun u h => h) k4 ?_
  walk_at "rd"
  refine w_gv (v := .ref C5) m5 rfl ?_
  walk_at "rd"
  refine w_isE (fun u h => h) k5 ?_
  walk_at "rd"
  refine w_gv (v := .ref C6) m6 rfl ?_
  walk_at "rd"
  refine w_isE (fun u h => h) k6 ?_
  walk_at "rd"
  refine w_gv (v := .ref CN) N.me.1 rfl ?_
  walk_at "rd"
  refine w_isE (fun u h => h) N.me.2 ?_
  walk_at "rd"
  refine w_isE (fun u h => h) N.ve ?_
  walk_at "rd"
  exact h
end
end Mn

namespace Mn
open PySem L2 TL
section
variable {P : Program} {w : World} {K : PySem.W.Frag} {mg : Str → Option Value} {base : Heap}
def spLaw (K : PySem.W.Frag) : Sp := fun vs H Q _ => ∃ (a : Addr) (ns : List Int), vs = [.ref a] ∧ SqL K H a (ns.map V.int) ∧ ns.length ≤ 63 ∧ ∀ H', Q (.bl true) H'
theorem ok_law {CN CM f : Addr} {fd : FuncData} (F : Fun K "law" "law" s_law f fd) (T : Bt mg) (C0 : Cal P w K mg base CX0 "_law_cell_at" 1 ["_law_script", "_law_k"] [] (spCell K)) (CT : Cal P w K mg base CX0 "_law_text" 1 ["_law_value", "_law_way", "_law_cell"] [] spText)
    (CN1 : Cal P w K mg base (CXN P w) "number_in" 1 ["text", "most"] [.int 1000000] (spNum CN)) (CN2 : Cal P w K mg base (CXN P w) "number_in" 1 ["text", "most"] [] (spNum CN)) (CO : CalE P w K mg base "_law_only" 1 ["_law_error"] (spOnly CN))
    (e_MinderError : NamK K mg "MinderError" CM) (eM : PySem.W.exmOne K (.ref CN) (.ref CM) = some true) :
    FnOk P w K mg base CX0 3 f fd ["_law_script"] (spLaw K) := by
  refine F.ok sc_law (fun vs H Q E h => ?_) (fun cdv A outer s H vs Q E hr h => ?_)
  · obtain ⟨a, ns, rfl, _⟩ := h
    rfl
  obtain ⟨a, ns, rfl, hS, hz, q⟩ := h
  refine ⟨_, (pss_cons (ps_set (i := 1) sc_law.nd rfl (Or.inl rfl) (pe_op op_mod (pe_ca (P := P) (w := w) (K := K) (mg := mg) (base := base) ⟨rfl, rfl, rfl, rfl, rfl⟩ hr rfl (pa_cons (pv 0) (pa_cons pe_int pa_nil))) pe_int))
    (pss_cons (ps_set (i := 2) sc_law.nd rfl (Or.inl rfl) (pe_op op_mod (pe_ca (P := P) (w := w) (K := K) (mg := mg) (base := base) ⟨rfl, rfl, rfl, rfl, rfl⟩ hr rfl (pa_cons (pv 0) (pa_cons pe_int pa_nil))) pe_int))
    (C8.pss_cut (ps_if (pt_cmpR op_eq (pe_op op_mod (pe_op op_fdiv (pe_ca (P := P) (w := w) (K := K) (mg := mg) (base := base) ⟨rfl, rfl, rfl, rfl, rfl⟩ hr rfl (pa_cons (pv 0) (pa_cons pe_int pa_nil))) pe_int) pe_int) pe_int (nomark _)) (pss_one (ps_set (i := 2) sc_law.nd rfl (Or.inl rfl) (pe_op op_mod (pe_ca (P := P) (w := w) (K := K) (mg := mg) (base := base) ⟨rfl, rfl, rfl, rfl, rfl⟩ hr rfl (pa_cons (pv 0) (pa_cons pe_int pa_nil))) (pe_op op_pow pe_int pe_int)))) pss_nil)
    (C8.pss_cut (ps_if (pt_cmpR op_eq (pe_op op_mod (pe_op op_fdiv (pe_ca (P := P) (w := w) (K := K) (mg := mg) (base := base) ⟨rfl, rfl, rfl, rfl, rfl⟩ hr rfl (pa_cons (pv 0) (pa_cons pe_int pa_nil))) pe_int) pe_int) pe_int (nomark _)) (pss_one (ps_set (i := 2) sc_law.nd rfl (Or.inl rfl) (pe_op op_mod (pe_ca (P := P) (w := w) (K := K) (mg := mg) (base := base) ⟨rfl, rfl, rfl, rfl, rfl⟩ hr rfl (pa_cons (pv 0) (pa_cons pe_int pa_nil))) pe_int))) pss_nil)
    (C8.pss_cut (ps_if (pt_cmpR op_eq (pe_op op_mod (pe_op op_fdiv (pe_ca (P := P) (w := w) (K := K) (mg := mg) (base := base) ⟨rfl, rfl, rfl, rfl, rfl⟩ hr rfl (pa_cons (pv 0) (pa_cons pe_int pa_nil))) pe_int) pe_int) pe_int (nomark _)) (pss_one (ps_set (i := 2) sc_law.nd rfl (Or.inl rfl) (pe_op op_add pe_int (pe_op op_mod (pe_ca (P := P) (w := w) (K := K) (mg := mg) (base := base) ⟨rfl, rfl, rfl, rfl, rfl⟩ hr rfl (pa_cons (pv 0) (pa_cons pe_int pa_nil))) pe_int)))) pss_nil)
    (pss_cons (ps_set (i := 3) sc_law.nd rfl (Or.inl rfl) (pe_op op_mod (pe_ca (P := P) (w := w) (K := K) (mg := mg) (base := base) ⟨rfl, rfl, rfl, rfl, rfl⟩ hr rfl (pa_cons (pv 0) (pa_cons pe_int pa_nil))) pe_int))
    (C8.pss_cut (ps_if (pt_cmpR op_eq (pe_op op_mod (pe_op op_fdiv (pe_ca (P := P) (w := w) (K := K) (mg := mg) (base := base) ⟨rfl, rfl, rfl, rfl, rfl⟩ hr rfl (pa_cons (pv 0) (pa_cons pe_int pa_nil))) pe_int) pe_int) pe_int (nomark _)) (pss_one (ps_set (i := 3) sc_law.nd rfl (Or.inl rfl) (pe_op op_mod (pv 2) pe_int))) pss_nil)
    (pss_cons (ps_set (i := 4) sc_law.nd rfl (Or.inl rfl) (pe_ca (P := P) (w := w) (K := K) (mg := mg) (base := base) ⟨rfl, rfl, rfl, rfl, rfl⟩ hr rfl (pa_cons (pv 2) (pa_cons (pv 1) (pa_cons (pe_ca (P := P) (w := w) (K := K) (mg := mg) (base := base) ⟨rfl, rfl, rfl, rfl, rfl⟩ hr rfl (pa_cons (pv 0) (pa_cons pe_int pa_nil))) pa_nil)))))
    (C8.pss_cut (ps_set (i := 5) sc_law.nd rfl (Or.inl rfl) (pe_and (pe_cmpR (kNotIn (K := K) rfl) (pv 1) (pe_tup (pa_cons pe_int (pa_cons pe_int (pa_cons pe_int pa_nil)))) rfl) (pe_one (pe_cmpR op_le (pv 2) (pv 3) (nomark _)))))
    (C8.pss_cut (ps_if (pt_cmpR op_eq (pv 1) pe_int (nomark _)) (pss_cons (ps_set (i := 5) sc_law.nd rfl (Or.inl rfl) (pe_cmpR op_eq (pv 4) pe_str (nomark _)))
    (pss_one (ps_set (i := 2) sc_law.nd rfl (Or.inl rfl) pe_int))) pss_nil)
    (C8.pss_cut (ps_if (pt_cmpR op_eq (pe_op op_mod (pe_ca (P := P) (w := w) (K := K) (mg := mg) (base := base) ⟨rfl, rfl, rfl, rfl, rfl⟩ hr rfl (pa_cons (pv 0) (pa_cons pe_int pa_nil))) pe_int) pe_int (nomark _)) (pss_cons (ps_set (i := 3) sc_law.nd rfl (Or.inl rfl) pe_int)
    (pss_one (ps_if (pt_cmpR (kIn (K := K) rfl) (pv 1) (pe_tup (pa_cons pe_int (pa_cons pe_int (pa_cons pe_int (pa_cons pe_int pa_nil))))) rfl) (pss_one (ps_set (i := 5) sc_law.nd rfl (Or.inl rfl) (pe_cmpR op_le (pv 2) (pv 3) (nomark _)))) pss_nil))) pss_nil)
    (pss_cons (L2N.ps_try_as (i := 6) (Wout := fun _ _ _ _ => False) rfl rfl sc_law.nd rfl rfl ⟨rfl, by decide, Or.inl e_MinderError.g⟩ takesN0 (fun W pn xe tk _ => by exact (pss_one (ps_if (pt_cmpR op_eq (pe_op op_mod (pe_ca (P := P) (w := w) (K := K) (mg := mg) (base := base) ⟨rfl, rfl, rfl, rfl, rfl⟩ hr rfl (pa_cons (pv 0) (pa_cons pe_int pa_nil))) pe_int) pe_int (nomark _)) (pss_one (ps_set (i := 7) sc_law.nd rfl (Or.inl rfl) (pe_cae (P := P) (w := w) (K := K) (mg := mg) (base := base) ⟨rfl, rfl, rfl, rfl, rfl⟩ hr rfl tk (pa_cons (pv 4) pa_nil)))) (pss_one (ps_set (i := 7) sc_law.nd rfl (Or.inl rfl) (pe_cae (P := P) (w := w) (K := K) (mg := mg) (base := base) ⟨rfl, rfl, rfl, rfl, rfl⟩ hr rfl tk (pa_cons (pv 4) (pa_cons (pv 3) pa_nil)))))))) (fun a oe cls d pn hz hv => by exact (pss_one (ps_ret (pe_and (pe_not (pv 5)) (pe_one (pe_cas (P := P) (w := w) (K := K) (mg := mg) (base := base) ⟨rfl, rfl, rfl, rfl, rfl⟩ (roomH_mark hr) hz (hot_mark hz hv) List.mem_cons_self rfl (pa_cons (pv 6) pa_nil))))))))
    (pss_one (ps_ret (pe_and (pv 5) (pe_and (pe_callB (kIsi (K := K) rfl) (by rfl) T.isinstance (by decide +kernel) (pa_cons (pv 7) (pa_cons (pe_bltn (v := .ty "int") (u := .type "int") rfl T.int (by decide +kernel) rfl) pa_nil))) (pe_and (pe_not (pe_callB (kIsi (K := K) rfl) (by rfl) T.isinstance (by decide +kernel) (pa_cons (pv 7) (pa_cons (pe_bltn (v := .ty "bool") (u := .type "bool") rfl T.bool (by decide +kernel) rfl) pa_nil)))) (pe_one (pe_cmpR op_eq (pv 7) (pv 2) (nomark _)))))))))))))))))))), ?_⟩
  have hz2 : ns.length ≤ 1000 := by omega
  walk_at "rd"
  refine w_ca C0 (by decide) ?_
  walk_at "rd"
  refine ⟨a, ns, 0, rfl, hS, hz2, ?_⟩
  walk_at "rd"
  refine w_ca C0 (by decide) ?_
  walk_at "rd"
  refine ⟨a, ns, 1, rfl, hS, hz2, ?_⟩
  walk_at "rd"
  have w0 : 0 ≤ cellAt ns 0 % 8 := Int.emod_nonneg _ (by decide)
  have w8 : cellAt ns 0 % 8 < 8 := Int.emod_lt_of_pos _ (by decide)
  generalize cellAt ns 0 % 8 = way at w0 w8
  have nat_of : ∀ (i m : Int), 0 < m → m ≤ 10 ^ 40 → ∃ n : Nat, i % m = (n : Int) ∧ n < 10 ^ 40 := fun i m h1 h2 => by
    have a1 := Int.emod_nonneg i (show m ≠ 0 by omega)
    have a2 := Int.emod_lt_of_pos i h1
    have e : ((10 ^ 40 : Nat) : Int) = (10 : Int) ^ 40 := by decide +kernel
    exact ⟨(i % m).toNat, by omega, by omega⟩
  obtain ⟨n1, e1, hn1⟩ := nat_of (cellAt ns 1) 1000003 (by decide) (by decide +kernel)
  rw [e1]
  clear e1
  refine w_cut (fun σ H' => ∃ n : Nat, σ = [some (.ref a), some (.int way), some (.int (n : Int)), none, none, none, none, none] ∧ H = H' ∧ n < 10 ^ 40) ?_ (fun σ H' hm' => ?_)
  · walk_at "rd"
    refine w_ca C0 (by decide) ?_
    walk_at "rd"
    refine ⟨a, ns, 0, rfl, hS, hz2, ?_⟩
    walk_at "rd"
    walk_at "if"
    all_goals walk_at "rd"
    · refine w_ca C0 (by decide) ?_
      walk_at "rd"
      refine ⟨a, ns, 1, rfl, hS, hz2, ?_⟩
      walk_at "rd"
      obtain ⟨n1, e1, hn1⟩ := nat_of (cellAt ns 1) (10 ^ 40) (by decide +kernel) (Int.le_refl _)
      have e2 : cellAt ns 1 % 10 ^ Int.toNat 40 = (n1 : Int) := e1
      rw [e2]
      exact ⟨n1, rfl, rfl, hn1⟩
    · exact ⟨n1, rfl, rfl, hn1⟩
  obtain ⟨n2, rfl, rfl, hn2⟩ := hm'
  clear hn1 n1
  refine w_cut (fun σ H' => ∃ n : Nat, σ = [some (.ref a), some (.int way), some (.int (n : Int)), none, none, none, none, none] ∧ H = H' ∧ n < 10 ^ 40) ?_ (fun σ H' hm' => ?_)
  · walk_at "rd"
    refine w_ca C0 (by decide) ?_
    walk_at "rd"
    refine ⟨a, ns, 0, rfl, hS, hz2, ?_⟩
    walk_at "rd"
    walk_at "if"
    all_goals walk_at "rd"
    · refine w_ca C0 (by decide) ?_
      walk_at "rd"
      refine ⟨a, ns, 1, rfl, hS, hz2, ?_⟩
      walk_at "rd"
      obtain ⟨n1, e1, hn1⟩ := nat_of (cellAt ns 1) 12 (by decide) (by decide +kernel)
      rw [e1]
      exact ⟨n1, rfl, rfl, hn1⟩
    · exact ⟨n2, rfl, rfl, hn2⟩
  obtain ⟨n3, rfl, rfl, hn3⟩ := hm'
  clear hn2 n2
  refine w_cut (fun σ H' => ∃ n : Nat, σ = [some (.ref a), some (.int way), some (.int (n : Int)), none, none, none, none, none] ∧ H = H' ∧ n < 10 ^ 40) ?_ (fun σ H' hm' => ?_)
  · walk_at "rd"
    refine w_ca C0 (by decide) ?_
    walk_at "rd"
    refine ⟨a, ns, 0, rfl, hS, hz2, ?_⟩
    walk_at "rd"
    walk_at "if"
    all_goals walk_at "rd"
    · refine w_ca C0 (by decide) ?_
      walk_at "rd"
      refine ⟨a, ns, 1, rfl, hS, hz2, ?_⟩
      walk_at "rd"
      obtain ⟨n1, e1, hn1⟩ := nat_of (1000000 + cellAt ns 1 % 2) (10 ^ 40) (by decide +kernel) (Int.le_refl _)
      have b0 := Int.emod_nonneg (cellAt ns 1) (show (2 : Int) ≠ 0 by decide)
      have b1 := Int.emod_lt_of_pos (cellAt ns 1) (show (0 : Int) < 2 by decide)
      rw [Int.emod_eq_of_lt (by omega) (Int.lt_of_lt_of_le (show 1000000 + cellAt ns 1 % 2 < 1000002 by omega) (by decide +kernel))] at e1
      rw [e1]
      exact ⟨n1, rfl, rfl, hn1⟩
    · exact ⟨n3, rfl, rfl, hn3⟩
  obtain ⟨n, rfl, rfl, hn⟩ := hm'
  clear hn3 n3
  walk_at "rd"
  refine w_ca C0 (by decide) ?_
  walk_at "rd"
  refine ⟨a, ns, 2, rfl, hS, hz2, ?_⟩
  walk_at "rd"
  have m0 : 0 ≤ cellAt ns 2 % 1000001 := Int.emod_nonneg _ (by decide)
  generalize cellAt ns 2 % 1000001 = m1 at m0
  refine w_cut (fun σ H' => ∃ m : Int, σ = [some (.ref a), some (.int way), some (.int (n : Int)), some (.int m), none, none, none, none] ∧ H = H' ∧ 0 ≤ m) ?_ (fun σ H' hm' => ?_)
  · walk_at "rd"
    refine w_ca C0 (by decide) ?_
    walk_at "rd"
    refine ⟨a, ns, 2, rfl, hS, hz2, ?_⟩
    walk_at "rd"
    walk_at "if"
    all_goals walk_at "rd"
    · exact ⟨_, rfl, rfl, Int.emod_nonneg _ (by decide)⟩
    · exact ⟨m1, rfl, rfl, m0⟩
  obtain ⟨m, rfl, rfl, hm⟩ := hm'
  clear m0 m1
  walk_at "rd"
  refine w_ca CT (by decide) ?_
  walk_at "rd"
  refine w_ca C0 (by decide) ?_
  walk_at "rd"
  refine ⟨a, ns, 3, rfl, hS, hz2, ?_⟩
  walk_at "rd"
  refine ⟨n, way, _, rfl, hn, fun x hx => ?_⟩
  obtain ⟨lx, x0, x1, x4⟩ := hx
  walk_at "rd"
  refine w_cut (fun σ H' => ∃ b : Bool, σ = [some (.ref a), some (.int way), some (.int (n : Int)), some (.int m), some (.str x), some (.bl b), none, none] ∧ Same H H' ∧ b = (decide (¬ (way = 1 ∨ way = 2 ∨ way = 3)) && decide ((n : Int) ≤ m))) ?_ (fun σ H1 hm' => ?_)
  · walk_at "rd"
    refine ⟨by walk_at "sz", fun r hr' => ?_⟩
    refine w_ninT (SqT.of upd_same) rfl rfl ?_
    have e : inV (.int way) [V.int 1, .int 2, .int 3] = decide (way ∈ [1, 2, 3]) := inV_int (l := [1, 2, 3])
    have em : way ∈ [1, 2, 3] ↔ way = 1 ∨ way = 2 ∨ way = 3 := by simp
    have s1 := same_upd (o := .tup [V.int 1, .int 2, .int 3]) (Same.refl H) hr'
    by_cases hw : way = 1 ∨ way = 2 ∨ way = 3
    · rw [e, decide_eq_true (em.mpr hw), Bool.not_true]
      walk_at "rd"
      exact ⟨_, rfl, s1, by rw [decide_eq_false (fun z => z hw)]; rfl⟩
    · rw [e, decide_eq_false (fun z => hw (em.mp z)), Bool.not_false]
      walk_at "rd"
      exact ⟨_, rfl, s1, by rw [decide_eq_true hw]; rfl⟩
  obtain ⟨b0, rfl, s1, eb0⟩ := hm'
  refine w_cut (fun σ H' => ∃ (b : Bool) (v : Int), σ = [some (.ref a), some (.int way), some (.int v), some (.int m), some (.str x), some (.bl b), none, none] ∧ Same H H' ∧ (way = 1 ∨ way = 2 ∨ way = 3 → b = false ∧ numOf x = none) ∧ (way ≠ 1 → way ≠ 2 → way ≠ 3 → way ≠ 4 → numOf x = some v ∧ b = decide (v ≤ m)) ∧
    (way = 4 → v = 0 ∧ ((b = true ∧ numOf x = some 0) ∨ (b = false ∧ numOf x = none)))) ?_ (fun σ H2 hm' => ?_)
  · walk_at "rd"
    walk_at "if"
    all_goals rename_i c
    all_goals walk_at "rd"
    · have c := V.int.inj c
      refine ⟨_, _, rfl, s1, fun h => by omega, fun _ _ _ h => absurd c h, fun _ => ⟨rfl, ?_⟩⟩
      rcases x4 c with ⟨e1, e2⟩ | ⟨e1, e2⟩
      · exact .inl ⟨decide_eq_true (congrArg V.str e1), e2⟩
      · exact .inr ⟨decide_eq_false fun z => e1 (V.str.inj z), e2⟩
    · have c : ¬ way = 4 := fun e => c (congrArg V.int e)
      refine ⟨_, _, rfl, s1, fun h => ⟨?_, x1 h⟩, fun h1 h2 h3 h4 => ⟨x0 h1 h2 h3 h4, ?_⟩, fun h => absurd h c⟩
      · rw [eb0, decide_eq_false (fun z => z h), Bool.false_and]
      · rw [eb0, decide_eq_true (show ¬ (way = 1 ∨ way = 2 ∨ way = 3) by omega), Bool.true_and]
  obtain ⟨b1, v, rfl, s2, p1, p2, p3⟩ := hm'
  clear eb0
  have hS2 := s2.seq hS
  refine w_cut (fun σ H' => ∃ (b : Bool) (m' : Int), σ = [some (.ref a), some (.int way), some (.int v), some (.int m'), some (.str x), some (.bl b), none, none] ∧ Same H H' ∧ (cellAt ns 2 % 3 = 0 → m' = 1000000) ∧
    ((b = true ∧ numOf x = some v ∧ v ≤ m') ∨ (b = false ∧ ∀ u, numOf x = some u → ¬ u ≤ m'))) ?_ (fun σ H3 hm' => ?_)
  · have fin : ∀ (b : Bool) (m' : Int), 0 ≤ m' → (way ≠ 1 → way ≠ 2 → way ≠ 3 → way ≠ 4 → b = decide (v ≤ m')) → (way = 1 ∨ way = 2 ∨ way = 3 ∨ way = 4 → b = b1) → ((b = true ∧ numOf x = some v ∧ v ≤ m') ∨ (b = false ∧ ∀ u, numOf x = some u → ¬ u ≤ m')) := fun b m' h0 h1 h2 => by
      by_cases c4 : way = 4
      · obtain ⟨e1, e2⟩ := p3 c4
        rw [h2 (by omega)]
        rcases e2 with ⟨e2, e3⟩ | ⟨e2, e3⟩
        · exact .inl ⟨e2, by rw [e3, e1], by omega⟩
        · exact .inr ⟨e2, fun u z => by rw [e3] at z; cases z⟩
      · by_cases c3 : way = 1 ∨ way = 2 ∨ way = 3
        · obtain ⟨e1, e2⟩ := p1 c3
          rw [h2 (by omega)]
          exact .inr ⟨e1, fun u z => by rw [e2] at z; cases z⟩
        · obtain ⟨e1, e2⟩ := p2 (by omega) (by omega) (by omega) c4
          have e3 := h1 (by omega) (by omega) (by omega) c4
          by_cases c5 : v ≤ m'
          · exact .inl ⟨by rw [e3, decide_eq_true c5], e1, c5⟩
          · exact .inr ⟨by rw [e3, decide_eq_false c5], fun u z => by rw [e1] at z; rw [← Option.some.inj z]; exact c5⟩
    walk_at "rd"
    refine w_ca C0 (by decide) ?_
    walk_at "rd"
    refine ⟨a, ns, 2, rfl, hS2, hz2, ?_⟩
    walk_at "rd"
    walk_at "if"
    all_goals rename_i c
    all_goals walk_at "rd"
    · refine ⟨by walk_at "sz", fun r hr' => ?_⟩
      refine w_inT (SqT.of upd_same) rfl rfl ?_
      have e : inV (.int way) [V.int 0, .int 5, .int 6, .int 7] = decide (way ∈ [0, 5, 6, 7]) := inV_int (l := [0, 5, 6, 7])
      have em : way ∈ [0, 5, 6, 7] ↔ way = 0 ∨ way = 5 ∨ way = 6 ∨ way = 7 := by simp
      have s3 := same_upd (o := .tup [V.int 0, .int 5, .int 6, .int 7]) s2 hr'
      rw [e]
      by_cases hw : way = 0 ∨ way = 5 ∨ way = 6 ∨ way = 7
      · rw [decide_eq_true (em.mpr hw)]
        walk_at "rd"
        exact ⟨_, _, rfl, s3, fun _ => rfl, fin _ _ (by decide) (fun _ _ _ _ => rfl) fun h => by omega⟩
      · rw [decide_eq_false (fun z => hw (em.mp z))]
        walk_at "rd"
        exact ⟨_, _, rfl, s3, fun _ => rfl, fin _ _ (by decide) (fun h1 h2 h3 h4 => by omega) fun h => rfl⟩
    · exact ⟨_, _, rfl, s2, fun h => absurd (congrArg V.int h) c, fin _ _ hm (fun h1 h2 h3 h4 => (p2 h1 h2 h3 h4).2) fun _ => rfl⟩
  obtain ⟨b, m', rfl, s3, hm3, R⟩ := hm'
  have hS3 := s3.seq hS
  clear p1 p2 p3 x0 x1 x4
  walk_at "rd"
  refine w_ca C0 (by decide) ?_
  walk_at "rd"
  refine ⟨a, ns, 2, rfl, hS3, hz2, ?_⟩
  walk_at "rd"
  walk_at "if"
  all_goals rename_i c
  all_goals walk_at "rd"
  · have c := V.int.inj c
    have hm4 := hm3 c
    refine w_cae CN1 (by decide) ?_
    walk_at "rd"
    refine ⟨x, 1000000, rfl, lx, fun u e le => ?_, fun no => ?_⟩
    · show gName 7 (V.int u) _ _ _
      walk_at "rd"
      rcases R with ⟨rb, rv, _⟩ | ⟨rb, rn⟩
      · subst rb
        rw [e] at rv
        have rv := Option.some.inj rv
        subst rv
        walk_at "rd"
        refine w_isi (TyX.base (TyOf.int _)) kit_ii ?_
        walk_at "rd"
        refine w_isi (TyX.base (TyOf.int _)) kit_ib ?_
        walk_at "rd"
        rw [Bool.not_false]
        walk_at "rd"
        rw [decide_eq_true rfl]
        exact q _
      · exact absurd (by omega) (rn u e)
    · refine ⟨true, eM, fun _ a0 ha => ?_, fun z => nomatch z⟩
      rcases R with ⟨rb, rv, rl⟩ | ⟨rb, rn⟩
      · exact absurd (by omega) (no v rv)
      · subst rb
        walk_at "rd"
        refine w_cah CO (by decide) ?_
        walk_at "rd"
        exact ⟨rfl, rfl, rfl, q _⟩
  · refine w_cae CN2 (by decide) ?_
    walk_at "rd"
    refine ⟨x, m', rfl, lx, fun u e le => ?_, fun no => ?_⟩
    · show gName 7 (V.int u) _ _ _
      walk_at "rd"
      rcases R with ⟨rb, rv, _⟩ | ⟨rb, rn⟩
      · subst rb
        rw [e] at rv
        have rv := Option.some.inj rv
        subst rv
        walk_at "rd"
        refine w_isi (TyX.base (TyOf.int _)) kit_ii ?_
        walk_at "rd"
        refine w_isi (TyX.base (TyOf.int _)) kit_ib ?_
        walk_at "rd"
        rw [Bool.not_false]
        walk_at "rd"
        rw [decide_eq_true rfl]
        exact q _
      · exact absurd le (rn u e)
    · refine ⟨true, eM, fun _ a0 ha => ?_, fun z => nomatch z⟩
      rcases R with ⟨rb, rv, rl⟩ | ⟨rb, rn⟩
      · exact absurd rl (no v rv)
      · subst rb
        walk_at "rd"
        refine w_cah CO (by decide) ?_
        walk_at "rd"
        exact ⟨rfl, rfl, rfl, q _⟩
end
end Mn

namespace Mn
open PySem L2
theorem only_of {K : PySem.W.Frag} {mg : Str → Option Value} {CN C1 C2 C3 C4 C5 C6 : Addr} (x : ExcC K CN) (m1 : mg "BadRow" = some (.ref C1)) (k1 : PySem.W.kitOne K (.ref CN) (.ref C1) = some false) (m2 : mg "NoLeaf" = some (.ref C2)) (k2 : PySem.W.kitOne K (.ref CN) (.ref C2) = some false)
    (m3 : mg "NoName" = some (.ref C3)) (k3 : PySem.W.kitOne K (.ref CN) (.ref C3) = some false) (m4 : mg "NotOn" = some (.ref C4)) (k4 : PySem.W.kitOne K (.ref CN) (.ref C4) = some false) (m5 : mg "NoTop" = some (.ref C5)) (k5 : PySem.W.kitOne K (.ref CN) (.ref C5) = some false)
    (m6 : mg "TooMany" = some (.ref C6)) (k6 : PySem.W.kitOne K (.ref CN) (.ref C6) = some false) (m0 : mg "NoNumber" = some (.ref CN)) (k0 : PySem.W.kitOne K (.ref CN) (.ref CN) = some true) (kv : PySem.W.kitOne K (.ref CN) (.type "ValueError") = some true) : OnlyK K mg CN := by
  refine ⟨x, fun y h => ?_, ⟨m0, k0⟩, kv⟩
  rcases h with rfl | rfl | rfl | rfl | rfl | rfl
  · exact ⟨_, m1, k1⟩
  · exact ⟨_, m2, k2⟩
  · exact ⟨_, m3, k3⟩
  · exact ⟨_, m4, k4⟩
  · exact ⟨_, m5, k5⟩
  · exact ⟨_, m6, k6⟩
end Mn

namespace Mn
open PySem L2
theorem clsF_nil {K : PySem.W.Frag} {C : Addr} : ∀ f ∈ ([] : List Str), NoAttr K C f := fun _ h => absurd h List.not_mem_nil
theorem clsF_cons {K : PySem.W.Frag} {C : Addr} {g : Str} {r : List Str} (a : PySem.W.findIn K (.ref C) g = some none) (b : ∀ f ∈ r, NoAttr K C f) : ∀ f ∈ g :: r, NoAttr K C f := fun f h => by
  rcases List.mem_cons.mp h with e | e
  · subst e
    exact a
  · exact b f e
theorem all_mk {l : PySem.W.OpenLaw} {w : World} {K : PySem.W.Frag} {h : Heap} {mg : Str → Option Value} {fa f_number_in T_number_in f_law_cell_at f_law_only f_law_text f_law c_NoNumber c_MinderError c_BadRow c_NoLeaf c_NoName c_NotOn c_NoTop c_TooMany : Addr} (X : K.In h) (G : h.Ns mainGlobals mg) (hfa : mg "law" = some (.ref fa))
    {od_number_in an_number_in odT_number_in od_law_cell_at an_law_cell_at od_law_only an_law_only od_law_text an_law_text od_law an_law : Option Addr} {sl_number_in slT_number_in sl_law_cell_at sl_law_only sl_law_text sl_law : Array (Option Value)} {oc_number_in kV_number_in dc_number_in pm_number_in cd_number_in ct_number_in ocT_number_in oc_law_cell_at kV_law_cell_at dc_law_cell_at pm_law_cell_at cd_law_cell_at ct_law_cell_at oc_law_only kV_law_only dc_law_only pm_law_only cd_law_only ct_law_only oc_law_text kV_law_text dc_law_text pm_law_text cd_law_text ct_law_text oc_law kV_law dc_law pm_law cd_law ct_law : Value} {nT_number_in tk_number_in_0 : Nat}
    (z_len : PySem.W.nsIn K mainGlobals "len" = some none)
    (z_int : PySem.W.nsIn K mainGlobals "int" = some none)
    (z_bool : PySem.W.nsIn K mainGlobals "bool" = some none)
    (z_max : PySem.W.nsIn K mainGlobals "max" = some none)
    (z_ValueError : PySem.W.nsIn K mainGlobals "ValueError" = some none)
    (z_str : PySem.W.nsIn K mainGlobals "str" = some none)
    (z_isinstance : PySem.W.nsIn K mainGlobals "isinstance" = some none)
    (a_number_in : PySem.W.nsIn K mainGlobals "number_in" = some (some (.ref f_number_in)))
    (l_number_in : K.lookup f_number_in = some ⟨oc_number_in, od_number_in, .func (PySem.W.fnOf "number_in" "number_in" (defArgs s_number_in) (defBody s_number_in) (defScope s_number_in) (.ref T_number_in) kV_number_in dc_number_in pm_number_in an_number_in cd_number_in ct_number_in), sl_number_in⟩)
    (co_number_in : PySem.W.codeIn K cd_number_in "number_in" = true)
    (k_number_in : PySem.W.keepIn K (.ref f_number_in) = true)
    (lT_number_in : K.lookup T_number_in = some ⟨ocT_number_in, odT_number_in, .seq #[(.int 1000000 tk_number_in_0 : Value)] nT_number_in, slT_number_in⟩)
    (a_law_cell_at : PySem.W.nsIn K mainGlobals "_law_cell_at" = some (some (.ref f_law_cell_at)))
    (l_law_cell_at : K.lookup f_law_cell_at = some ⟨oc_law_cell_at, od_law_cell_at, .func (PySem.W.fnOf "_law_cell_at" "_law_cell_at" (defArgs s_law_cell_at) (defBody s_law_cell_at) (defScope s_law_cell_at) .none kV_law_cell_at dc_law_cell_at pm_law_cell_at an_law_cell_at cd_law_cell_at ct_law_cell_at), sl_law_cell_at⟩)
    (co_law_cell_at : PySem.W.codeIn K cd_law_cell_at "_law_cell_at" = true)
    (k_law_cell_at : PySem.W.keepIn K (.ref f_law_cell_at) = true)
    (a_law_only : PySem.W.nsIn K mainGlobals "_law_only" = some (some (.ref f_law_only)))
    (l_law_only : K.lookup f_law_only = some ⟨oc_law_only, od_law_only, .func (PySem.W.fnOf "_law_only" "_law_only" (defArgs s_law_only) (defBody s_law_only) (defScope s_law_only) .none kV_law_only dc_law_only pm_law_only an_law_only cd_law_only ct_law_only), sl_law_only⟩)
    (co_law_only : PySem.W.codeIn K cd_law_only "_law_only" = true)
    (k_law_only : PySem.W.keepIn K (.ref f_law_only) = true)
    (a_law_text : PySem.W.nsIn K mainGlobals "_law_text" = some (some (.ref f_law_text)))
    (l_law_text : K.lookup f_law_text = some ⟨oc_law_text, od_law_text, .func (PySem.W.fnOf "_law_text" "_law_text" (defArgs s_law_text) (defBody s_law_text) (defScope s_law_text) .none kV_law_text dc_law_text pm_law_text an_law_text cd_law_text ct_law_text), sl_law_text⟩)
    (co_law_text : PySem.W.codeIn K cd_law_text "_law_text" = true)
    (k_law_text : PySem.W.keepIn K (.ref f_law_text) = true)
    (a_law : PySem.W.nsIn K mainGlobals "law" = some (some (.ref f_law)))
    (l_law : K.lookup f_law = some ⟨oc_law, od_law, .func (PySem.W.fnOf "law" "law" (defArgs s_law) (defBody s_law) (defScope s_law) .none kV_law dc_law pm_law an_law cd_law ct_law), sl_law⟩)
    (co_law : PySem.W.codeIn K cd_law "law" = true)
    (k_law : PySem.W.keepIn K (.ref f_law) = true)
    (a_NoNumber : PySem.W.nsIn K mainGlobals "NoNumber" = some (some (.ref c_NoNumber)))
    (xf_NoNumber : PySem.W.excIn K c_NoNumber [.type "ValueError", .type "Exception", .type "BaseException", .type "object"] "ValueError.__new__" = true)
    (kc_NoNumber : PySem.W.keepIn K (.ref c_NoNumber) = true)
    (eb_NoNumber : PySem.W.subIn K (.ref c_NoNumber) (.type "BaseException") = some true)
    (et_NoNumber : PySem.W.typeIn K (.ref c_NoNumber) = some (.type "type"))
    (a_MinderError : PySem.W.nsIn K mainGlobals "MinderError" = some (some (.ref c_MinderError)))
    (a_BadRow : PySem.W.nsIn K mainGlobals "BadRow" = some (some (.ref c_BadRow)))
    (a_NoLeaf : PySem.W.nsIn K mainGlobals "NoLeaf" = some (some (.ref c_NoLeaf)))
    (a_NoName : PySem.W.nsIn K mainGlobals "NoName" = some (some (.ref c_NoName)))
    (a_NotOn : PySem.W.nsIn K mainGlobals "NotOn" = some (some (.ref c_NotOn)))
    (a_NoTop : PySem.W.nsIn K mainGlobals "NoTop" = some (some (.ref c_NoTop)))
    (a_TooMany : PySem.W.nsIn K mainGlobals "TooMany" = some (some (.ref c_TooMany)))
    (cb_MinderError : PySem.W.subIn K (.ref c_MinderError) (.type "BaseException") = some true)
    (cd_MinderError : PySem.W.hasDictIn K c_MinderError = true)
    (ct_MinderError : PySem.W.typeIn K (.ref c_MinderError) = some (.type "type"))
    (cs_MinderError_NoNumber : PySem.W.subIn K (.ref c_NoNumber) (.ref c_MinderError) = some true)
    (xg_NoNumber : PySem.W.findIn K (.ref c_NoNumber) "__getattribute__" = some (some (.builtin "BaseException.__getattribute__")))
    (xk_NoNumber : PySem.W.findIn K (.ref c_NoNumber) "__getattr__" = some none)
    (xs_NoNumber : PySem.W.subIn K (.ref c_NoNumber) (.type "BaseException") = some true)
    (xd_NoNumber : PySem.W.hasDictIn K c_NoNumber = true)
    (xa_NoNumber : PySem.W.findIn K (.ref c_NoNumber) "__class__" = some (some (.builtin "object.__class__")))
    (xn_NoNumber : PySem.W.specialIn K (.builtin "object.__class__") "__get__" = some (some (.builtin "getset_descriptor.__get__")))
    (xt_NoNumber : PySem.W.takesIn K (.builtin "object.__class__") = some true)
    (xm_NoNumber : PySem.W.mroIn K c_NoNumber (.type "object") = some true)
    (kt_NoNumber_BadRow : PySem.W.kitOne K (.ref c_NoNumber) (.ref c_BadRow) = some false)
    (kt_NoNumber_NoLeaf : PySem.W.kitOne K (.ref c_NoNumber) (.ref c_NoLeaf) = some false)
    (kt_NoNumber_NoName : PySem.W.kitOne K (.ref c_NoNumber) (.ref c_NoName) = some false)
    (kt_NoNumber_NotOn : PySem.W.kitOne K (.ref c_NoNumber) (.ref c_NotOn) = some false)
    (kt_NoNumber_NoTop : PySem.W.kitOne K (.ref c_NoNumber) (.ref c_NoTop) = some false)
    (kt_NoNumber_TooMany : PySem.W.kitOne K (.ref c_NoNumber) (.ref c_TooMany) = some false)
    (kt_NoNumber_NoNumber : PySem.W.kitOne K (.ref c_NoNumber) (.ref c_NoNumber) = some true)
    (kt_NoNumber_ValueError : PySem.W.kitOne K (.ref c_NoNumber) (.type "ValueError") = some true) :
    ∃ fd : FuncData, (∀ (s : Shared) (v : Value), BindsTo s fd ⟨[v], []⟩ [("_law_script", v)]) ∧ ∀ base : Heap, K.In base → base.Ns mainGlobals mg → FnOk l.prog w K mg base CX0 3 fa fd ["_law_script"] (spLaw K) := by
  have e := hfa.symm.trans (PySem.W.mg_of X G a_law)
  cases e
  have T : Bt mg := ⟨PySem.W.mg_none_of X G z_len, PySem.W.mg_none_of X G z_int, PySem.W.mg_none_of X G z_bool, PySem.W.mg_none_of X G z_max, PySem.W.mg_none_of X G z_ValueError, PySem.W.mg_none_of X G z_str, PySem.W.mg_none_of X G z_isinstance⟩
  have F_number_in : FunS K "number_in" "number_in" s_number_in [.int 1000000] f_number_in _ := ⟨⟨_, _, _, _, _, _, _, _, _, _, rfl, l_number_in, co_number_in, .inr ⟨List.cons_ne_nil _ _, _, _, _, _, rfl, lT_number_in, rfl, .cons ⟨_, rfl⟩ (.nil)⟩, .inl rfl⟩, k_number_in⟩
  have F_law_cell_at := fun_mk (st := s_law_cell_at) l_law_cell_at co_law_cell_at k_law_cell_at
  have b_law_cell_at := F_law_cell_at.binds (ps := ["_law_script", "_law_k"]) fun _ _ _ _ _ _ us hl => match us, hl with | [_, _], _ => rfl
  have F_law_only := fun_mk (st := s_law_only) l_law_only co_law_only k_law_only
  have b_law_only := F_law_only.binds (ps := ["_law_error"]) fun _ _ _ _ _ _ us hl => match us, hl with | [_], _ => rfl
  have F_law_text := fun_mk (st := s_law_text) l_law_text co_law_text k_law_text
  have b_law_text := F_law_text.binds (ps := ["_law_value", "_law_way", "_law_cell"]) fun _ _ _ _ _ _ us hl => match us, hl with | [_, _, _], _ => rfl
  have F_law := fun_mk (st := s_law) l_law co_law k_law
  have b_law := F_law.binds (ps := ["_law_script"]) fun _ _ _ _ _ _ us hl => match us, hl with | [_], _ => rfl
  have mg_NoNumber := PySem.W.mg_of X G a_NoNumber
  have e_NoNumber : ErrK K mg "NoNumber" c_NoNumber := ⟨xf_NoNumber, mg_NoNumber, kc_NoNumber, eb_NoNumber, et_NoNumber⟩
  have mg_MinderError := PySem.W.mg_of X G a_MinderError
  have mg_BadRow := PySem.W.mg_of X G a_BadRow
  have mg_NoLeaf := PySem.W.mg_of X G a_NoLeaf
  have mg_NoName := PySem.W.mg_of X G a_NoName
  have mg_NotOn := PySem.W.mg_of X G a_NotOn
  have mg_NoTop := PySem.W.mg_of X G a_NoTop
  have mg_TooMany := PySem.W.mg_of X G a_TooMany
  have nm_MinderError : NamK K mg "MinderError" c_MinderError := ⟨mg_MinderError⟩
  have ex_MinderError_NoNumber := PySem.W.exm_ref cb_MinderError cd_MinderError ct_MinderError cs_MinderError_NoNumber
  have xc_NoNumber : ExcC K c_NoNumber := ⟨xg_NoNumber, xk_NoNumber, xs_NoNumber, xd_NoNumber, xa_NoNumber, xn_NoNumber, xt_NoNumber, xm_NoNumber⟩
  refine ⟨PySem.W.fnOf "law" "law" (defArgs s_law) (defBody s_law) (defScope s_law) .none kV_law dc_law pm_law an_law cd_law ct_law, fun s v => .of_eq rfl, fun base _ _ => ?_⟩
  have ON : OnlyK K mg c_NoNumber := only_of xc_NoNumber mg_BadRow kt_NoNumber_BadRow mg_NoLeaf kt_NoNumber_NoLeaf mg_NoName kt_NoNumber_NoName mg_NotOn kt_NoNumber_NotOn mg_NoTop kt_NoNumber_NoTop mg_TooMany kt_NoNumber_TooMany mg_NoNumber kt_NoNumber_NoNumber kt_NoNumber_ValueError
  have C_law_cell_at : Cal l.prog w K mg base CX0 "_law_cell_at" 1 ["_law_script", "_law_k"] [] (spCell K) := ⟨⟨_, _, [], (ok_cell F_law_cell_at T), PySem.W.mg_of X G a_law_cell_at, k_law_cell_at, b_law_cell_at, .nil⟩⟩
  have C_law_text : Cal l.prog w K mg base CX0 "_law_text" 1 ["_law_value", "_law_way", "_law_cell"] [] spText := ⟨⟨_, _, [], (ok_text F_law_text T), PySem.W.mg_of X G a_law_text, k_law_text, b_law_text, .nil⟩⟩
  obtain ⟨dc_number_in_1, hc_number_in_1, bc_number_in_1⟩ := F_number_in.binds1 (ps := ["text", "most"]) 1 0 (List.cons_ne_nil _ _) rfl fun _ _ _ _ _ _ _ us its hu hi => match us, hu, its, hi with | [_], _, [_], _ => ⟨_, rfl, rfl⟩
  have C_number_in_1 : Cal l.prog w K mg base (CXN l.prog w) "number_in" 1 ["text", "most"] [.int 1000000] (spNum c_NoNumber) := ⟨⟨_, _, dc_number_in_1, (ok_number F_number_in T e_NoNumber), PySem.W.mg_of X G a_number_in, k_number_in, bc_number_in_1, hc_number_in_1⟩⟩
  obtain ⟨dc_number_in_2, hc_number_in_2, bc_number_in_2⟩ := F_number_in.binds1 (ps := ["text", "most"]) 2 1 (List.cons_ne_nil _ _) rfl fun _ _ _ _ _ _ _ us its hu hi => match us, hu, its, hi with | [_, _], _, [_], _ => ⟨_, rfl, rfl⟩
  have C_number_in_2 : Cal l.prog w K mg base (CXN l.prog w) "number_in" 1 ["text", "most"] [] (spNum c_NoNumber) := ⟨⟨_, _, dc_number_in_2, (ok_number F_number_in T e_NoNumber), PySem.W.mg_of X G a_number_in, k_number_in, bc_number_in_2, hc_number_in_2⟩⟩
  have C_law_only : CalE l.prog w K mg base "_law_only" 1 ["_law_error"] (spOnly c_NoNumber) := ⟨⟨_, _, (ok_only F_law_only T ON), PySem.W.mg_of X G a_law_only, k_law_only, b_law_only⟩⟩
  exact (ok_law F_law T C_law_cell_at C_law_text C_number_in_1 C_number_in_2 C_law_only nm_MinderError ex_MinderError_NoNumber)
theorem walk {l : PySem.W.OpenLaw} {q : Program} {loose : List Str} {XP : (Str → Option Value) → Heap → Prop} {YP : World → Heap → Prop} {d : DefRec} {K : Params → PySem.W.Frag} (hn : l.most = some 63) (hdf : d.params.defaults = [])
    (hY : ∀ (w : World) (h : Heap), YP w h → (K w.params).In h)
    (F : ∀ (w : World) (mg : Str → Option Value) (fa : Addr) (h : Heap), (K w.params).In h → h.Ns mainGlobals mg → mg d.name = some (.ref fa) →
      ∃ fd : FuncData, (∀ (s : Shared) (u : Value), BindsTo s fd ⟨[u], []⟩ [("_law_script", u)]) ∧ ∀ base : Heap, (K w.params).In base → base.Ns mainGlobals mg → FnOk l.prog w (K w.params) mg base CX0 3 fa fd ["_law_script"] (spLaw (K w.params))) :
    PySem.W.WalkO q loose XP YP l.row.toRowW d [] (fun f vs => PySem.call f vs) :=
  L2.walk_of (n := 63) (k := 3) (x := "_law_script") (CX := fun _ => CX0) (sp := fun w => spLaw (K w.params)) hn (by decide) hdf ⟨rfl, by decide, by decide⟩ hY F (fun _ _ a ns hl _ hS => ⟨a, ns, rfl, hS, hl, fun _ => rfl⟩) fun _ _ _ _ _ z => z
end Mn
open PySem PySem.W PyProof.Rows
set_option maxRecDepth 100000 in
set_option maxHeartbeats 0 in
theorem PySem.Challenge.cw_minders_k01_a_number_in_a_text_holds : PySem.Challenge.rw_minders_k01_a_number_in_a_text.Holds := by
  w_on; o_law; k_head; (case hw => w_witness2)
  k_fill
  refine Mn.walk (l := PySem.Challenge.rw_minders_k01_a_number_in_a_text) rfl rfl (fun w h Y => PySem.W.kIn_of Y) ?F
  case F =>
    intro w mg fa h KX G hmg
    refine' Mn.all_mk KX G hmg ?z_len ?z_int ?z_bool ?z_max ?z_ValueError ?z_str ?z_isinstance ?a_number_in ?l_number_in ?co_number_in ?k_number_in ?lT_number_in ?a_law_cell_at ?l_law_cell_at ?co_law_cell_at ?k_law_cell_at ?a_law_only ?l_law_only ?co_law_only ?k_law_only ?a_law_text ?l_law_text ?co_law_text ?k_law_text ?a_law ?l_law ?co_law ?k_law ?a_NoNumber ?xf_NoNumber ?kc_NoNumber ?eb_NoNumber ?et_NoNumber ?a_MinderError ?a_BadRow ?a_NoLeaf ?a_NoName ?a_NotOn ?a_NoTop ?a_TooMany ?cb_MinderError ?cd_MinderError ?ct_MinderError ?cs_MinderError_NoNumber ?xg_NoNumber ?xk_NoNumber ?xs_NoNumber ?xd_NoNumber ?xa_NoNumber ?xn_NoNumber ?xt_NoNumber ?xm_NoNumber ?kt_NoNumber_BadRow ?kt_NoNumber_NoLeaf ?kt_NoNumber_NoName ?kt_NoNumber_NotOn ?kt_NoNumber_NoTop ?kt_NoNumber_TooMany ?kt_NoNumber_NoNumber ?kt_NoNumber_ValueError
    (case z_len => k_is)
    (case z_int => k_is)
    (case z_bool => k_is)
    (case z_max => k_is)
    (case z_ValueError => k_is)
    (case z_str => k_is)
    (case z_isinstance => k_is)
    (case a_number_in => k_is)
    (case l_number_in => k_is)
    (case co_number_in => k_is)
    (case k_number_in => k_is)
    (case lT_number_in => k_is)
    (case a_law_cell_at => k_is)
    (case l_law_cell_at => k_is)
    (case co_law_cell_at => k_is)
    (case k_law_cell_at => k_is)
    (case a_law_only => k_is)
    (case l_law_only => k_is)
    (case co_law_only => k_is)
    (case k_law_only => k_is)
    (case a_law_text => k_is)
    (case l_law_text => k_is)
    (case co_law_text => k_is)
    (case k_law_text => k_is)
    (case a_law => k_is)
    (case l_law => k_is)
    (case co_law => k_is)
    (case k_law => k_is)
    (case a_NoNumber => k_is)
    (case xf_NoNumber => k_exc)
    (case kc_NoNumber => k_is)
    (case eb_NoNumber => k_is)
    (case et_NoNumber => k_is)
    (case a_MinderError => k_is)
    (case a_BadRow => k_is)
    (case a_NoLeaf => k_is)
    (case a_NoName => k_is)
    (case a_NotOn => k_is)
    (case a_NoTop => k_is)
    (case a_TooMany => k_is)
    (case cb_MinderError => k_is)
    (case cd_MinderError => k_is)
    (case ct_MinderError => k_is)
    (case cs_MinderError_NoNumber => k_is)
    (case xg_NoNumber => k_is)
    (case xk_NoNumber => k_is)
    (case xs_NoNumber => k_is)
    (case xd_NoNumber => k_is)
    (case xa_NoNumber => k_is)
    (case xn_NoNumber => k_is)
    (case xt_NoNumber => k_is)
    (case xm_NoNumber => k_is)
    (case kt_NoNumber_BadRow => kit_is)
    (case kt_NoNumber_NoLeaf => kit_is)
    (case kt_NoNumber_NoName => kit_is)
    (case kt_NoNumber_NotOn => kit_is)
    (case kt_NoNumber_NoTop => kit_is)
    (case kt_NoNumber_TooMany => kit_is)
    (case kt_NoNumber_NoNumber => kit_is)
    (case kt_NoNumber_ValueError => kit_is)
#print axioms PySem.Challenge.cw_minders_k01_a_number_in_a_text_holds
