import PyProof.Rows.All
import Wide.All
import OpenK.AllK
import Wide.FinOn
import HandS.ForMost
import HandS.ForExc
import HandS.Defaults
import HandS.Codes
import HandS.ClsMeth
import HandS.TupLe
import HandS.StrMore
import HandS.IsInst
import HandS.SuiteRaise
import HandS.TryElse
import HandS.TryMany
import HandS.WideBits
import PySem.Challenge.RW_minders_k03_whom_a_way_chooses

set_option Elab.async false
set_option linter.all false
set_option maxRecDepth 100000
set_option maxHeartbeats 4000000
/-! Mn: rules of my own over HandS: calls whose promise the reading picks. -/
namespace Mn
open PySem PySem.Spec PyProof.Rows L2

/-- a def of the module, by its name, its promise, its defaults -/
structure Cal (P : Program) (w : World) (K : PySem.W.Frag) (mg : Str → Option Value) (base : Heap) (CX : CXT) (x : Str) (k : Nat) (ps : List Str) (dvs : List V) (sp : Sp) : Prop where
  ex : ∃ (f : Addr) (fd : FuncData) (ds : List Value), FnOk P w K mg base CX k f fd ps sp ∧ mg x = some (.ref f) ∧ PySem.W.keepIn K (.ref f) = true ∧ Binds K fd ps ds ∧ Vals dvs ds
/-- a method of the class at C -/
structure Mth (P : Program) (w : World) (K : PySem.W.Frag) (mg : Str → Option Value) (base : Heap) (CX : CXT) (C : Addr) (m : Str) (k : Nat) (ps : List Str) (dvs : List V) (sp : Sp) : Prop where
  ex : ∃ (f : Addr) (fd : FuncData) (ds : List Value), FnOk P w K mg base CX k f fd ps sp ∧ Meth K C m f ∧ Binds K fd ps ds ∧ Vals dvs ds
/-- a class that is made by its name -/
structure Mak (P : Program) (w : World) (K : PySem.W.Frag) (mg : Str → Option Value) (base : Heap) (CX : CXT) (x : Str) (C : Addr) (k : Nat) (ps : List Str) (dvs : List V) (sp : Sp) : Prop where
  ex : ∃ (f : Addr) (fd : FuncData) (ds : List Value), FnOk P w K mg base CX k f fd ps sp ∧ mg x = some (.ref C) ∧ Mk K C f ∧ Binds K fd ps ds ∧ Vals dvs ds
/-- the context stands over these -/
structure Sx (X : Cx) (P : Program) (w : World) (K : PySem.W.Frag) (mg : Str → Option Value) (base : Heap) : Prop where
  p : X.prog = P
  w : X.w = w
  k : X.K = K
  m : X.mg = mg
  b : X.base = base
section
variable {X : Cx} {P : Program} {w : World} {K : PySem.W.Frag} {mg : Str → Option Value} {base : Heap} {CX : CXT} {k : Nat} {E : XK} {x m : Str} {p pos apos : Pos} {e o : Expr} {es : List Expr} {ta : TE} {t : TA}
def tCA (P : Program) (w : World) (K : PySem.W.Frag) (mg : Str → Option Value) (base : Heap) (CX : CXT) (x : Str) (k : Nat) (E : XK) (t : TA) : TE := fun σ H Q => ∃ j ps dvs sp, Cal P w K mg base CX x j ps dvs sp ∧ j ≤ k ∧ t σ H fun vs H1 => sp (vs ++ dvs) H1 Q E
/-- f(e, ..), nothing raised -/
theorem pe_ca (hX : Sx X P w K mg base) (hr : Room k X.A) (hg : Gl X x) (ha : PA X (e :: es) t) (hdb : (x == ("__debug__" : Str)) = false := by decide) (he : starEach (e :: es) X.env = (false, eval e X.env) :: starEach es X.env := by rfl) (hpl : (backTo pos (starEach es X.env)).any (·.1) = false := by rfl) :
    PE X (.Call (.Name x p) (e :: es) [] pos) (tCA P w K mg base CX0 x k E0 t) := by
  obtain ⟨rfl, rfl, rfl, rfl, rfl⟩ := hX
  refine ⟨fun pins s σ H Q I h => ?_⟩
  obtain ⟨j, ps, dvs, sp, C, hj, h⟩ := h
  obtain ⟨f, fd, ds, F, hm, hk, hb, hd⟩ := C.ex
  exact (pe_call F (hr.mono hj) hg hm hk hb hd pass0 ha hdb he hpl).run pins s σ H Q I h
/-- f(), nothing raised -/
theorem pe_ca0 (hX : Sx X P w K mg base) (hr : Room k X.A) (hg : Gl X x) (hdb : (x == ("__debug__" : Str)) = false := by decide) : PE X (.Call (.Name x p) [] [] pos) (tCA P w K mg base CX0 x k E0 tNil) := by
  obtain ⟨rfl, rfl, rfl, rfl, rfl⟩ := hX
  refine ⟨fun pins s σ H Q I h => ?_⟩
  obtain ⟨j, ps, dvs, sp, C, hj, h⟩ := h
  obtain ⟨f, fd, ds, F, hm, hk, hb, hd⟩ := C.ex
  exact (pe_call0 F (hr.mono hj) hg hm hk hb hd pass0 hdb).run pins s σ H Q I h
def tMkA (P : Program) (w : World) (K : PySem.W.Frag) (mg : Str → Option Value) (base : Heap) (CX : CXT) (x : Str) (k : Nat) (E : XK) (t : TA) : TE := fun σ H Q => ∃ C j ps dvs sp, Mak P w K mg base CX x C j ps dvs sp ∧ j + 1 ≤ k ∧ tMake C sp dvs E t σ H Q
theorem pe_mka (hX : Sx X P w K mg base) (hr : Room k X.A) (hg : Gl X x) (ha : PA X (e :: es) t) (hdb : (x == ("__debug__" : Str)) = false := by decide) (he : starEach (e :: es) X.env = (false, eval e X.env) :: starEach es X.env := by rfl) (hpl : (backTo pos (starEach es X.env)).any (·.1) = false := by rfl) :
    PE X (.Call (.Name x p) (e :: es) [] pos) (tMkA P w K mg base CX0 x k E0 t) := by
  obtain ⟨rfl, rfl, rfl, rfl, rfl⟩ := hX
  refine ⟨fun pins s σ H Q I h => ?_⟩
  obtain ⟨C, j, ps, dvs, sp, M, hj, h⟩ := h
  obtain ⟨f, fd, ds, F, hm, hk, hb, hd⟩ := M.ex
  exact (pe_make hk F (hr.mono hj) hg hm hb hd pass0 ha hdb he hpl).run pins s σ H Q I h
theorem pe_mka0 (hX : Sx X P w K mg base) (hr : Room k X.A) (hg : Gl X x) (hdb : (x == ("__debug__" : Str)) = false := by decide) : PE X (.Call (.Name x p) [] [] pos) (tMkA P w K mg base CX0 x k E0 tNil) := by
  obtain ⟨rfl, rfl, rfl, rfl, rfl⟩ := hX
  refine ⟨fun pins s σ H Q I h => ?_⟩
  obtain ⟨C, j, ps, dvs, sp, M, hj, h⟩ := h
  obtain ⟨f, fd, ds, F, hm, hk, hb, hd⟩ := M.ex
  exact (pe_make0 hk F (hr.mono hj) hg hm hb hd pass0 hdb).run pins s σ H Q I h
def tMA (P : Program) (w : World) (K : PySem.W.Frag) (mg : Str → Option Value) (base : Heap) (CX : CXT) (m : Str) (k : Nat) (E : XK) (ta : TE) (t : TA) : TE := fun σ H Q => ta σ H fun xv H1 => ∃ a C dx fs j ps dvs sp, xv = .ref a ∧ H1 a = some (.ins C dx fs) ∧ Cls K C ∧ fs.lookup m = none ∧ Mth P w K mg base CX C m j ps dvs sp ∧ j ≤ k ∧
  t σ H1 fun vs H2 => sp (xv :: (vs ++ dvs)) H2 Q E
/-- o.m(e, ..), o of any own class -/
theorem pe_maX {pl : Sem Bool} (hX : Sx X P w K mg base) (hr : Room k X.A) (hx : Passes CX X E) (he : PE X o ta) (ha : PA X (e :: es) t)
    (hst : starEach (e :: es) X.env = (false, eval e X.env) :: starEach es X.env := by rfl) (hpl : (backTo pos (starEach es X.env)).any (·.1) = false := by rfl)
    (ht : eval (.Call (.Attribute o m apos) (e :: es) [] pos) X.env = (do
      let ov ← eval o X.env
      standAt apos.atName
      let (f, first) ← holding [ov] (getMethod ov m pl)
      callWith pos f first (backTo pos (starEach (e :: es) X.env)) (backToKw pos (keywordEach [] X.env))) := by rfl) :
    PE X (.Call (.Attribute o m apos) (e :: es) [] pos) (tMA P w K mg base CX m k E ta t) := by
  obtain ⟨rfl, rfl, rfl, rfl, rfl⟩ := hX
  refine ⟨fun pins s σ H Q I h => ?_⟩
  refine PySem.W.methodCall_KW (pl := pl) (thn (he.run pins s σ H _ I h) fun u s1 ⟨xv, H1, I1, rx, a, C, dx, fs, j, ps, dvs, sp, ex, ea, c, l, M, hj, q⟩ => ?_) ht
  subst ex
  obtain rfl : u = Value.ref a := rx
  obtain ⟨f, fd, ds, F, hm, hb, hd⟩ := M.ex
  refine getmeth_ok I1 ea c hm l ?_
  refine PySem.W.callWith_K (first := [.ref a]) (h₀ := X.base) I.ok.mod.kin hm.kp (thn (ha.run pos pins s1 σ H1 _ I1 q) fun us s2 ⟨vs, H2, I2, r, q2⟩ => ⟨I2.kIn, ?_⟩) hst hpl
  exact run_fn (us := .ref a :: us) (vs := .ref a :: vs) F (hr.mono hj) hb hd hx I2 (.cons rfl r) q2
theorem pe_maX0 {pl : Sem Bool} (hX : Sx X P w K mg base) (hr : Room k X.A) (hx : Passes CX X E) (he : PE X o ta)
    (ht : eval (.Call (.Attribute o m apos) [] [] pos) X.env = (do
      let ov ← eval o X.env
      standAt apos.atName
      let (f, first) ← holding [ov] (getMethod ov m pl)
      callWith pos f first (backTo pos (starEach [] X.env)) (backToKw pos (keywordEach [] X.env))) := by rfl) :
    PE X (.Call (.Attribute o m apos) [] [] pos) (tMA P w K mg base CX m k E ta tNil) := by
  obtain ⟨rfl, rfl, rfl, rfl, rfl⟩ := hX
  refine ⟨fun pins s σ H Q I h => ?_⟩
  refine PySem.W.methodCall_KW (pl := pl) (thn (he.run pins s σ H _ I h) fun u s1 ⟨xv, H1, I1, rx, a, C, dx, fs, j, ps, dvs, sp, ex, ea, c, l, M, hj, q⟩ => ?_) ht
  subst ex
  obtain rfl : u = Value.ref a := rx
  obtain ⟨f, fd, ds, F, hm, hb, hd⟩ := M.ex
  refine getmeth_ok I1 ea c hm l ?_
  exact PySem.W.callWith_K0 (first := [.ref a]) I1.kIn hm.kp (run_fn (us := [.ref a]) (vs := [.ref a]) F (hr.mono hj) hb hd hx I1 (.cons rfl .nil) q)
theorem pe_ma {pl : Sem Bool} (hX : Sx X P w K mg base) (hr : Room k X.A) (he : PE X o ta) (ha : PA X (e :: es) t)
    (hst : starEach (e :: es) X.env = (false, eval e X.env) :: starEach es X.env := by rfl) (hpl : (backTo pos (starEach es X.env)).any (·.1) = false := by rfl)
    (ht : eval (.Call (.Attribute o m apos) (e :: es) [] pos) X.env = (do
      let ov ← eval o X.env
      standAt apos.atName
      let (f, first) ← holding [ov] (getMethod ov m pl)
      callWith pos f first (backTo pos (starEach (e :: es) X.env)) (backToKw pos (keywordEach [] X.env))) := by rfl) :
    PE X (.Call (.Attribute o m apos) (e :: es) [] pos) (tMA P w K mg base CX0 m k E0 ta t) := pe_maX (pl := pl) hX hr pass0 he ha hst hpl ht
theorem pe_ma0 {pl : Sem Bool} (hX : Sx X P w K mg base) (hr : Room k X.A) (he : PE X o ta)
    (ht : eval (.Call (.Attribute o m apos) [] [] pos) X.env = (do
      let ov ← eval o X.env
      standAt apos.atName
      let (f, first) ← holding [ov] (getMethod ov m pl)
      callWith pos f first (backTo pos (starEach [] X.env)) (backToKw pos (keywordEach [] X.env))) := by rfl) :
    PE X (.Call (.Attribute o m apos) [] [] pos) (tMA P w K mg base CX0 m k E0 ta tNil) := pe_maX0 (pl := pl) hX hr pass0 he ht
/-- a name of the module as a value -/
def tGv (mg : Str → Option Value) (x : Str) : TE := fun _ H Q => ∃ v u, mg x = some u ∧ RelV v u ∧ Q v H
theorem pe_gv (hm : X.mg = mg) (hg : Gl X x) (hd : (x == ("__debug__" : Str)) = false := by decide) : PE X (.Name x p) (tGv mg x) := by
  subst hm
  refine ⟨fun pins s σ H Q I h => ?_⟩
  obtain ⟨v, u, hm, r, q⟩ := h
  exact ld_glob I hg hm ⟨v, H, I, r, q⟩ hd
end
/-! ### == of a list with [] -/
def rEqE : R2 := fun x y H Q => ∃ a b xs, x = .ref a ∧ y = .ref b ∧ H a = some (.lst xs) ∧ H b = some (.lst []) ∧ Q (.bl xs.isEmpty) H
def rNeE : R2 := fun x y H Q => ∃ a b xs, x = .ref a ∧ y = .ref b ∧ H a = some (.lst xs) ∧ H b = some (.lst []) ∧ Q (.bl (!xs.isEmpty)) H
/-! ### readings, step by step -/
section
variable {σ σ' : L2.St} {H H1 : Hp} {Q : VK} {D : Ends} {v x y z : V} {a b : Bool} {i j : Int} {n : Nat} {ta tb tc te : TE} {t u : TT} {s1 s2 : TS} {ar : TA} {r r' : R2} {g : TG} {Qb : Bool → Hp → Prop} {Qa : List V → Hp → Prop} {Qs : L2.St → Hp → Prop} {K : PySem.W.Frag}
theorem w_var (h : σ[n]? = some (some v)) (q : Q v H) : tVar n σ H Q := ⟨v, h, q⟩
theorem w_c (q : Q v H) : tC v σ H Q := q
theorem w_op (q : ta σ H fun x H1 => tb σ H1 fun y H2 => r x y H2 Q) : tOp r ta tb σ H Q := q
theorem w_un {r : V → Hp → VK → Prop} (q : ta σ H fun x H1 => r x H1 Q) : tUn r ta σ H Q := q
theorem w_I0 {f : Int → Int → V} (q : Q (f i j) H) : rI0 f (.int i) (.int j) H Q := ⟨_, _, rfl, rfl, q⟩
theorem w_I {C : Int → Int → Prop} {f : Int → Int → V} (c : C i j) (q : Q (f i j) H) : rI C f (.int i) (.int j) H Q := ⟨_, _, rfl, rfl, c, q⟩
theorem w_U {f : Int → V} (q : Q (f i) H) : rU f (.int i) H Q := ⟨_, rfl, q⟩
theorem w_eq (h : scal x y = true) (q : Q (.bl (decide (x = y))) H) : rEq x y H Q := ⟨h, q⟩
theorem w_ne (h : scal x y = true) (q : Q (.bl (!decide (x = y))) H) : rNe x y H Q := ⟨h, q⟩
theorem w_test (q : te σ H fun x H' => ∃ k, x = .bl k ∧ Qb k H') : tTest te σ H Qb := q
theorem w_B (q : te σ H fun x H' => ∃ k, x = .bl k ∧ Qb k H') : tB te σ H Qb := q
theorem w_bl {R : Bool → Prop} (q : R a) : ∃ k, V.bl a = .bl k ∧ R k := ⟨_, rfl, q⟩
theorem w_and (q : t σ H fun c H1 => if c = true then u σ H1 Qb else Qb false H1) : tAnd t u σ H Qb := q
theorem w_or (q : t σ H fun c H1 => if c = true then Qb true H1 else u σ H1 Qb) : tOr t u σ H Qb := q
theorem w_not (q : t σ H fun c H1 => Qb (!c) H1) : tNot t σ H Qb := q
theorem w_andV (q : ta σ H fun x H1 => ∃ c, x = .bl c ∧ if c = true then tb σ H1 Q else Q (.bl false) H1) : tAndV ta tb σ H Q := q
theorem w_orV (q : ta σ H fun x H1 => ∃ c, x = .bl c ∧ if c = true then Q (.bl true) H1 else tb σ H1 Q) : tOrV ta tb σ H Q := q
theorem w_notV (q : ta σ H fun x H1 => ∃ c, x = .bl c ∧ Q (.bl (!c)) H1) : tNotV ta σ H Q := q
theorem w_chain (q : ta σ H fun x H1 => tb σ H1 fun y H2 => r x y H2 fun z H3 => ∃ k, z = .bl k ∧ (if k = true then tc σ H3 fun z H4 => r' y z H4 Q else Q (.bl false) H3)) : tChain r r' ta tb tc σ H Q := q
theorem w_seq (q : s1 { D with nx := s2 D } σ H) : tSeq s1 s2 D σ H := q
theorem w_next (q : D.nx σ H) : tNext D σ H := q
theorem w_ret (q : te σ H D.rt) : tRet te D σ H := q
theorem w_retN (q : D.rt .non H) : tRetN D σ H := q
theorem w_if (q : t σ H fun b H1 => if b = true then s1 D σ H1 else s2 D σ H1) : tIfS t s1 s2 D σ H := q
theorem w_drop (q : te σ H fun _ H1 => D.nx σ H1) : tDrop te D σ H := q
theorem w_asg (q : te σ H fun x H1 => g x σ H1 D.nx) : tAsg te g D σ H := q
theorem w_name (q : Qs (σ.set n (some v)) H) : gName n v σ H Qs := q
theorem w_name2 (h : σ.set n (some v) = σ') (q : Qs σ' H) : gName n v σ H Qs := by subst h; exact q
theorem w_nil (q : Qa [] H) : tNil σ H Qa := q
theorem w_cons (q : te σ H fun x H1 => ar σ H1 fun xs H2 => Qa (x :: xs) H2) : tCons te ar σ H Qa := q
theorem w_cb {r : List V → Hp → VK → Prop} (q : ar σ H fun vs H1 => r vs H1 Q) : tCB r ar σ H Q := q
theorem w_cont (q : D.ct σ H) : tCont D σ H := q
end
end Mn

namespace Mn
open PySem PySem.Spec PyProof.Rows L2
/-! ### named readings of what has none -/
section
variable {X : Cx} {K : PySem.W.Frag} {σ : L2.St} {H H1 H2 : Hp} {Q : VK} {D : Ends} {v x y z : V} {a b p q : Addr} {i j : Int} {n : Nat} {xs ys zs : List V} {s s' : Str} {Qs : L2.St → Hp → Prop} {Qt : Hp → Prop} {f : Str} {fs : List (Str × V)} {C dx : Addr} {ta tv te to ti : TE} {ar : TA}
theorem same_new (h : H p = none) (o : HO) : Same H (upd H p o) := fun b u q => by rw [upd_ne (ne_of_none q h)]; exact q
theorem same_upd {o : HO} (s : Same H H1) (h : H1 p = none) : Same H (upd H1 p o) := s.trans (same_new h o)
/-- an object that was not there at the start may change -/
theorem same_mut {o : HO} (s : Same H H1) (h : H p = none) : Same H (upd H1 p o) := fun b u q => by rw [upd_ne (ne_of_none q h)]; exact s b u q
theorem sqT_same (e : Same H H1) (h : SqT K H a xs) : SqT K H1 a xs := by
  rcases h with (h | ⟨o, h⟩) | h
  · exact .inl (.inl (e _ _ h))
  · exact .inl (.inr ⟨o, e _ _ h⟩)
  · exact .inr h
theorem rd_same {u : HO} (e : Same H H1) (h : Rd H a u) : Rd H1 a u := by
  rcases h with h | ⟨o, h⟩
  · exact .inl (e _ _ h)
  · exact .inr ⟨o, e _ _ h⟩
def cLenL (K : PySem.W.Frag) : List V → Hp → VK → Prop := fun xs H Q => ∃ p ys, xs = [.ref p] ∧ SqL K H p ys ∧ Q (.int ys.length) H
theorem call_lenL : CallR X (.builtin "len") (cLenL X.K) := fun pins s σ H xs us Q I r h => by
  obtain ⟨p, ys, e, hq, q⟩ := h
  exact call_len_seq pins s σ H xs us Q I r ⟨p, ys, e, .inl hq, q⟩
theorem w_lenL (h : SqL K H p ys) (q : Q (.int ys.length) H) : cLenL K [.ref p] H Q := ⟨_, _, rfl, h, q⟩
def cLenT (K : PySem.W.Frag) : List V → Hp → VK → Prop := fun xs H Q => ∃ p ys, xs = [.ref p] ∧ SqT K H p ys ∧ Q (.int ys.length) H
theorem call_lenT : CallR X (.builtin "len") (cLenT X.K) := fun pins s σ H xs us Q I r h => by
  obtain ⟨p, ys, e, hq, q⟩ := h
  exact call_len_seq pins s σ H xs us Q I r ⟨p, ys, e, .inr hq, q⟩
theorem w_lenT (h : SqT K H p ys) (q : Q (.int ys.length) H) : cLenT K [.ref p] H Q := ⟨_, _, rfl, h, q⟩
def cLenS : List V → Hp → VK → Prop := fun xs H Q => ∃ z, xs = [.str z] ∧ z.length ≤ sizeLine ∧ Q (.int z.length) H
theorem call_lenS : CallR X (.builtin "len") cLenS := call_len_str
theorem w_lenS (h : s.length ≤ sizeLine) (q : Q (.int s.length) H) : cLenS [.str s] H Q := ⟨_, rfl, h, q⟩
def cStrI : List V → Hp → VK → Prop := fun xs H Q => ∃ i, xs = [.int i] ∧ i.natAbs.log2 < 1920 ∧ Q (.str (toString i)) H
theorem call_strI : CallR X (.type "str") cStrI := call_str_int
theorem w_strI (h : i.natAbs.log2 < 1920) (q : Q (.str (toString i)) H) : cStrI [.int i] H Q := ⟨_, rfl, h, q⟩
def cIntS : List V → Hp → VK → Prop := fun xs H Q => ∃ a n, xs = [.str a] ∧ PySem.intText? a = some n ∧ a.length ≤ 640 ∧ Q (.int n) H
theorem call_intS : CallR X (.type "int") cIntS := call_int_str
theorem w_intS (h : PySem.intText? s = some i) (l : s.length ≤ 640) (q : Q (.int i) H) : cIntS [.str s] H Q := ⟨_, _, rfl, h, l, q⟩
def cIntB : List V → Hp → VK → Prop := fun xs H Q => ∃ k, xs = [.bl k] ∧ Q (.int (if k then 1 else 0)) H
theorem call_intB : CallR X (.type "int") cIntB := fun pins s σ H xs us Q I r h => call_int1 pins s σ H xs us Q I r (.inr h)
theorem w_intB {k : Bool} (q : Q (.int (if k then 1 else 0)) H) : cIntB [.bl k] H Q := ⟨_, rfl, q⟩
def cListL (K : PySem.W.Frag) : List V → Hp → VK → Prop := fun xs H Q => ∃ p ys, xs = [.ref p] ∧ SqL K H p ys ∧ ∀ l, H l = none → Q (.ref l) (upd H l (.lst ys))
theorem call_listL : CallR X (.type "list") (cListL X.K) := fun pins s σ H xs us Q I r h => by
  obtain ⟨p, ys, e, hq, q⟩ := h
  exact call_list_of pins s σ H xs us Q I r ⟨p, ys, e, .inl hq, q⟩
theorem w_listL (h : SqL K H p ys) (q : ∀ l, H l = none → Q (.ref l) (upd H l (.lst ys))) : cListL K [.ref p] H Q := ⟨_, _, rfl, h, q⟩
def cDivmod : List V → Hp → VK → Prop := fun xs H Q => ∃ i j, xs = [.int i, .int j] ∧ CDiv i j ∧ ∀ p, H p = none → Q (.ref p) (upd H p (.tup [.int (i / j), .int (i % j)]))
theorem call_divmodI : CallR X (.builtin "divmod") cDivmod := call_divmod
theorem w_divmod (c : CDiv i j) (q : ∀ p, H p = none → Q (.ref p) (upd H p (.tup [.int (i / j), .int (i % j)]))) : cDivmod [.int i, .int j] H Q := ⟨_, _, rfl, c, q⟩
def cMax : List V → Hp → VK → Prop := fun xs H Q => ∃ i j, xs = [.int i, .int j] ∧ Q (.int (if j > i then j else i)) H
theorem call_maxI (hc : X.calm = true) : CallR X (.builtin "max") cMax := call_max2 hc
theorem w_max (q : Q (.int (max i j)) H) : cMax [.int i, .int j] H Q := ⟨_, _, rfl, by
  have e : (if j > i then j else i) = max i j := by rw [Int.max_def]; split <;> split <;> omega
  rw [e]; exact q⟩
def cMin : List V → Hp → VK → Prop := fun xs H Q => ∃ i j, xs = [.int i, .int j] ∧ Q (.int (if j < i then j else i)) H
theorem call_minI (hc : X.calm = true) : CallR X (.builtin "min") cMin := call_min2 hc
theorem w_min (q : Q (.int (min i j)) H) : cMin [.int i, .int j] H Q := ⟨_, _, rfl, by
  have e : (if j < i then j else i) = min i j := by rw [Int.min_def]; split <;> split <;> omega
  rw [e]; exact q⟩
def rAddS : R2 := fun x y H Q => ∃ i j, x = .str i ∧ y = .str j ∧ i.length + j.length ≤ sizeLine ∧ Q (.str (i ++ j)) H
theorem op_addS : OpR X (binaryOp .Add) rAddS := op_add_str
theorem w_addS (h : s.length + s'.length ≤ sizeLine) (q : Q (.str (s ++ s')) H) : rAddS (.str s) (.str s') H Q := ⟨_, _, rfl, rfl, h, q⟩
def rInS : R2 := fun x y H Q => ∃ i j, x = .str i ∧ y = .str j ∧ Q (.bl (!(Builtin.Str.occurrences j i 0 j.length 1).isEmpty)) H
theorem op_inS : OpR X (compareOp .In) rInS := op_in_str
theorem w_inS (q : Q (.bl (!(Builtin.Str.occurrences s' s 0 s'.length 1).isEmpty)) H) : rInS (.str s) (.str s') H Q := ⟨_, _, rfl, rfl, q⟩
def rNinS : R2 := fun x y H Q => ∃ i j, x = .str i ∧ y = .str j ∧ Q (.bl (!(!(Builtin.Str.occurrences j i 0 j.length 1).isEmpty))) H
theorem op_ninS : OpR X (compareOp .NotIn) rNinS := op_notIn_str
theorem w_ninS (q : Q (.bl (!(!(Builtin.Str.occurrences s' s 0 s'.length 1).isEmpty))) H) : rNinS (.str s) (.str s') H Q := ⟨_, _, rfl, rfl, q⟩
def rIsN : R2 := fun x y H Q => y = .non ∧ Q (.bl (decide (x = .non))) H
theorem op_isNn : OpR X (compareOp .Is) rIsN := op_isN
theorem w_isN (q : Q (.bl (decide (x = .non))) H) : rIsN x .non H Q := ⟨rfl, q⟩
def rNotN : R2 := fun x y H Q => y = .non ∧ Q (.bl (!decide (x = .non))) H
theorem op_notNn : OpR X (compareOp .IsNot) rNotN := op_notN
theorem w_notN (q : Q (.bl (!decide (x = .non))) H) : rNotN x .non H Q := ⟨rfl, q⟩
theorem w_ixL (h : SqL K H p xs) (e : atI xs i = some v) (q : Q v H) : rIxL K (.ref p) (.int i) H Q := ⟨_, _, _, _, rfl, rfl, h, e, q⟩
theorem w_ixT (h : SqT K H p xs) (e : atI xs i = some v) (q : Q v H) : rIxT K (.ref p) (.int i) H Q := ⟨_, _, _, _, rfl, rfl, h, e, q⟩
theorem w_ixS {c : Nat} (l : s.length ≤ sizeLine) (e : atI s.cps.toList i = some c) (q : Q (.str ⟨#[c]⟩) H) : rIxS (.str s) (.int i) H Q := ⟨_, _, _, rfl, rfl, l, e, q⟩
theorem w_app (h : H p = some (.lst xs)) (l : xs.length < sizeLine) (q : Q .non (upd H p (.lst (xs ++ [y])))) : rAppend (.ref p) [y] H Q := ⟨_, _, _, rfl, rfl, h, l, q⟩
theorem w_cat (h : H p = some (.lst xs)) (h' : H a = some (.lst ys)) (l : xs.length + ys.length ≤ sizeLine) (q : ∀ r, H r = none → Q (.ref r) (upd H r (.lst (xs ++ ys)))) : rCat (.ref p) (.ref a) H Q := ⟨_, _, _, _, rfl, rfl, h, h', l, q⟩
theorem w_bm {T : String} {r : V → List V → Hp → VK → Prop} (q : to σ H fun x H1 => tyV K T x H1 ∧ ar σ H1 fun xs H2 => r x xs H2 Q) : tBM K T r to ar σ H Q := q
theorem w_bm0 {T : String} {r : V → List V → Hp → VK → Prop} (q : to σ H fun x H1 => tyV K T x H1 ∧ r x [] H1 Q) : tBM0 K T r to σ H Q := q
theorem w_tyL {P : Prop} (h : SqL K H p xs) (q : P) : tyV K "list" (.ref p) H ∧ P := ⟨.inl ⟨rfl, _, h⟩, q⟩
theorem w_tyS {P : Prop} (q : P) : tyV K "str" (.str s) H ∧ P := ⟨rfl, q⟩
theorem w_tyI {P : Prop} (q : P) : tyV K "int" (.int i) H ∧ P := ⟨rfl, q⟩
theorem w_lst (q : ar σ H fun xs H1 => xs.length ≤ sizeLine ∧ ∀ p, H1 p = none → Q (.ref p) (upd H1 p (.lst xs))) : tLst ar σ H Q := q
theorem w_tup (q : ar σ H fun xs H1 => xs.length ≤ sizeLine ∧ ∀ p, H1 p = none → Q (.ref p) (upd H1 p (.tup xs))) : tTup ar σ H Q := q
theorem w_new {P : Addr → Prop} (l : xs.length ≤ sizeLine) (q : ∀ p, H p = none → P p) : xs.length ≤ sizeLine ∧ ∀ p, H p = none → P p := ⟨l, q⟩
theorem w_sl {r : V → Option Int → Option Int → Hp → VK → Prop} {tl th : TO} (q : te σ H fun x H1 => tl σ H1 fun l H2 => th σ H2 fun u H3 => r x l u H3 Q) : tSl r te tl th σ H Q := q
theorem w_part {Qo : Option Int → Hp → Prop} (q : te σ H fun x H1 => ∃ i, x = .int i ∧ Qo (some i) H1) : tPart te σ H Qo := q
theorem w_part1 {R : Int → Prop} (q : R i) : ∃ j, V.int i = .int j ∧ R j := ⟨_, rfl, q⟩
theorem w_nopart {Qo : Option Int → Hp → Prop} (q : Qo none H) : tNoPart σ H Qo := q
theorem w_slL {lo hi : Option Int} (h : SqL K H p xs) (q : ∀ r, H r = none → Q (.ref r) (upd H r (.lst (cutV xs lo hi)))) : rSlL K (.ref p) lo hi H Q := ⟨_, _, rfl, h, q⟩
theorem w_slS {lo hi : Option Int} (l : s.length ≤ sizeLine) (q : Q (.str (cutS s lo hi)) H) : rSlS (.str s) lo hi H Q := ⟨_, rfl, l, q⟩
theorem w_m1 {r : V → List V → Hp → VK → Prop} (q : to σ H fun x H1 => (∃ a, x = .str a) ∧ te σ H1 fun y H2 => r x [y] H2 Q) : tM1 r to te σ H Q := q
theorem w_m0 {r : V → List V → Hp → VK → Prop} (q : to σ H fun x H1 => (∃ a, x = .str a) ∧ r x [] H1 Q) : tM0 r to σ H Q := q
theorem w_isS {P : Prop} (q : P) : (∃ a, V.str s = .str a) ∧ P := ⟨⟨_, rfl⟩, q⟩
/-- e.f at an instance -/
theorem w_fld (q : ta σ H fun x H1 => ∃ a C dx fs v, x = .ref a ∧ H1 a = some (.ins C dx fs) ∧ Cls K C ∧ NoAttr K C f ∧ fs.lookup f = some v ∧ Q v H1) : tFld K ta f σ H Q := q
theorem w_fld1 (h : H a = some (.ins C dx fs)) (c : Cls K C) (n : NoAttr K C f) (l : fs.lookup f = some v) {R : V → Prop} (q : R v) : ∃ a' C dx fs v', V.ref a = .ref a' ∧ H a' = some (.ins C dx fs) ∧ Cls K C ∧ NoAttr K C f ∧ fs.lookup f = some v' ∧ R v' := ⟨_, _, _, _, _, rfl, h, c, n, l, q⟩
theorem w_sfld (q : tv σ H fun y H1 => ta σ H1 fun x H2 => ∃ a C dx fs, x = .ref a ∧ H2 a = some (.ins C dx fs) ∧ Cls K C ∧ NoAttr K C f ∧ fs.length < 1000 ∧ D.nx σ (upd H2 a (.ins C dx (putF f y fs)))) : sFld K ta tv f D σ H := q
theorem w_sfld1 (h : H a = some (.ins C dx fs)) (c : Cls K C) (n : NoAttr K C f) (l : fs.length < 1000) {R : Hp → Prop} (q : R (upd H a (.ins C dx (putF f y fs)))) : ∃ a' C dx fs, V.ref a = .ref a' ∧ H a' = some (.ins C dx fs) ∧ Cls K C ∧ NoAttr K C f ∧ fs.length < 1000 ∧ R (upd H a' (.ins C dx (putF f y fs))) := ⟨_, _, _, _, rfl, h, c, n, l, q⟩
/-- a def's call: its promise -/
theorem w_ca {P : Program} {w : World} {mg : Str → Option Value} {base : Heap} {CX : CXT} {k j : Nat} {ps : List Str} {dvs : List V} {sp : Sp} {E : XK} (c : Cal P w K mg base CX f j ps dvs sp) (hj : j ≤ k) (q : ar σ H fun vs H1 => sp (vs ++ dvs) H1 Q E) : tCA P w K mg base CX f k E ar σ H Q := ⟨_, _, _, _, c, hj, q⟩
/-- a known test -/
theorem w_ite {c A B : Prop} [Decidable c] (h1 : c → A) (h2 : ¬ c → B) : if decide c = true then A else B := by
  by_cases h : c
  · rw [if_pos (decide_eq_true h)]; exact h1 h
  · rw [if_neg (by simp [h])]; exact h2 h
theorem w_iteN {c A B : Prop} [Decidable c] (h1 : ¬ c → A) (h2 : c → B) : if (!decide c) = true then A else B := by
  by_cases h : c
  · rw [if_neg (by simp [h])]; exact h2 h
  · rw [if_pos (by simp [h])]; exact h1 h
theorem w_iteB {c : Bool} {A B : Prop} (h1 : c = true → A) (h2 : c = false → B) : if c = true then A else B := by
  cases c
  · rw [if_neg Bool.false_ne_true]; exact h2 rfl
  · rw [if_pos rfl]; exact h1 rfl
end
/-! ### loops and comprehensions -/
section
variable {K : PySem.W.Frag} {σ : L2.St} {H : Hp} {Q : VK} {D : Ends} {a : Addr} {xs : List V} {g : TG} {tb : TS} {tt : TT} {te tl : TE} {vs : List Nat} {ar : TA}
theorem w_for {wi : TI} (q : wi σ H fun J H1 => ∃ W : Nat → Nat → L2.St → Hp → Prop, (∃ m, W 0 m σ H1) ∧ ∀ i m σ H, W i m σ H →
  (J.stop i H ∧ D.nx σ H) ∨ (J.go i H ∧ ∃ N : L2.St → Hp → Prop, (∀ σ' H', N σ' H' → ∃ m', m' < m ∧ W (i + 1) m' σ' H') ∧ ∀ x H', J.yld i H x H' → g x σ H' fun σ2 H2 => tb { D with nx := N, ct := N, bk := D.nx } σ2 H2)) : tFor wi g tb D σ H := q
theorem w_iList {R : It → Hp → Prop} (q : tl σ H fun x H1 => ∃ a, x = .ref a ∧ (∃ xs, SqL K H1 a xs) ∧ R (Itl K a) H1) : iList K tl σ H R := q
theorem w_iRng {R : It → Hp → Prop} (q : ar σ H fun vs H1 => ∃ j : Int, vs = [.int j] ∧ -(2 ^ 62) ≤ j ∧ j < 2 ^ 62 ∧ R (Itr 0 j.toNat) H1) : iRng1 ar σ H R := q
theorem w_iRng2 {R : It → Hp → Prop} (q : ar σ H fun vs H1 => ∃ i j : Int, vs = [.int i, .int j] ∧ (-(2 ^ 62) ≤ i ∧ i < 2 ^ 62 ∧ -(2 ^ 62) ≤ j ∧ j < 2 ^ 62) ∧ R (Itr i (j - i).toNat) H1) : iRng2 ar σ H R := q
/-- the loop over the list at a: an invariant over turn, slots, heap -/
theorem w_forL (Pv : Nat → L2.St → Hp → Prop) (hS : SqL K H a xs) (h0 : Pv 0 σ H) (hl : ∀ i σ H, i ≤ xs.length → Pv i σ H → SqL K H a xs)
    (hs : ∀ i x σ H, xs[i]? = some x → Pv i σ H → g x σ H fun σ2 H2 => tb { D with nx := Pv (i + 1), ct := Pv (i + 1), bk := D.nx } σ2 H2) (hd : ∀ σ H, Pv xs.length σ H → D.nx σ H) :
    ∃ a', V.ref a = .ref a' ∧ (∃ xs, SqL K H a' xs) ∧ ∃ W : Nat → Nat → L2.St → Hp → Prop, (∃ m, W 0 m σ H) ∧ ∀ i m σ H, W i m σ H →
      ((Itl K a').stop i H ∧ D.nx σ H) ∨ ((Itl K a').go i H ∧ ∃ N : L2.St → Hp → Prop, (∀ σ' H', N σ' H' → ∃ m', m' < m ∧ W (i + 1) m' σ' H') ∧ ∀ x H', (Itl K a').yld i H x H' → g x σ H' fun σ2 H2 => tb { D with nx := N, ct := N, bk := D.nx } σ2 H2) :=
  ⟨a, rfl, ⟨_, hS⟩, for_list Pv h0 hl hs hd⟩
theorem w_forR {n : Int} (Pv : Nat → L2.St → Hp → Prop) (b1 : -(2 ^ 62) ≤ n) (b2 : n < 2 ^ 62) (h0 : Pv 0 σ H)
    (hs : ∀ i σ H, i < n.toNat → Pv i σ H → g (.int (0 + i)) σ H fun σ2 H2 => tb { D with nx := Pv (i + 1), ct := Pv (i + 1), bk := D.nx } σ2 H2) (hd : ∀ σ H, Pv n.toNat σ H → D.nx σ H) :
    ∃ j : Int, [V.int n] = [V.int j] ∧ -(2 ^ 62) ≤ j ∧ j < 2 ^ 62 ∧ ∃ W : Nat → Nat → L2.St → Hp → Prop, (∃ m, W 0 m σ H) ∧ ∀ i m σ H, W i m σ H →
      ((Itr 0 j.toNat).stop i H ∧ D.nx σ H) ∨ ((Itr 0 j.toNat).go i H ∧ ∃ N : L2.St → Hp → Prop, (∀ σ' H', N σ' H' → ∃ m', m' < m ∧ W (i + 1) m' σ' H') ∧ ∀ x H', (Itr 0 j.toNat).yld i H x H' → g x σ H' fun σ2 H2 => tb { D with nx := N, ct := N, bk := D.nx } σ2 H2) :=
  ⟨n, rfl, b1, b2, for_range Pv h0 hs hd⟩
theorem w_lc {wi : TI} (q : wi σ H fun J H1 => ∀ D, H1 D = none → ∃ W : Nat → Nat → Hp → Prop, (∃ m, W 0 m (upd H1 D (.lst []))) ∧ ∀ i m H, W i m H →
  (J.stop i H ∧ Q (.ref D) H) ∨ (J.go i H ∧ ∃ Nx : Hp → Prop, (∀ H', Nx H' → ∃ m', m' < m ∧ W (i + 1) m' H') ∧ ∀ x H', J.yld i H x H' → g x (wipe σ vs) H' fun σ2 H2 => wipe σ2 vs = wipe σ vs ∧ tt σ2 H2 fun b H3 =>
    if b = true then te σ2 H3 fun y H4 => ∃ acc, H4 D = some (.lst acc) ∧ acc.length < sizeLine ∧ Nx (upd H4 D (.lst (acc ++ [y]))) else Nx H3)) : tLc wi g tt te vs σ H Q := q
theorem w_yes {Qb : Bool → Hp → Prop} (q : Qb true H) : tYes σ H Qb := q
/-- a comprehension over the list at a, in general -/
theorem w_lcL {Rq : Addr → Hp → Prop} (Pv : Addr → Nat → Hp → Prop) (hS : SqL K H a xs) (h0 : ∀ C, H C = none → Pv C 0 (upd H C (.lst []))) (hl : ∀ C i H', H C = none → i ≤ xs.length → Pv C i H' → SqL K H' a xs)
    (hs : ∀ C i x H', H C = none → xs[i]? = some x → Pv C i H' → g x (wipe σ vs) H' fun σ2 H2 => wipe σ2 vs = wipe σ vs ∧ tt σ2 H2 fun b H3 =>
      if b = true then te σ2 H3 fun y H4 => ∃ acc, H4 C = some (.lst acc) ∧ acc.length < sizeLine ∧ Pv C (i + 1) (upd H4 C (.lst (acc ++ [y]))) else Pv C (i + 1) H3) (hd : ∀ C H', H C = none → Pv C xs.length H' → Rq C H') :
    ∃ a', V.ref a = .ref a' ∧ (∃ xs, SqL K H a' xs) ∧ ∀ C, H C = none → ∃ W : Nat → Nat → Hp → Prop, (∃ m, W 0 m (upd H C (.lst []))) ∧ ∀ i m H, W i m H →
      ((Itl K a').stop i H ∧ Rq C H) ∨ ((Itl K a').go i H ∧ ∃ Nx : Hp → Prop, (∀ H', Nx H' → ∃ m', m' < m ∧ W (i + 1) m' H') ∧ ∀ x H', (Itl K a').yld i H x H' → g x (wipe σ vs) H' fun σ2 H2 => wipe σ2 vs = wipe σ vs ∧ tt σ2 H2 fun b H3 =>
        if b = true then te σ2 H3 fun y H4 => ∃ acc, H4 C = some (.lst acc) ∧ acc.length < sizeLine ∧ Nx (upd H4 C (.lst (acc ++ [y]))) else Nx H3) :=
  ⟨a, rfl, ⟨_, hS⟩, fun C hC => lc_list (Pv C) (h0 C hC) (fun i H' hi p => hl C i H' hC hi p) (fun i x H' hx p => hs C i x H' hC hx p) fun H' p => hd C H' hC p⟩
theorem w_lcR {Rq : Addr → Hp → Prop} {n : Int} (Pv : Addr → Nat → Hp → Prop) (b1 : -(2 ^ 62) ≤ n) (b2 : n < 2 ^ 62) (h0 : ∀ C, H C = none → Pv C 0 (upd H C (.lst [])))
    (hs : ∀ C i H', H C = none → i < n.toNat → Pv C i H' → g (.int (0 + i)) (wipe σ vs) H' fun σ2 H2 => wipe σ2 vs = wipe σ vs ∧ tt σ2 H2 fun b H3 =>
      if b = true then te σ2 H3 fun y H4 => ∃ acc, H4 C = some (.lst acc) ∧ acc.length < sizeLine ∧ Pv C (i + 1) (upd H4 C (.lst (acc ++ [y]))) else Pv C (i + 1) H3) (hd : ∀ C H', H C = none → Pv C n.toNat H' → Rq C H') :
    ∃ j : Int, [V.int n] = [V.int j] ∧ -(2 ^ 62) ≤ j ∧ j < 2 ^ 62 ∧ ∀ C, H C = none → ∃ W : Nat → Nat → Hp → Prop, (∃ m, W 0 m (upd H C (.lst []))) ∧ ∀ i m H, W i m H →
      ((Itr 0 j.toNat).stop i H ∧ Rq C H) ∨ ((Itr 0 j.toNat).go i H ∧ ∃ Nx : Hp → Prop, (∀ H', Nx H' → ∃ m', m' < m ∧ W (i + 1) m' H') ∧ ∀ x H', (Itr 0 j.toNat).yld i H x H' → g x (wipe σ vs) H' fun σ2 H2 => wipe σ2 vs = wipe σ vs ∧ tt σ2 H2 fun b H3 =>
        if b = true then te σ2 H3 fun y H4 => ∃ acc, H4 C = some (.lst acc) ∧ acc.length < sizeLine ∧ Nx (upd H4 C (.lst (acc ++ [y]))) else Nx H3) :=
  ⟨n, rfl, b1, b2, fun C hC => lc_range (Pv C) (h0 C hC) (fun i H' hi p => hs C i H' hC hi p) fun H' p => hd C H' hC p⟩
/-- what stands behind i items, where each gives a value or none and nothing else changes -/
def LcF (H : Hp) (xs : List V) (f : V → Option V) (C : Addr) (i : Nat) (H' : Hp) : Prop := Same H H' ∧ H' C = some (.lst ((xs.take i).filterMap f))
theorem take_succ' {α : Type} {xs : List α} {i : Nat} {x : α} (h : xs[i]? = some x) : xs.take (i + 1) = xs.take i ++ [x] := by
  rw [List.take_add_one, h]; rfl
theorem lcF_0 {f : V → Option V} {C : Addr} (h : H C = none) : LcF H xs f C 0 (upd H C (.lst [])) := ⟨same_new h _, by rw [upd_same]; rfl⟩
theorem lcF_yes {f : V → Option V} {C : Addr} {i : Nat} {x y : V} {H4 : Hp} (p : LcF H xs f C i H4) (h : H C = none) (hx : xs[i]? = some x) (hf : f x = some y) (hz : xs.length ≤ 100000) :
    ∃ acc, H4 C = some (.lst acc) ∧ acc.length < sizeLine ∧ LcF H xs f C (i + 1) (upd H4 C (.lst (acc ++ [y]))) := by
  refine ⟨_, p.2, ?_, same_mut p.1 h, ?_⟩
  · have h1 := List.length_filterMap_le f (xs.take i)
    rw [List.length_take] at h1
    have h2 := sizeLine_eq
    omega
  · rw [upd_same, take_succ' hx, List.filterMap_append, List.filterMap_cons_some hf]; rfl
theorem lcF_no {f : V → Option V} {C : Addr} {i : Nat} {x : V} {H4 : Hp} (p : LcF H xs f C i H4) (hx : xs[i]? = some x) (hf : f x = none) : LcF H xs f C (i + 1) H4 := by
  refine ⟨p.1, ?_⟩
  rw [p.2, take_succ' hx, List.filterMap_append, List.filterMap_cons_none hf, List.filterMap_nil, List.append_nil]
end
/-! ### isinstance; == of lists of ints -/
section
variable {X : Cx} {K : PySem.W.Frag} {H : Hp} {Q : VK} {a b : Addr} {ns ms : List Int} {x : V}
theorem w_isi {n t : String} {r : Bool} (ty : TyX K H x (.type t)) (k : kitB t n = some r) (q : Q (.bl r) H) : rIsi K [x, .ty n] H Q := ⟨_, _, _, _, _, rfl, ClsV.ty n, ty, kit_ty k, q⟩
theorem dpAll_ints : ∀ ns : List Int, DpAll K H (ns.map V.int) (ns.map PyData.int)
  | [] => .nil
  | n :: r => .cons (.int n) (dpAll_ints r)
theorem eqvAll_ints : ∀ ns ms : List Int, PyData.eqvAll (ns.map PyData.int) (ms.map PyData.int) = decide (ns = ms)
  | [], [] => by simp [PyData.eqvAll]
  | [], _ :: _ => by simp [PyData.eqvAll]
  | _ :: _, [] => by simp [PyData.eqvAll]
  | n :: r, k :: q => by
    simp only [List.map_cons, PyData.eqvAll, PyData.eqv, eqvAll_ints r q]
    by_cases h : n = k <;> simp [h]
theorem eqv_ints : PyData.eqv (.list (ns.map PyData.int)) (.list (ms.map PyData.int)) = decide (ns = ms) := by
  rw [PyData.eqv]; exact eqvAll_ints ns ms
def rEqI (K : PySem.W.Frag) : R2 := fun x y H Q => ∃ (a b : Addr) (ns ms : List Int), x = .ref a ∧ y = .ref b ∧ SqL K H a (ns.map V.int) ∧ SqL K H b (ms.map V.int) ∧ Q (.bl (decide (ns = ms))) H
def rNeI (K : PySem.W.Frag) : R2 := fun x y H Q => ∃ (a b : Addr) (ns ms : List Int), x = .ref a ∧ y = .ref b ∧ SqL K H a (ns.map V.int) ∧ SqL K H b (ms.map V.int) ∧ Q (.bl (!decide (ns = ms))) H
theorem op_eqLI (hu : X.A.units + 64 < cLine) : OpR X (compareOp .Eq) (rEqI X.K) := fun pins s σ H x y v u Q I rx ry h => by
  obtain ⟨a, b, ns, ms, rfl, rfl, h1, h2, q⟩ := h
  exact op_eqD hu pins s σ H _ _ v u Q I rx ry ⟨_, _, .lst h1 (dpAll_ints ns), .lst h2 (dpAll_ints ms), PySem.W.shaped_ints ns, PySem.W.shaped_ints ms, by rw [eqv_ints]; exact q⟩
theorem op_neLI (hu : X.A.units + 64 < cLine) : OpR X (compareOp .NotEq) (rNeI X.K) := fun pins s σ H x y v u Q I rx ry h => by
  obtain ⟨a, b, ns, ms, rfl, rfl, h1, h2, q⟩ := h
  exact op_neD hu pins s σ H _ _ v u Q I rx ry ⟨_, _, .lst h1 (dpAll_ints ns), .lst h2 (dpAll_ints ms), PySem.W.shaped_ints ns, PySem.W.shaped_ints ms, by rw [eqv_ints]; exact q⟩
theorem w_eqLI (h1 : SqL K H a (ns.map V.int)) (h2 : SqL K H b (ms.map V.int)) (q : Q (.bl (decide (ns = ms))) H) : rEqI K (.ref a) (.ref b) H Q := ⟨_, _, _, _, rfl, rfl, h1, h2, q⟩
theorem w_neLI (h1 : SqL K H a (ns.map V.int)) (h2 : SqL K H b (ms.map V.int)) (q : Q (.bl (!decide (ns = ms))) H) : rNeI K (.ref a) (.ref b) H Q := ⟨_, _, _, _, rfl, rfl, h1, h2, q⟩
theorem w_wip {σ σ' : L2.St} {vs : List Nat} {R : Prop} (h : wipe σ vs = wipe σ' vs) (q : R) : wipe σ vs = wipe σ' vs ∧ R := ⟨h, q⟩
theorem map_at {ns : List Int} {i : Nat} {x : V} (h : (ns.map V.int)[i]? = some x) : ∃ n, ns[i]? = some n ∧ x = .int n := by
  rw [List.getElem?_map] at h
  obtain ⟨t, ht, e⟩ := Option.map_eq_some_iff.mp h
  exact ⟨t, ht, e.symm⟩
theorem at_ints {ns : List Int} {k : Int} (h0 : 0 ≤ k) (h : k < (ns.length : Int)) : atI (ns.map V.int) k = some (V.int (ns.getD k.toNat 0)) := by
  refine at_of (j := k.toNat) (by omega) ?_
  rw [List.getElem?_map, List.getElem?_eq_getElem (by omega)]
  simp [List.getD, List.getElem?_eq_getElem (show k.toNat < ns.length by omega)]
theorem at_nat {xs : List V} {k : Int} {i : Nat} {v : V} (e : k = (i : Int)) (h : xs[i]? = some v) : atI xs k = some v := at_of e h
end
theorem kit_ll : kitB "list" "list" = some true := by decide +kernel
theorem kit_ii : kitB "int" "int" = some true := by decide +kernel
theorem kit_ib : kitB "int" "bool" = some false := by decide +kernel
theorem kit_bb : kitB "bool" "bool" = some true := by decide +kernel
theorem kit_tt : kitB "tuple" "tuple" = some true := by decide +kernel
theorem kit_ss : kitB "str" "str" = some true := by decide +kernel
theorem w_cut {t u : TS} {D : Ends} {σ : L2.St} {H : Hp} (Mid : L2.St → Hp → Prop) (h1 : t { D with nx := Mid } σ H) (h2 : ∀ σ' H', Mid σ' H' → u D σ' H') : C8.tCut t u D σ H := ⟨Mid, h1, h2⟩
section
variable {n : L2.St → Hp → Prop} {r : VK} {b c : L2.St → Hp → Prop} {σ : L2.St} {H : Hp} {v : V}
theorem w_nx (q : n σ H) : (Ends.mk n r b c).nx σ H := q
theorem w_rt (q : r v H) : (Ends.mk n r b c).rt v H := q
theorem w_bk (q : b σ H) : (Ends.mk n r b c).bk σ H := q
theorem w_ct (q : c σ H) : (Ends.mk n r b c).ct σ H := q
end
end Mn

namespace Mn
open PySem PySem.Spec PyProof.Rows L2
theorem ltb {n : Nat} (h : Nat.blt n 1000 = true) : n < 1000 := Nat.le_of_ble_eq_true h
/-! ### classes: their attributes -/
structure ClsF (K : PySem.W.Frag) (C : Addr) (fs : List Str) : Prop where
  cl : Cls K C
  no : ∀ f ∈ fs, NoAttr K C f
/-- Class.m(self, ..) -/
structure CMt (P : Program) (w : World) (K : PySem.W.Frag) (mg : Str → Option Value) (base : Heap) (CX : CXT) (x m : Str) (k : Nat) (ps : List Str) (dvs : List V) (sp : Sp) : Prop where
  ex : ∃ (C f : Addr) (mc : Value) (fd : FuncData) (ds : List Value), mg x = some (.ref C) ∧ ClX.CRead K C mc ∧ PySem.W.findCls K (.ref C) mc m = some (.val (.ref f)) ∧ FnOk P w K mg base CX k f fd ps sp ∧ PySem.W.keepIn K (.ref f) = true ∧ Binds K fd ps ds ∧ Vals dvs ds
section
variable {X : Cx} {P : Program} {w : World} {K : PySem.W.Frag} {mg : Str → Option Value} {base : Heap} {CX : CXT} {k : Nat} {E : XK} {x m : Str} {p pos apos : Pos} {e o : Expr} {es : List Expr} {ta : TE} {t : TA}
def tCMA (P : Program) (w : World) (K : PySem.W.Frag) (mg : Str → Option Value) (base : Heap) (CX : CXT) (x m : Str) (k : Nat) (E : XK) (t : TA) : TE := fun σ H Q => ∃ j ps dvs sp, CMt P w K mg base CX x m j ps dvs sp ∧ j ≤ k ∧ t σ H fun vs H1 => sp (vs ++ dvs) H1 Q E
theorem pe_cma {pl : Sem Bool} (hX : Sx X P w K mg base) (hr : Room k X.A) (hg : Gl X x) (ha : PA X (e :: es) t) (hdb : (x == ("__debug__" : Str)) = false := by decide)
    (hst : starEach (e :: es) X.env = (false, eval e X.env) :: starEach es X.env := by rfl) (hpl : (backTo pos (starEach es X.env)).any (·.1) = false := by rfl)
    (ht : eval (.Call (.Attribute (.Name x p) m apos) (e :: es) [] pos) X.env = (do
      let ov ← eval (.Name x p) X.env
      standAt apos.atName
      let (f, first) ← holding [ov] (getMethod ov m pl)
      callWith pos f first (backTo pos (starEach (e :: es) X.env)) (backToKw pos (keywordEach [] X.env))) := by rfl) :
    PE X (.Call (.Attribute (.Name x p) m apos) (e :: es) [] pos) (tCMA P w K mg base CX0 x m k E0 t) := by
  obtain ⟨rfl, rfl, rfl, rfl, rfl⟩ := hX
  refine ⟨fun pins s σ H Q I h => ?_⟩
  obtain ⟨j, ps, dvs, sp, M, hj, h⟩ := h
  obtain ⟨C, f, mc, fd, ds, hm, rd, fc, F, hk, hb, hd⟩ := M.ex
  refine PySem.W.methodCall_KW (pl := pl) (ld_glob I hg hm ?_ hdb) ht
  refine PySem.W.method_cls I.kIn rd.ga (ClX.getcval_ok (v := V.ref f) (u := Value.ref f) I rd ⟨fc, rfl⟩ fun s1 I1 => ?_)
  refine PySem.W.callWith_K (first := []) (h₀ := X.base) I.ok.mod.kin hk (thn (ha.run pos pins s1 σ H _ I1 h) fun us s2 ⟨vs, H2, I2, r, q2⟩ => ⟨I2.kIn, ?_⟩) hst hpl
  exact run_fn F (hr.mono hj) hb hd pass0 I2 r q2
theorem w_cma {σ : L2.St} {H : Hp} {Q : VK} {j : Nat} {ps : List Str} {dvs : List V} {sp : Sp} (c : CMt P w K mg base CX x m j ps dvs sp) (hj : j ≤ k) (q : t σ H fun vs H1 => sp (vs ++ dvs) H1 Q E) : tCMA P w K mg base CX x m k E t σ H Q := ⟨_, _, _, _, c, hj, q⟩
theorem w_mka {σ : L2.St} {H : Hp} {Q : VK} {j : Nat} {ps : List Str} {dvs : List V} {sp : Sp} {C : Addr} (c : Mak P w K mg base CX x C j ps dvs sp) (hj : j + 1 ≤ k) (q : t σ H fun vs H1 => ∀ x dx, H1 x = none → H1 dx = none → dx ≠ x →
  sp (.ref x :: (vs ++ dvs)) (upd (upd H1 dx (.own x)) x (.ins C dx [])) (fun v H2 => v = .non ∧ Q (.ref x) H2) E) : tMkA P w K mg base CX x k E t σ H Q := ⟨_, _, _, _, _, c, hj, q⟩
theorem w_ma {σ : L2.St} {H : Hp} {Q : VK} (q : ta σ H fun xv H1 => ∃ a C dx fs j ps dvs sp, xv = .ref a ∧ H1 a = some (.ins C dx fs) ∧ Cls K C ∧ fs.lookup m = none ∧ Mth P w K mg base CX C m j ps dvs sp ∧ j ≤ k ∧
  t σ H1 fun vs H2 => sp (xv :: (vs ++ dvs)) H2 Q E) : tMA P w K mg base CX m k E ta t σ H Q := q
theorem w_ma1 {H : Hp} {a C dx : Addr} {fs : List (Str × V)} {j : Nat} {ps : List Str} {dvs : List V} {sp : Sp} {R : List V → Sp → Prop} (h : H a = some (.ins C dx fs)) (c : Cls K C) (l : fs.lookup m = none)
    (M : Mth P w K mg base CX C m j ps dvs sp) (hj : j ≤ k) (q : R dvs sp) : ∃ a' C dx fs j ps dvs sp, V.ref a = .ref a' ∧ H a' = some (.ins C dx fs) ∧ Cls K C ∧ fs.lookup m = none ∧ Mth P w K mg base CX C m j ps dvs sp ∧ j ≤ k ∧ R dvs sp :=
  ⟨_, _, _, _, _, _, _, _, rfl, h, c, l, M, hj, q⟩
end
/-! ### lists of texts, is of bools, += -/
section
variable {X : Cx} {K : PySem.W.Frag} {H : Hp} {Q : VK} {a b : Addr} {ns ms : List Str} {x y : V} {D : Ends} {σ : L2.St} {te : TE} {n : Nat} {i j : Int} {p : Bool} {q : Bool}
theorem dpAll_strs : ∀ ns : List Str, DpAll K H (ns.map V.str) (ns.map PyData.str)
  | [] => .nil
  | n :: r => .cons (.str n) (dpAll_strs r)
theorem eqvAll_strs : ∀ ns ms : List Str, PyData.eqvAll (ns.map PyData.str) (ms.map PyData.str) = decide (ns = ms)
  | [], [] => by simp [PyData.eqvAll]
  | [], _ :: _ => by simp [PyData.eqvAll]
  | _ :: _, [] => by simp [PyData.eqvAll]
  | n :: r, k :: q => by
    simp only [List.map_cons, PyData.eqvAll, PyData.eqv, eqvAll_strs r q]
    by_cases h : n = k <;> simp [h]
def okStrs (ns : List Str) : Bool := ns.all PyData.strOk
theorem canLay_strs : ∀ ns : List Str, okStrs ns = true → PyData.canLayAll0 (ns.map PyData.str) = true
  | [], _ => by simp [PyData.canLayAll0]
  | n :: r, h => by
    simp only [okStrs, List.all_cons, Bool.and_eq_true] at h
    simp only [List.map_cons, PyData.canLayAll0, PyData.canLay0, Bool.and_eq_true]
    exact ⟨h.1, canLay_strs r h.2⟩
theorem depth_strs : ∀ ns : List Str, PyData.depthAll (ns.map PyData.str) ≤ 1
  | [] => by simp [PyData.depthAll]
  | n :: r => by
    have := depth_strs r
    simp only [List.map_cons, PyData.depthAll, PyData.depth]
    omega
theorem shaped_strs (h : okStrs ns = true) : SeqAt.shaped (.list (ns.map PyData.str)) = true := by
  have h1 := depth_strs ns
  have h2 : PyData.depth (.list (ns.map PyData.str)) ≤ 64 := by simp only [PyData.depth]; omega
  show (PyData.canLay0 (.list (ns.map PyData.str)) && decide (PyData.depth (.list (ns.map PyData.str)) ≤ 64)) = true
  rw [Bool.and_eq_true]
  exact ⟨by simp only [PyData.canLay0]; exact canLay_strs ns h, decide_eq_true h2⟩
def rEqS (K : PySem.W.Frag) : R2 := fun x y H Q => ∃ (a b : Addr) (ns ms : List Str), x = .ref a ∧ y = .ref b ∧ SqL K H a (ns.map V.str) ∧ SqL K H b (ms.map V.str) ∧ okStrs ns = true ∧ okStrs ms = true ∧ Q (.bl (decide (ns = ms))) H
def rNeS (K : PySem.W.Frag) : R2 := fun x y H Q => ∃ (a b : Addr) (ns ms : List Str), x = .ref a ∧ y = .ref b ∧ SqL K H a (ns.map V.str) ∧ SqL K H b (ms.map V.str) ∧ okStrs ns = true ∧ okStrs ms = true ∧ Q (.bl (!decide (ns = ms))) H
theorem op_eqLS (hu : X.A.units + 64 < cLine) : OpR X (compareOp .Eq) (rEqS X.K) := fun pins s σ H x y v u Q I rx ry h => by
  obtain ⟨a, b, ns, ms, rfl, rfl, h1, h2, o1, o2, q⟩ := h
  exact op_eqD hu pins s σ H _ _ v u Q I rx ry ⟨_, _, .lst h1 (dpAll_strs ns), .lst h2 (dpAll_strs ms), shaped_strs o1, shaped_strs o2, by rw [PyData.eqv, eqvAll_strs]; exact q⟩
theorem op_neLS (hu : X.A.units + 64 < cLine) : OpR X (compareOp .NotEq) (rNeS X.K) := fun pins s σ H x y v u Q I rx ry h => by
  obtain ⟨a, b, ns, ms, rfl, rfl, h1, h2, o1, o2, q⟩ := h
  exact op_neD hu pins s σ H _ _ v u Q I rx ry ⟨_, _, .lst h1 (dpAll_strs ns), .lst h2 (dpAll_strs ms), shaped_strs o1, shaped_strs o2, by rw [PyData.eqv, eqvAll_strs]; exact q⟩
theorem w_eqLS (h1 : SqL K H a (ns.map V.str)) (h2 : SqL K H b (ms.map V.str)) (o1 : okStrs ns = true) (o2 : okStrs ms = true) (q : Q (.bl (decide (ns = ms))) H) : rEqS K (.ref a) (.ref b) H Q := ⟨_, _, _, _, rfl, rfl, h1, h2, o1, o2, q⟩
theorem w_neLS (h1 : SqL K H a (ns.map V.str)) (h2 : SqL K H b (ms.map V.str)) (o1 : okStrs ns = true) (o2 : okStrs ms = true) (q : Q (.bl (!decide (ns = ms))) H) : rNeS K (.ref a) (.ref b) H Q := ⟨_, _, _, _, rfl, rfl, h1, h2, o1, o2, q⟩
def rIsBl : R2 := fun x y H Q => ∃ a b, x = .bl a ∧ y = .bl b ∧ Q (.bl (decide (a = b))) H
theorem op_isB : OpR X (compareOp .Is) rIsBl := op_is_bl
theorem w_isBl (h : Q (.bl (decide (p = q))) H) : rIsBl (.bl p) (.bl q) H Q := ⟨_, _, rfl, rfl, h⟩
theorem w_aug {ti : TIp} (h : σ[n]? = some (some x)) (q : te σ H fun y H1 => ti x y H1 fun z H2 => D.nx (σ.set n (some z)) H2) : tAug n te ti D σ H := ⟨_, h, q⟩
theorem w_ipI {f : Int → Int → Int} (q : Q (.int (f i j)) H) : ipI f (.int i) (.int j) H Q := ⟨_, _, rfl, rfl, q⟩
theorem w_tup_at {xs : List V} {i : Int} {k : Nat} {v : V} (e : i = (k : Int)) (h : xs[k]? = some v) : atI xs i = some v := at_of e h
theorem w_sub {to ti : TE} {ts : TSet} {v : V} {Qs : L2.St → Hp → Prop} (q : to σ H fun o H1 => ti σ H1 fun i H2 => ts o i v H2 fun H3 => Qs σ H3) : gSub to ti ts v σ H Qs := q
theorem w_setL {xs : List V} {k : Nat} {r : Addr} {v : V} {Qh : Hp → Prop} (h : H r = some (.lst xs)) (e : ixN xs.length i = some k) (q : Qh (upd H r (.lst (xs.set k v)))) : rSetL (.ref r) (.int i) v H Qh := ⟨_, _, _, _, rfl, rfl, h, e, q⟩
theorem ixN_of {m k : Nat} (e : i = (k : Int)) (h : k < m) : ixN m i = some k := by
  subst e
  unfold ixN
  rw [if_pos (by omega), if_pos (by omega), Int.toNat_natCast]
end
end Mn

namespace Mn
open PySem PySem.Spec PyProof.Rows L2
/-! ### the rules that name the written part, K told ahead -/
section
variable {X : Cx} {K : PySem.W.Frag} {e a b o value : Expr} {es : List Expr} {f name : Str} {pos pos' tpos apos cpos : Pos} {ta tb tv te to : TE} {t : TA} {tg : Expr}
theorem kFld (hK : X.K = K) (he : PE X e ta) (hb : attributeBase e f X.env (eval e X.env) = eval e X.env := by rfl) : PE X (.Attribute e f pos) (tFld K ta f) := hK ▸ pe_fld he hb
theorem kSFld (hK : X.K = K) (ha : PE X o ta) (hv : PE X value tv) (hs : swapsWith value (some (.Attribute o f pos')) pos.line X.env = pure false := by rfl) : PS X (.Assign [.Attribute o f pos'] value pos) (sFld K ta tv f) := hK ▸ ps_fld ha hv hs
theorem kSFldAug {op : Operator} {rd : V → V → Hp → VK → Prop} (hK : X.K = K) (ha : PE X o ta) (hv : PE X value tv) (hop : InOp X op rd) : PS X (.AugAssign (.Attribute o f tpos) op value pos) (sFldAug K ta tv rd f) := hK ▸ ps_fldaug ha hv hop
theorem kIxL (hK : X.K = K) : IxR X (rIxL K) := hK ▸ ix_list
theorem kIxT (hK : X.K = K) : IxR X (rIxT K) := hK ▸ ix_tup
theorem kLenL (hK : X.K = K) : CallR X (.builtin "len") (cLenL K) := hK ▸ call_lenL
theorem kLenT (hK : X.K = K) : CallR X (.builtin "len") (cLenT K) := hK ▸ call_lenT
theorem kListL (hK : X.K = K) : CallR X (.type "list") (cListL K) := hK ▸ call_listL
theorem kSorted (hK : X.K = K) : CallR X (.builtin "sorted") (rSorted K) := hK ▸ cr_sorted
theorem kIsi (hK : X.K = K) : CallR X (.builtin "isinstance") (rIsi K) := hK ▸ call_isi
theorem kPiL (hK : X.K = K) (hl : PE X e te) : PI X tg e (iList K te) := hK ▸ pi_list hl
theorem kPiT (hK : X.K = K) (hl : PE X e te) : PI X tg e (iTup K te) := hK ▸ pi_tup hl
theorem kSlL (hK : X.K = K) : SlR X (rSlL K) := hK ▸ sl_list
theorem kIn (hK : X.K = K) : OpR X (compareOp .In) (rIn K false) := hK ▸ op_in_seq
theorem kNotIn (hK : X.K = K) : OpR X (compareOp .NotIn) (rIn K true) := hK ▸ op_notIn_seq
theorem kEqI (hK : X.K = K) (hu : X.A.units + 64 < cLine) : OpR X (compareOp .Eq) (rEqI K) := hK ▸ op_eqLI hu
theorem kNeI (hK : X.K = K) (hu : X.A.units + 64 < cLine) : OpR X (compareOp .NotEq) (rNeI K) := hK ▸ op_neLI hu
theorem kEqS (hK : X.K = K) (hu : X.A.units + 64 < cLine) : OpR X (compareOp .Eq) (rEqS K) := hK ▸ op_eqLS hu
theorem kNeS (hK : X.K = K) (hu : X.A.units + 64 < cLine) : OpR X (compareOp .NotEq) (rNeS K) := hK ▸ op_neLS hu
theorem kEqD (hK : X.K = K) (hu : X.A.units + 64 < cLine) : OpR X (compareOp .Eq) (rEqD K) := hK ▸ op_eqD hu
theorem kNeD (hK : X.K = K) (hu : X.A.units + 64 < cLine) : OpR X (compareOp .NotEq) (rNeD K) := hK ▸ op_neD hu
theorem kIndex (hK : X.K = K) : MtR X "list.index" (rIndex K) := hK ▸ mt_index
theorem kTup {k : Nat} {n : Nat} {gs : TGs} (hK : X.K = K) (hc : X.calm = true) (h : PGs X es gs)
    (hn : (assignEach es X.env).length = n := by rfl) (hst : (assignEach es X.env).findIdx? (·.1) = none := by rfl) : PG X (.Tuple es k pos) (gTup K n gs) := hK ▸ pg_tup hc h hn hst
theorem kBm {T id : String} {r : V → List V → Hp → VK → Prop} (hK : X.K = K) (pa : PlainAttrs T) (slot : Slot T name id) (hty : typeOf (.builtin id) = pure (.type "method_descriptor")) (hm : MtR X id r) (ho : PE X o to) (ha : PA X (e :: es) t)
    (hbase : attributeBase o name X.env (eval o X.env) = eval o X.env := by rfl)
    (hfew : ((backTo cpos (starEach (e :: es) X.env)).all (fun x => !x.1) && (backToKw cpos (keywordEach [] X.env)).all (fun x => x.1.isSome)
      && decide ((e :: es).length + ([] : List Keyword).length + (if ([] : List Keyword).isEmpty then 0 else 1) < 30)) = true := by rfl)
    (hline : (apos.endLine == cpos.line) = true := by rfl) (hs : starEach (e :: es) X.env = (false, eval e X.env) :: starEach es X.env := by rfl) (hplain : (backTo cpos (starEach es X.env)).any (·.1) = false := by rfl) : PE X (.Call (.Attribute o name apos) (e :: es) [] cpos) (tBM K T r to t) := hK ▸ pe_bm pa slot hty hm ho ha hbase hfew hline hs hplain
theorem kBm0 {T id : String} {r : V → List V → Hp → VK → Prop} (hK : X.K = K) (pa : PlainAttrs T) (slot : Slot T name id) (hty : typeOf (.builtin id) = pure (.type "method_descriptor")) (hm : MtR X id r) (ho : PE X o to)
    (hbase : attributeBase o name X.env (eval o X.env) = eval o X.env := by rfl) (hline : (apos.endLine == cpos.line) = true := by rfl) : PE X (.Call (.Attribute o name apos) [] [] cpos) (tBM0 K T r to) := hK ▸ pe_bm0 pa slot hty hm ho hbase hline
end
end Mn

namespace Mn
open PySem
/-! ### bits of rows -/
def bitsOf : List Bool → Nat
  | [] => 0
  | b :: r => (if b then 1 else 0) + 2 * bitsOf r
theorem bitsOf_bit : ∀ (l : List Bool) (k : Nat), (bitsOf l).testBit k = l.getD k false
  | [], k => by simp [bitsOf]
  | b :: r, 0 => by cases b <;> simp [bitsOf, Nat.testBit_zero, Nat.add_mul_mod_self_left]
  | b :: r, k + 1 => by
    have e : (bitsOf (b :: r)) / 2 = bitsOf r := by cases b <;> simp [bitsOf] <;> omega
    rw [Nat.testBit_succ, e, bitsOf_bit r k]
    simp
theorem bitsOf_snoc : ∀ (l : List Bool) (b : Bool), bitsOf (l ++ [b]) = bitsOf l + if b then 2 ^ l.length else 0
  | [], b => by cases b <;> simp [bitsOf]
  | c :: r, b => by
    rw [List.cons_append, bitsOf, bitsOf_snoc r b, bitsOf, List.length_cons, Nat.pow_succ]
    cases b <;> simp <;> omega
theorem bitsOf_lt : ∀ l : List Bool, bitsOf l < 2 ^ l.length
  | [] => by simp [bitsOf]
  | b :: r => by
    have := bitsOf_lt r
    rw [bitsOf, List.length_cons, Nat.pow_succ]
    cases b <;> simp <;> omega
theorem bitsOf_eq {l : List Bool} {n : Nat} (h : ∀ k, n.testBit k = l.getD k false) : bitsOf l = n :=
  Nat.eq_of_testBit_eq fun k => (bitsOf_bit l k).trans (h k).symm
def andNot (a b : Nat) : Nat := a ^^^ (a &&& b)
theorem andNot_bit (a b k : Nat) : (andNot a b).testBit k = (a.testBit k && !b.testBit k) := by
  unfold andNot
  rw [Nat.testBit_xor, Nat.testBit_and]
  cases a.testBit k <;> cases b.testBit k <;> rfl
theorem andNot_add (a b : Nat) : andNot a b + (a &&& b) = a := by
  have h := Bits.nat_xor_add_and a (a &&& b)
  have e : a &&& (a &&& b) = a &&& b := by
    refine Nat.eq_of_testBit_eq fun k => ?_
    rw [Nat.testBit_and, Nat.testBit_and]
    cases a.testBit k <;> simp
  rw [e] at h
  unfold andNot
  omega
theorem and_not_int (a b : Nat) : Builtin.bitAnd (a : Int) (Builtin.bitNot (b : Int)) = ((andNot a b : Nat) : Int) := by
  rw [PyProof.Rows.bitAnd_not, PyProof.Rows.bitAnd_pp (by omega) (by omega), Int.toNat_natCast, Int.toNat_natCast]
  have := andNot_add a b
  omega
theorem and_int (a b : Nat) : Builtin.bitAnd (a : Int) (b : Int) = ((a &&& b : Nat) : Int) := by
  rw [PyProof.Rows.bitAnd_pp (by omega) (by omega), Int.toNat_natCast, Int.toNat_natCast]
theorem or_int (a b : Nat) : Builtin.bitOr (a : Int) (b : Int) = ((a ||| b : Nat) : Int) := by
  rw [Bits.bitOr_pp (by omega) (by omega), Int.toNat_natCast, Int.toNat_natCast]
theorem xor_int (a b : Nat) : Builtin.bitXor (a : Int) (b : Int) = ((a ^^^ b : Nat) : Int) := by
  rw [Bits.bitXor_pp (by omega) (by omega), Int.toNat_natCast, Int.toNat_natCast]
theorem shl_int (n : Nat) : (1 : Int) * 2 ^ ((n : Int)).toNat = ((2 ^ n : Nat) : Int) := by
  rw [Int.toNat_natCast, Int.one_mul]
  exact (Int.natCast_pow 2 n).symm
theorem below_int (n : Nat) : (1 : Int) * 2 ^ ((n : Int)).toNat - 1 = ((2 ^ n - 1 : Nat) : Int) := by
  rw [shl_int]
  have := Nat.two_pow_pos n
  omega
/-! ### the three ways -/
def chOne (p _c _o _g : Nat) : Nat × Nat := (0, 2 ^ p)
def chAll (_p c o g : Nat) : Nat × Nat := (o, andNot (2 ^ c - 1) g)
def chRest (p c o g : Nat) : Nat × Nat := (o &&& ((2 ^ c - 1) ^^^ (2 ^ (p + 1) - 1)), andNot (((2 ^ c - 1) ^^^ (2 ^ (p + 1) - 1)) ||| 2 ^ p) g)
end Mn
namespace Mn
/-- what the law reckons by rows: who is put away, who is begun -/
def putB (way : Int) (p : Nat) (k : Nat) (o : Bool) : Bool := if way = 0 then false else if way = 1 then o else (o && decide (p < k))
def anewB (way : Int) (p : Nat) (k : Nat) (g : Bool) : Bool := if way = 0 then decide (k = p) else if way = 1 then !g else (decide (p ≤ k) && !g)
def putL (way : Int) (p : Nat) (on : List Bool) : List Bool := (List.range on.length).map fun k => putB way p k (on.getD k false)
def anewL (way : Int) (p : Nat) (good : List Bool) (n : Nat) : List Bool := (List.range n).map fun k => anewB way p k (good.getD k false)
theorem getD_map_range {α : Type} (f : Nat → α) (n k : Nat) (d : α) : ((List.range n).map f).getD k d = if k < n then f k else d := by
  by_cases h : k < n
  · simp [List.getD, List.getElem?_map, h]
  · rw [if_neg h]
    simp [List.getD, List.getElem?_eq_none, Nat.le_of_not_lt h]
def chOf (way : Int) : Nat → Nat → Nat → Nat → Nat × Nat := if way = 0 then chOne else if way = 1 then chAll else chRest
theorem put_is (way : Int) (p : Nat) (on good : List Bool) (hp : p < on.length) : bitsOf (putL way p on) = (chOf way p on.length (bitsOf on) (bitsOf good)).1 := by
  refine bitsOf_eq fun k => ?_
  unfold putL
  rw [getD_map_range]
  unfold chOf putB
  by_cases h0 : way = 0
  · simp [h0, chOne]
  · by_cases h1 : way = 1
    · simp only [if_neg h0, if_pos h1, chAll, bitsOf_bit]
      by_cases hk : k < on.length
      · simp [hk]
      · simp [hk, List.getD, List.getElem?_eq_none (Nat.le_of_not_lt hk)]
    · simp only [h0, h1, if_false, chRest, Nat.testBit_and, Nat.testBit_xor, Nat.testBit_two_pow_sub_one, bitsOf_bit]
      by_cases hk : k < on.length
      · by_cases hq : p < k
        · have : ¬ k < p + 1 := by omega
          simp [hk, hq, this]
        · have : k < p + 1 := by omega
          simp [hk, hq, this]
      · simp [hk, List.getD, List.getElem?_eq_none (Nat.le_of_not_lt hk)]
theorem anew_is (way : Int) (p : Nat) (on good : List Bool) (hp : p < on.length) : bitsOf (anewL way p good on.length) = (chOf way p on.length (bitsOf on) (bitsOf good)).2 := by
  refine bitsOf_eq fun k => ?_
  unfold anewL
  rw [getD_map_range]
  unfold chOf anewB
  by_cases h0 : way = 0
  · simp only [h0, chOne, Nat.testBit_two_pow, if_true]
    by_cases hk : k < on.length
    · simp only [hk, if_true]
      exact decide_eq_decide.mpr eq_comm
    · rw [if_neg hk]
      exact decide_eq_false (by omega)
  · by_cases h1 : way = 1
    · simp only [if_neg h0, if_pos h1, chAll, andNot_bit, Nat.testBit_two_pow_sub_one, bitsOf_bit]
      by_cases hk : k < on.length <;> simp [hk]
    · simp only [h0, h1, if_false, chRest, andNot_bit, Nat.testBit_or, Nat.testBit_xor, Nat.testBit_two_pow_sub_one, Nat.testBit_two_pow, bitsOf_bit]
      by_cases hk : k < on.length
      · by_cases hq : p ≤ k
        · by_cases hr : p = k
          · subst hr
            simp [hk]
          · have : ¬ k < p + 1 := by omega
            simp [hk, hq, this, hr]
        · have h3 : k < p + 1 := by omega
          have h4 : ¬ p = k := by omega
          simp [hk, hq, h3, h4]
      · have h3 : ¬ k < p + 1 := by omega
        have h4 : ¬ p = k := by omega
        simp [hk, h3, h4]
end Mn

namespace Mn
open PySem L2
def top (i : Nat) : Stmt := PySem.Challenge.pw_minders_k03_whom_a_way_chooses.main.body.getD i (.Pass ⟨0, 0, 0, 0⟩)
/-- the built-ins that the text names -/
structure Bt (mg : Str → Option Value) : Prop where
  len : mg "len" = none
  int : mg "int" = none
  bool : mg "bool" = none
  list : mg "list" = none
  tuple : mg "tuple" = none
  str : mg "str" = none
  range : mg "range" = none
  isinstance : mg "isinstance" = none
abbrev s_bit : Stmt := top 2
theorem sc_bit : FnScope ["place"] ["place"] (defScope s_bit) := ⟨rfl, rfl, rfl, by decide +kernel, rfl, by decide +kernel, by decide +kernel⟩
abbrev s_below : Stmt := top 3
theorem sc_below : FnScope ["count"] ["count"] (defScope s_below) := ⟨rfl, rfl, rfl, by decide +kernel, rfl, by decide +kernel, by decide +kernel⟩
abbrev s_Shape_init : Stmt := inClass (top 5) 0
theorem sc_Shape_init : FnScope ["self", "name", "keep"] ["self", "name", "keep"] (defScope s_Shape_init) := ⟨rfl, rfl, rfl, by decide +kernel, rfl, by decide +kernel, by decide +kernel⟩
abbrev s_Shape_leaf : Stmt := inClass (top 5) 1
theorem sc_Shape_leaf : FnScope ["self"] ["self"] (defScope s_Shape_leaf) := ⟨rfl, rfl, rfl, by decide +kernel, rfl, by decide +kernel, by decide +kernel⟩
abbrev s_Minder_init : Stmt := inClass (top 6) 0
theorem sc_Minder_init : FnScope ["self", "name", "keep", "most", "span"] ["self", "name", "keep", "most", "span"] (defScope s_Minder_init) := ⟨rfl, rfl, rfl, by decide +kernel, rfl, by decide +kernel, by decide +kernel⟩
abbrev s_Minder_way : Stmt := inClass (top 6) 1
theorem sc_Minder_way : FnScope ["self"] ["self"] (defScope s_Minder_way) := ⟨rfl, rfl, rfl, by decide +kernel, rfl, by decide +kernel, by decide +kernel⟩
abbrev s_Minder_chosen : Stmt := inClass (top 6) 2
theorem sc_Minder_chosen : FnScope ["self", "place", "count", "on", "good"] ["self", "place", "count", "on", "good"] (defScope s_Minder_chosen) := ⟨rfl, rfl, rfl, by decide +kernel, rfl, by decide +kernel, by decide +kernel⟩
abbrev s_Minder_words : Stmt := inClass (top 6) 3
theorem sc_Minder_words : FnScope ["self"] ["self"] (defScope s_Minder_words) := ⟨rfl, rfl, rfl, by decide +kernel, rfl, by decide +kernel, by decide +kernel⟩
abbrev s_AllMinder_way : Stmt := inClass (top 7) 0
theorem sc_AllMinder_way : FnScope ["self"] ["self"] (defScope s_AllMinder_way) := ⟨rfl, rfl, rfl, by decide +kernel, rfl, by decide +kernel, by decide +kernel⟩
abbrev s_AllMinder_chosen : Stmt := inClass (top 7) 1
theorem sc_AllMinder_chosen : FnScope ["self", "place", "count", "on", "good"] ["self", "place", "count", "on", "good"] (defScope s_AllMinder_chosen) := ⟨rfl, rfl, rfl, by decide +kernel, rfl, by decide +kernel, by decide +kernel⟩
abbrev s_RestMinder_way : Stmt := inClass (top 8) 0
theorem sc_RestMinder_way : FnScope ["self"] ["self"] (defScope s_RestMinder_way) := ⟨rfl, rfl, rfl, by decide +kernel, rfl, by decide +kernel, by decide +kernel⟩
abbrev s_RestMinder_chosen : Stmt := inClass (top 8) 1
theorem sc_RestMinder_chosen : FnScope ["self", "place", "count", "on", "good", "behind"] ["self", "place", "count", "on", "good"] (defScope s_RestMinder_chosen) := ⟨rfl, rfl, rfl, by decide +kernel, rfl, by decide +kernel, by decide +kernel⟩
abbrev s_law_cell_at : Stmt := top 10
theorem sc_law_cell_at : FnScope ["_law_script", "_law_k"] ["_law_script", "_law_k"] (defScope s_law_cell_at) := ⟨rfl, rfl, rfl, by decide +kernel, rfl, by decide +kernel, by decide +kernel⟩
abbrev s_law_bits : Stmt := top 11
theorem sc_law_bits : FnScope ["_law_rows", "_law_total", "_law_k"] ["_law_rows"] (defScope s_law_bits) := ⟨rfl, rfl, rfl, by decide +kernel, rfl, by decide +kernel, by decide +kernel⟩
abbrev s_law_made : Stmt := top 12
theorem sc_law_made : FnScope ["_law_way", "_law_most", "_law_span", "_law_told"] ["_law_way", "_law_most", "_law_span", "_law_told"] (defScope s_law_made) := ⟨rfl, rfl, rfl, by decide +kernel, rfl, by decide +kernel, by decide +kernel⟩
abbrev s_law_due : Stmt := top 13
theorem sc_law_due : FnScope ["_law_way", "_law_place", "_law_on", "_law_good", "_law_put", "_law_anew", "_law_k"] ["_law_way", "_law_place", "_law_on", "_law_good"] (defScope s_law_due) := ⟨rfl, rfl, rfl, by decide +kernel, rfl, by decide +kernel, by decide +kernel⟩
abbrev s_law_asked : Stmt := top 14
theorem sc_law_asked : FnScope ["_law_minder", "_law_way", "_law_place", "_law_on", "_law_good", "_law_found", "_law_due_here", "_law_k"] ["_law_minder", "_law_way", "_law_place", "_law_on", "_law_good"] (defScope s_law_asked) := ⟨rfl, rfl, rfl, by decide +kernel, rfl, by decide +kernel, by decide +kernel⟩
abbrev s_law : Stmt := top 15
theorem sc_law : FnScope ["_law_script", "_law_first", "_law_way", "_law_count", "_law_place", "_law_on", "_law_k", "_law_good", "_law_most", "_law_span", "_law_told", "_law_minder", "_law_other", "_law_one", "_law_keep", "_law_words", "_law_found"] ["_law_script"] (defScope s_law) := ⟨rfl, rfl, rfl, by decide +kernel, rfl, by decide +kernel, by decide +kernel⟩
end Mn

/-! ### tactics: "rd" reads on as far as it goes; "hp", "ne", "sq", "st", "same", "sz" close what is asked of heaps and sizes -/
local macro_rules | `(tactic| walk_at "sz") => `(tactic| first
  | assumption
  | decide
  | (show _ ≤ PySem.sizeLine; decide)
  | (have sl' := PySem.sizeLine_eq; (try simp only [List.length_map, List.length_append, List.length_cons, List.length_nil, List.length_singleton, List.length_drop, List.length_take]); omega))
local macro_rules | `(tactic| walk_at "ne1") => `(tactic| first
  | assumption
  | (apply Ne.symm; assumption)
  | exact L2.ne_of_none (by assumption) (by assumption)
  | exact (L2.ne_of_none (by assumption) (by assumption)).symm)
local macro_rules | `(tactic| walk_at "hp") => `(tactic| first
  | assumption
  | exact L2.upd_same
  | (rw [L2.upd_ne (by walk_at "ne")]; walk_at "hp")
  | exact (by assumption : L2.Same _ _) _ _ (by assumption)
  | exact (by assumption : L2.Same _ _) _ _ ((by assumption : L2.Same _ _) _ _ (by assumption)))
local macro_rules | `(tactic| walk_at "ne") => `(tactic| first
  | walk_at "ne1"
  | exact L2.ne_of_none (by walk_at "hp") (by assumption)
  | exact (L2.ne_of_none (by walk_at "hp") (by assumption)).symm)
local macro_rules | `(tactic| walk_at "same") => `(tactic| first
  | assumption
  | exact L2.Same.refl _
  | exact L2.Same.trans (by assumption) (by assumption)
  | (refine' Mn.same_upd (by walk_at "same") (by assumption))
  | (refine' Mn.same_mut (by walk_at "same") (by assumption)))
local macro_rules | `(tactic| walk_at "sq") => `(tactic| first
  | assumption
  | exact L2.SqL.of L2.upd_same
  | exact L2.SqL.of (by walk_at "hp")
  | (refine' L2.Same.seq ?sq_s ?sq_h; (case sq_h => assumption); (case sq_s => walk_at "same")))
local macro_rules | `(tactic| walk_at "st") => `(tactic| first
  | assumption
  | exact L2.SqT.of L2.upd_same
  | exact L2.SqT.of (by walk_at "hp")
  | (refine' Mn.sqT_same ?sq_s ?sq_h; (case sq_h => assumption); (case sq_s => walk_at "same")))
local macro_rules | `(tactic| walk_at "cls") => `(tactic| first | assumption | exact Mn.ClsF.cl (by assumption))
local macro_rules | `(tactic| walk_at "noattr") => `(tactic| exact Mn.ClsF.no (by assumption) _ (by decide))
local macro_rules | `(tactic| walk_at "v2") => `(tactic| first
  | ((with_reducible refine' Mn.w_lenL ?h ?_); (case h => walk_at "sq"))
  | ((with_reducible refine' Mn.w_lenT ?h ?_); (case h => walk_at "st"))
  | ((with_reducible refine' Mn.w_lenS ?h ?_); (case h => walk_at "sz"))
  | ((with_reducible refine' Mn.w_addS ?h ?_); (case h => walk_at "sz"))
  | with_reducible refine Mn.w_intB ?_
  | with_reducible refine Mn.w_max ?_
  | with_reducible refine Mn.w_min ?_
  | with_reducible refine Mn.w_isN ?_
  | with_reducible refine Mn.w_notN ?_
  | with_reducible refine Mn.w_inS ?_
  | with_reducible refine Mn.w_ninS ?_
  | with_reducible refine Mn.w_bm ?_
  | with_reducible refine Mn.w_bm0 ?_
  | with_reducible refine Mn.w_tyS ?_
  | with_reducible refine Mn.w_tyI ?_
  | ((with_reducible refine' Mn.w_tyL ?h ?_); (case h => walk_at "sq"))
  | ((with_reducible refine' Mn.w_app ?h ?hs ?_); (case h => walk_at "hp"); (case hs => walk_at "sz"))
  | with_reducible refine Mn.w_lst ?_
  | with_reducible refine Mn.w_tup ?_
  | with_reducible refine Mn.w_sl ?_
  | with_reducible refine Mn.w_part ?_
  | with_reducible refine Mn.w_part1 ?_
  | with_reducible refine Mn.w_nopart ?_
  | with_reducible refine Mn.w_m1 ?_
  | with_reducible refine Mn.w_m0 ?_
  | with_reducible refine Mn.w_isS ?_
  | with_reducible refine Mn.w_fld ?_
  | ((with_reducible refine' Mn.w_fld1 ?h ?c ?n ?l ?_); (case h => walk_at "hp"); (case c => walk_at "cls"); (case n => walk_at "noattr"); (case l => rfl))
  | ((with_reducible refine' Mn.w_sfld1 ?h ?c ?n ?l ?_); (case h => walk_at "hp"); (case c => walk_at "cls"); (case n => walk_at "noattr"); (case l => exact Mn.ltb rfl))
  | with_reducible refine Mn.w_ma ?_
  | with_reducible refine Mn.w_isBl ?_
  | ((with_reducible refine' Mn.w_aug ?h ?_); (case h => rfl))
  | with_reducible refine Mn.w_ipI ?_
  | with_reducible refine Mn.w_sub ?_
  | with_reducible refine Mn.w_sfld ?_
  | with_reducible refine Mn.w_for ?_
  | with_reducible refine Mn.w_iList ?_
  | with_reducible refine Mn.w_iRng ?_
  | with_reducible refine Mn.w_lc ?_
  | with_reducible refine Mn.w_yes ?_
  | ((with_reducible refine' Mn.w_wip ?h ?_); (case h => rfl))
  | ((with_reducible refine' Mn.w_eqLI ?h1 ?h2 ?_); (case h1 => walk_at "sq"); (case h2 => walk_at "sq"))
  | ((with_reducible refine' Mn.w_neLI ?h1 ?h2 ?_); (case h1 => walk_at "sq"); (case h2 => walk_at "sq"))
  | with_reducible refine L2.iteT ?_
  | with_reducible refine L2.iteF ?_
  | ((with_reducible refine' Mn.w_I ?c ?_); (case c => first | (show (0 : Int) < _; decide) | exact ⟨by decide, by decide⟩ | exact ⟨by decide, by decide, by decide⟩)))
local macro_rules | `(tactic| walk_at "v1") => `(tactic| first
  | ((with_reducible refine' Mn.w_var ?hv ?_); (case hv => rfl))
  | with_reducible refine Mn.w_c ?_
  | with_reducible refine Mn.w_seq ?_
  | with_reducible refine Mn.w_asg ?_
  | ((with_reducible refine' Mn.w_name2 ?hn ?_); (case hn => first | (simp only [L2.start, L2.wipe, List.map_cons, List.map_nil, List.length_cons, List.length_nil, List.replicate_succ, List.replicate_zero, List.cons_append, List.nil_append, List.set_cons_succ, List.set_cons_zero, Nat.reduceSub, Nat.reduceAdd]; exact rfl) | exact rfl))
  | with_reducible refine Mn.w_op ?_
  | with_reducible refine Mn.w_I0 ?_
  | with_reducible refine Mn.w_cons ?_
  | with_reducible refine Mn.w_nil ?_
  | with_reducible refine Mn.w_cb ?_
  | with_reducible refine Mn.w_if ?_
  | with_reducible refine Mn.w_test ?_
  | with_reducible refine Mn.w_bl ?_
  | ((with_reducible refine' Mn.w_eq ?hs ?_); (case hs => rfl))
  | ((with_reducible refine' Mn.w_ne ?hs ?_); (case hs => rfl))
  | with_reducible refine Mn.w_drop ?_
  | with_reducible refine Mn.w_ret ?_
  | with_reducible refine Mn.w_and ?_
  | with_reducible refine Mn.w_or ?_
  | with_reducible refine Mn.w_not ?_
  | with_reducible refine Mn.w_B ?_
  | with_reducible refine Mn.w_un ?_
  | with_reducible refine Mn.w_U ?_
  | with_reducible refine Mn.w_andV ?_
  | with_reducible refine Mn.w_orV ?_
  | with_reducible refine Mn.w_notV ?_
  | with_reducible refine Mn.w_chain ?_
  | with_reducible refine Mn.w_next ?_
  | with_reducible refine Mn.w_retN ?_
  | with_reducible refine Mn.w_cont ?_
  | with_reducible refine Mn.w_nx ?_
  | with_reducible refine Mn.w_rt ?_
  | with_reducible refine Mn.w_ct ?_
  | with_reducible refine Mn.w_bk ?_)
local macro_rules | `(tactic| walk_at "if") => `(tactic| first
  | (refine' Mn.w_ite ?_ ?_ <;> (intro c))
  | (refine' Mn.w_iteN ?_ ?_ <;> (intro c))
  | (refine' Mn.w_iteB ?_ ?_ <;> (intro c)))
local macro_rules | `(tactic| walk_at "rd") => `(tactic| repeat (first | walk_at "v1" | walk_at "v2"))

namespace Mn
open PySem L2
section
variable {P : Program} {w : World} {K : PySem.W.Frag} {mg : Str → Option Value} {base : Heap}
abbrev FunS (K : PySem.W.Frag) (x qual : Str) (st : Stmt) (dvs : List V) (f : Addr) (fd : FuncData) : Prop := FunD K x qual (defArgs st) (defBody st) (defScope st) dvs [] f fd
/-! ### what shapes bear -/
def shF (n k : Str) : List (Str × V) := [("name", .str n), ("keep", .str k)]
def minF (n k : Str) (m s : Int) : List (Str × V) := [("name", .str n), ("keep", .str k), ("most", .int m), ("span", .int s)]
abbrev minN : List Str := ["name", "keep", "most", "span"]
def spShape : Sp := fun vs H Q _ => ∃ (p C dx : Addr) (n k : Str) (fl : List Str), vs = [.ref p, .str n, .str k] ∧ H p = some (.ins C dx []) ∧ Cls K C ∧ NoAttr K C "name" ∧ NoAttr K C "keep" ∧ Q .non (upd H p (.ins C dx (shF n k)))
theorem ok_Shape_init {f : Addr} {fd : FuncData} (F : Fun K "__init__" "Shape.__init__" s_Shape_init f fd) : FnOk P w K mg base CX0 1 f fd ["self", "name", "keep"] (spShape (K := K)) := by
  refine F.ok sc_Shape_init (fun vs H Q E h => ?_) (fun cdv A outer s H vs Q E hr h => ?_)
  · obtain ⟨p, C, dx, n, k, fl, rfl, _⟩ := h
    rfl
  obtain ⟨p, C, dx, n, k, fl, rfl, hp, c, n1, n2, q⟩ := h
  refine ⟨_, (pss_cons (kSFld (K := K) rfl (pv 0) (pv 1))
    (pss_one (kSFld (K := K) rfl (pv 0) (pv 2)))), ?_⟩
  walk_at "rd"
  refine w_sfld1 hp c n1 (ltb rfl) ?_
  walk_at "rd"
  refine w_sfld1 upd_same c n2 (ltb rfl) ?_
  rw [upd_upd]
  exact q
def spMinder (K : PySem.W.Frag) (C : Addr) : Sp := fun vs H Q _ => ∃ (p dx : Addr) (n k : Str) (m s : Int), vs = [.ref p, .str n, .str k, .int m, .int s] ∧ H p = some (.ins C dx []) ∧ Q .non (upd H p (.ins C dx (minF n k m s)))
theorem ok_Minder_init {C f : Addr} {fd : FuncData} (F : FunS K "__init__" "Minder.__init__" s_Minder_init [.int 1, .int 1] f fd) (cM : ClsF K C minN) (CS : CMt P w K mg base CX0 "Shape" "__init__" 1 ["self", "name", "keep"] [] (spShape (K := K))) :
    FnOk P w K mg base CX0 2 f fd ["self", "name", "keep", "most", "span"] (spMinder K C) := by
  refine F.ok sc_Minder_init (fun vs H Q E h => ?_) (fun cdv A outer s H vs Q E hr h => ?_)
  · obtain ⟨p, dx, n, k, m, s, rfl, _⟩ := h
    rfl
  obtain ⟨p, dx, n, k, m, s, rfl, hp, q⟩ := h
  refine ⟨_, (pss_cons (ps_expr (pe_cma (P := P) (w := w) (K := K) (mg := mg) (base := base) ⟨rfl, rfl, rfl, rfl, rfl⟩ hr rfl (pa_cons (pv 0) (pa_cons (pv 1) (pa_cons (pv 2) pa_nil)))))
    (pss_cons (kSFld (K := K) rfl (pv 0) (pv 3))
    (pss_one (kSFld (K := K) rfl (pv 0) (pv 4))))), ?_⟩
  walk_at "rd"
  refine w_cma CS (by decide) ?_
  walk_at "rd"
  refine ⟨p, C, dx, n, k, [], rfl, hp, cM.cl, cM.no _ (by decide), cM.no _ (by decide), ?_⟩
  walk_at "rd"
  rw [upd_upd, upd_upd]
  exact q
/-- a method that answers a written text | a truth value -/
def spSay (C : Addr) (wd : Str) : Sp := fun vs H Q _ => ∃ (p dx : Addr) (fs : List (Str × V)), vs = [.ref p] ∧ H p = some (.ins C dx fs) ∧ Q (.str wd) H
def spTruth (C : Addr) (b : Bool) : Sp := fun vs H Q _ => ∃ (p dx : Addr) (fs : List (Str × V)), vs = [.ref p] ∧ H p = some (.ins C dx fs) ∧ Q (.bl b) H
theorem ok_Shape_leaf {C f : Addr} {fd : FuncData} (F : Fun K "leaf" "Shape.leaf" s_Shape_leaf f fd) : FnOk P w K mg base CX0 1 f fd ["self"] (spTruth C false) := by
  refine F.ok sc_Shape_leaf (fun vs H Q E h => ?_) (fun cdv A outer s H vs Q E hr h => ?_)
  · obtain ⟨p, dx, fs, rfl, _⟩ := h
    rfl
  obtain ⟨p, dx, fs, rfl, hp, q⟩ := h
  refine ⟨_, (pss_one (ps_ret pe_bl)), ?_⟩
  walk_at "rd"
  exact q
theorem ok_Minder_way {C f : Addr} {fd : FuncData} (F : Fun K "way" "Minder.way" s_Minder_way f fd) : FnOk P w K mg base CX0 1 f fd ["self"] (spSay C "one") := by
  refine F.ok sc_Minder_way (fun vs H Q E h => ?_) (fun cdv A outer s H vs Q E hr h => ?_)
  · obtain ⟨p, dx, fs, rfl, _⟩ := h
    rfl
  obtain ⟨p, dx, fs, rfl, hp, q⟩ := h
  refine ⟨_, (pss_one (ps_ret pe_str)), ?_⟩
  walk_at "rd"
  exact q
/-- a number whose digits are fewer than 577 -/
def Smol (i : Int) : Prop := i.natAbs.log2 < 1920
theorem smol_of {i : Int} (h : i.natAbs < 2 ^ 64) : Smol i := by
  unfold Smol
  by_cases h0 : i.natAbs = 0
  · rw [h0]; decide
  · have := (Nat.log2_lt h0).mpr h
    omega
def minWords (k wd : Str) (m s : Int) : List Str := ["minder", k, wd, toString m, toString s]
def spMinWords (C : Addr) (wd : Str) : Sp := fun vs H Q _ => ∃ (p dx : Addr) (n k : Str) (m s : Int), vs = [.ref p] ∧ H p = some (.ins C dx (minF n k m s)) ∧ Smol m ∧ Smol s ∧
  ∀ r, H r = none → Q (.ref r) (upd H r (.lst ((minWords k wd m s).map V.str)))
theorem ok_Minder_words {C f : Addr} {fd : FuncData} {wd : Str} (F : Fun K "words" "Minder.words" s_Minder_words f fd) (T : Bt mg) (cM : ClsF K C minN) (MW : Mth P w K mg base CX0 C "way" 1 ["self"] [] (spSay C wd)) :
    FnOk P w K mg base CX0 2 f fd ["self"] (spMinWords C wd) := by
  refine F.ok sc_Minder_words (fun vs H Q E h => ?_) (fun cdv A outer s H vs Q E hr h => ?_)
  · obtain ⟨p, dx, n, k, m, s, rfl, _⟩ := h
    rfl
  obtain ⟨p, dx, n, k, m, s, rfl, hp, hm, hs, q⟩ := h
  refine ⟨_, (pss_one (ps_ret (pe_lst (pa_cons pe_str (pa_cons (kFld (K := K) rfl (pv 0)) (pa_cons (pe_ma0 (P := P) (w := w) (K := K) (mg := mg) (base := base) ⟨rfl, rfl, rfl, rfl, rfl⟩ hr (pv 0)) (pa_cons (pe_callTy call_strI (by rfl) T.str (by decide +kernel) (pa_cons (kFld (K := K) rfl (pv 0)) pa_nil)) (pa_cons (pe_callTy call_strI (by rfl) T.str (by decide +kernel) (pa_cons (kFld (K := K) rfl (pv 0)) pa_nil)) pa_nil)))))))), ?_⟩
  unfold minF at hp
  walk_at "rd"
  refine w_ma1 hp cM.cl (by rfl) MW (by decide) ?_
  walk_at "rd"
  refine ⟨p, dx, _, rfl, hp, ?_⟩
  walk_at "rd"
  refine w_strI hm ?_
  walk_at "rd"
  refine w_strI hs ?_
  walk_at "rd"
  exact ⟨by walk_at "sz", fun r hr => q r hr⟩
end
end Mn

namespace Mn
open PySem L2
section
variable {P : Program} {w : World} {K : PySem.W.Frag} {mg : Str → Option Value} {base : Heap}
theorem ok_AllMinder_way {C f : Addr} {fd : FuncData} (F : Fun K "way" "AllMinder.way" s_AllMinder_way f fd) : FnOk P w K mg base CX0 1 f fd ["self"] (spSay C "all") := by
  refine F.ok sc_AllMinder_way (fun vs H Q E h => ?_) (fun cdv A outer s H vs Q E hr h => ?_)
  · obtain ⟨p, dx, fs, rfl, _⟩ := h
    rfl
  obtain ⟨p, dx, fs, rfl, hp, q⟩ := h
  refine ⟨_, (pss_one (ps_ret pe_str)), ?_⟩
  walk_at "rd"
  exact q
theorem ok_RestMinder_way {C f : Addr} {fd : FuncData} (F : Fun K "way" "RestMinder.way" s_RestMinder_way f fd) : FnOk P w K mg base CX0 1 f fd ["self"] (spSay C "rest") := by
  refine F.ok sc_RestMinder_way (fun vs H Q E h => ?_) (fun cdv A outer s H vs Q E hr h => ?_)
  · obtain ⟨p, dx, fs, rfl, _⟩ := h
    rfl
  obtain ⟨p, dx, fs, rfl, hp, q⟩ := h
  refine ⟨_, (pss_one (ps_ret pe_str)), ?_⟩
  walk_at "rd"
  exact q
end
end Mn

namespace Mn
open PySem L2
section
variable {P : Program} {w : World} {K : PySem.W.Frag} {mg : Str → Option Value} {base : Heap}
def spBit : Sp := fun vs H Q _ => ∃ n : Nat, vs = [.int (n : Int)] ∧ n ≤ 1000 ∧ Q (.int ((2 ^ n : Nat) : Int)) H
def spBelow : Sp := fun vs H Q _ => ∃ n : Nat, vs = [.int (n : Int)] ∧ n ≤ 1000 ∧ Q (.int ((2 ^ n - 1 : Nat) : Int)) H
theorem cpow_nat {n : Nat} (h : n ≤ 1000) : CPow 1 (n : Int) := ⟨by omega, by omega, by decide⟩
theorem ok_bit {f : Addr} {fd : FuncData} (F : Fun K "bit" "bit" s_bit f fd) : FnOk P w K mg base CX0 1 f fd ["place"] spBit := by
  refine F.ok sc_bit (fun vs H Q E h => ?_) (fun cdv A outer s H vs Q E hr h => ?_)
  · obtain ⟨n, rfl, _⟩ := h
    rfl
  obtain ⟨n, rfl, hn, q⟩ := h
  refine ⟨_, (pss_one (ps_ret (pe_op op_shl pe_int (pv 0)))), ?_⟩
  walk_at "rd"
  refine w_I (cpow_nat hn) ?_
  rw [shl_int]
  exact q
theorem ok_below {f : Addr} {fd : FuncData} (F : Fun K "below" "below" s_below f fd) : FnOk P w K mg base CX0 1 f fd ["count"] spBelow := by
  refine F.ok sc_below (fun vs H Q E h => ?_) (fun cdv A outer s H vs Q E hr h => ?_)
  · obtain ⟨n, rfl, _⟩ := h
    rfl
  obtain ⟨n, rfl, hn, q⟩ := h
  refine ⟨_, (pss_one (ps_ret (pe_op op_sub (pe_op op_shl pe_int (pv 0)) pe_int))), ?_⟩
  walk_at "rd"
  refine w_I (cpow_nat hn) ?_
  walk_at "rd"
  rw [below_int]
  exact q
def spChosen (C : Addr) (ch : Nat → Nat → Nat → Nat → Nat × Nat) : Sp := fun vs H Q _ => ∃ (r dx : Addr) (fs : List (Str × V)) (p c o g : Nat), vs = [.ref r, .int (p : Int), .int (c : Int), .int (o : Int), .int (g : Int)] ∧ H r = some (.ins C dx fs) ∧ p ≤ 100 ∧ c ≤ 100 ∧
  ∀ t H', H t = none → Same H H' → H' t = some (.tup [.int ((ch p c o g).1 : Nat), .int ((ch p c o g).2 : Nat)]) → Q (.ref t) H'
abbrev chN : List Str := ["self", "place", "count", "on", "good"]
theorem ok_Minder_chosen {C f : Addr} {fd : FuncData} (F : Fun K "chosen" "Minder.chosen" s_Minder_chosen f fd) (CB : Cal P w K mg base CX0 "bit" 1 ["place"] [] spBit) : FnOk P w K mg base CX0 2 f fd chN (spChosen C chOne) := by
  refine F.ok sc_Minder_chosen (fun vs H Q E h => ?_) (fun cdv A outer s H vs Q E hr h => ?_)
  · obtain ⟨r, dx, fs, p, c, o, g, rfl, _⟩ := h
    rfl
  obtain ⟨r, dx, fs, p, c, o, g, rfl, hr0, hp, hc, q⟩ := h
  refine ⟨_, (pss_one (ps_ret (pe_tup (pa_cons pe_int (pa_cons (pe_ca (P := P) (w := w) (K := K) (mg := mg) (base := base) ⟨rfl, rfl, rfl, rfl, rfl⟩ hr rfl (pa_cons (pv 1) pa_nil)) pa_nil))))), ?_⟩
  walk_at "rd"
  refine w_ca CB (by decide) ?_
  walk_at "rd"
  refine ⟨p, rfl, by omega, ?_⟩
  walk_at "rd"
  exact ⟨by walk_at "sz", fun t ht => q t _ ht (same_new ht _) upd_same⟩
theorem ok_AllMinder_chosen {C f : Addr} {fd : FuncData} (F : Fun K "chosen" "AllMinder.chosen" s_AllMinder_chosen f fd) (CB : Cal P w K mg base CX0 "below" 1 ["count"] [] spBelow) : FnOk P w K mg base CX0 2 f fd chN (spChosen C chAll) := by
  refine F.ok sc_AllMinder_chosen (fun vs H Q E h => ?_) (fun cdv A outer s H vs Q E hr h => ?_)
  · obtain ⟨r, dx, fs, p, c, o, g, rfl, _⟩ := h
    rfl
  obtain ⟨r, dx, fs, p, c, o, g, rfl, hr0, hp, hc, q⟩ := h
  refine ⟨_, (pss_one (ps_ret (pe_tup (pa_cons (pv 3) (pa_cons (pe_op op_and (pe_ca (P := P) (w := w) (K := K) (mg := mg) (base := base) ⟨rfl, rfl, rfl, rfl, rfl⟩ hr rfl (pa_cons (pv 2) pa_nil)) (pe_un un_inv (pv 4))) pa_nil))))), ?_⟩
  walk_at "rd"
  refine w_ca CB (by decide) ?_
  walk_at "rd"
  refine ⟨c, rfl, by omega, ?_⟩
  walk_at "rd"
  rw [and_not_int]
  exact ⟨by walk_at "sz", fun t ht => q t _ ht (same_new ht _) upd_same⟩
theorem ok_RestMinder_chosen {C f : Addr} {fd : FuncData} (F : Fun K "chosen" "RestMinder.chosen" s_RestMinder_chosen f fd) (CB : Cal P w K mg base CX0 "below" 1 ["count"] [] spBelow) (CT : Cal P w K mg base CX0 "bit" 1 ["place"] [] spBit) :
    FnOk P w K mg base CX0 2 f fd chN (spChosen C chRest) := by
  refine F.ok sc_RestMinder_chosen (fun vs H Q E h => ?_) (fun cdv A outer s H vs Q E hr h => ?_)
  · obtain ⟨r, dx, fs, p, c, o, g, rfl, _⟩ := h
    rfl
  obtain ⟨r, dx, fs, p, c, o, g, rfl, hr0, hp, hc, q⟩ := h
  refine ⟨_, (pss_cons (ps_set (i := 5) sc_RestMinder_chosen.nd rfl (Or.inl rfl) (pe_op op_xor (pe_ca (P := P) (w := w) (K := K) (mg := mg) (base := base) ⟨rfl, rfl, rfl, rfl, rfl⟩ hr rfl (pa_cons (pv 2) pa_nil)) (pe_ca (P := P) (w := w) (K := K) (mg := mg) (base := base) ⟨rfl, rfl, rfl, rfl, rfl⟩ hr rfl (pa_cons (pe_op op_add (pv 1) pe_int) pa_nil))))
    (pss_one (ps_ret (pe_tup (pa_cons (pe_op op_and (pv 3) (pv 5)) (pa_cons (pe_op op_and (pe_op op_or (pv 5) (pe_ca (P := P) (w := w) (K := K) (mg := mg) (base := base) ⟨rfl, rfl, rfl, rfl, rfl⟩ hr rfl (pa_cons (pv 1) pa_nil))) (pe_un un_inv (pv 4))) pa_nil)))))), ?_⟩
  walk_at "rd"
  refine w_ca CB (by decide) ?_
  walk_at "rd"
  refine ⟨c, rfl, by omega, ?_⟩
  walk_at "rd"
  refine w_ca CB (by decide) ?_
  walk_at "rd"
  refine ⟨p + 1, by rw [Int.natCast_add]; rfl, by omega, ?_⟩
  walk_at "rd"
  rw [xor_int]
  walk_at "rd"
  rw [and_int]
  refine w_ca CT (by decide) ?_
  walk_at "rd"
  refine ⟨p, rfl, by omega, ?_⟩
  walk_at "rd"
  rw [or_int, and_not_int]
  exact ⟨by walk_at "sz", fun t ht => q t _ ht (same_new ht _) upd_same⟩
end
end Mn

namespace Mn
open PySem L2
section
variable {P : Program} {w : World} {K : PySem.W.Frag} {mg : Str → Option Value} {base : Heap}
def cellAt (ns : List Int) (k : Nat) : Int := ns.getD k 0
def spCell (K : PySem.W.Frag) : Sp := fun vs H Q _ => ∃ (a : Addr) (ns : List Int) (k : Nat), vs = [.ref a, .int (k : Int)] ∧ SqL K H a (ns.map V.int) ∧ ns.length ≤ 1000 ∧ Q (.int (cellAt ns k)) H
theorem ok_cell {f : Addr} {fd : FuncData} (F : Fun K "_law_cell_at" "_law_cell_at" s_law_cell_at f fd) (T : Bt mg) : FnOk P w K mg base CX0 1 f fd ["_law_script", "_law_k"] (spCell K) := by
  refine F.ok sc_law_cell_at (fun vs H Q E h => ?_) (fun cdv A outer s H vs Q E hr h => ?_)
  · obtain ⟨a, ns, k, rfl, _⟩ := h
    rfl
  obtain ⟨a, ns, k, rfl, hS, h1, q⟩ := h
  unfold cellAt at q
  refine ⟨_, (pss_cons (ps_if (pt_cmpR op_lt (pv 1) (pe_callB (kLenL (K := K) rfl) (by rfl) T.len (by decide +kernel) (pa_cons (pv 0) pa_nil)) (nomark _)) (pss_one (ps_ret (pe_ix (kIxL (K := K) rfl) (pv 0) (pv 1) (fun _ _ => rfl)))) pss_nil)
    (pss_one (ps_ret pe_int))), ?_⟩
  walk_at "rd"
  walk_at "if"
  all_goals rename_i c
  all_goals rw [List.length_map] at c
  all_goals walk_at "rd"
  · have e := at_ints (ns := ns) (k := (k : Int)) (by omega) c
    rw [Int.toNat_natCast] at e
    exact w_ixL hS e q
  · have e : ns.getD k 0 = 0 := by simp [List.getD, List.getElem?_eq_none (show ns.length ≤ k by omega)]
    rw [e] at q
    exact q
end
end Mn

namespace Mn
open PySem L2
section
variable {P : Program} {w : World} {K : PySem.W.Frag} {mg : Str → Option Value} {base : Heap}
def spBits (K : PySem.W.Frag) : Sp := fun vs H Q _ => ∃ (a : Addr) (bs : List Bool), vs = [.ref a] ∧ SqL K H a (bs.map V.bl) ∧ bs.length ≤ 100 ∧ Q (.int (bitsOf bs : Nat)) H
theorem bl_at {bs : List Bool} {k : Nat} (h : k < bs.length) : (bs.map V.bl)[k]? = some (V.bl (bs.getD k false)) := by
  rw [List.getElem?_map, List.getElem?_eq_getElem h]
  simp [List.getD, List.getElem?_eq_getElem h]
theorem take_bits {bs : List Bool} {k : Nat} (h : k < bs.length) : bitsOf (bs.take (k + 1)) = bitsOf (bs.take k) + if bs.getD k false then 2 ^ k else 0 := by
  rw [List.take_add_one, List.getElem?_eq_getElem h]
  show bitsOf (bs.take k ++ [bs[k]]) = _
  rw [bitsOf_snoc, List.length_take, Nat.min_eq_left (by omega)]
  simp [List.getD, List.getElem?_eq_getElem h]
theorem ok_bits {f : Addr} {fd : FuncData} (F : Fun K "_law_bits" "_law_bits" s_law_bits f fd) (T : Bt mg) : FnOk P w K mg base CX0 1 f fd ["_law_rows"] (spBits K) := by
  refine F.ok sc_law_bits (fun vs H Q E h => ?_) (fun cdv A outer s H vs Q E hr h => ?_)
  · obtain ⟨a, bs, rfl, _⟩ := h
    rfl
  obtain ⟨a, bs, rfl, hS, hl, q⟩ := h
  refine ⟨_, (pss_cons (ps_set (i := 1) sc_law_bits.nd rfl (Or.inl rfl) pe_int)
    (pss_cons (ps_for PassesOwn.never rfl (pi_range1 rfl T.range (pa_cons (pe_callB (kLenL (K := K) rfl) (by rfl) T.len (by decide +kernel) (pa_cons (pv 0) pa_nil)) pa_nil)) (pg_name (i := 2) sc_law_bits.nd rfl (Or.inl rfl)) (pss_one (ps_if (pt_val (pe_ix (kIxL (K := K) rfl) (pv 0) (pv 2) (fun _ _ => rfl))) (pss_one (ps_aug (i := 1) sc_law_bits.nd rfl (Or.inl rfl) (pe_op op_shl pe_int (pv 2)) ip_add)) pss_nil)))
    (pss_one (ps_ret (pv 1))))), ?_⟩
  walk_at "rd"
  refine w_forR (fun i σ H' => ∃ v, σ = [some (.ref a), some (.int (bitsOf (bs.take i) : Nat)), v] ∧ H' = H) (by rw [List.length_map]; omega) (by rw [List.length_map]; omega) ⟨none, rfl, rfl⟩ (fun i σ H' hi pv => ?_) (fun σ H' pv => ?_)
  · obtain ⟨v, rfl, rfl⟩ := pv
    have hi' : i < bs.length := by simpa using hi
    have e := take_bits hi'
    walk_at "rd"
    refine w_ixL hS (at_nat (by omega) (bl_at hi')) ?_
    walk_at "rd"
    walk_at "if"
    all_goals rename_i c
    all_goals rw [c] at e
    all_goals walk_at "rd"
    · refine w_I (C := CPow) ⟨by omega, by omega, by decide⟩ ?_
      walk_at "rd"
      refine ⟨some (.int (0 + (i : Int))), ?_, rfl⟩
      have e0 : (0 : Int) + (i : Int) = ((i : Nat) : Int) := by omega
      rw [e0, shl_int, e, if_pos rfl, Int.natCast_add]
      all_goals rfl
    · refine ⟨some (.int (0 + (i : Int))), ?_, rfl⟩
      rw [e, if_neg Bool.false_ne_true, Nat.add_zero]
      all_goals rfl
  · obtain ⟨v, rfl, rfl⟩ := pv
    walk_at "rd"
    rw [List.length_map, Int.toNat_natCast, List.take_length]
    exact q
/-- the minder of a way -/
def clsOf (CM CA CR : Addr) (way : Int) : Addr := if way = 0 then CM else if way = 1 then CA else CR
def keepOf (way : Int) : Str := if way = 0 then "always" else if way = 1 then "never" else "fallen"
def wordOf (way : Int) : Str := if way = 0 then "one" else if way = 1 then "all" else "rest"
def mostOf (told m : Int) : Int := if told = 0 then 1 else m
def spanOf (told s : Int) : Int := if told = 0 then 1 else if told = 1 then 1 else s
def spMade (CM CA CR : Addr) : Sp := fun vs H Q _ => ∃ (way m s told : Int), vs = [.int way, .int m, .int s, .int told] ∧
  ∀ p dx H', H p = none → Same H H' → H' p = some (.ins (clsOf CM CA CR way) dx (minF "qa" (keepOf way) (mostOf told m) (spanOf told s))) → Q (.ref p) H'
theorem same_make {H : Hp} {x dx : Addr} {o o' o'' : HO} (nx : H x = none) (nd : H dx = none) (hne : dx ≠ x) : Same H (upd (upd (upd H dx o) x o') x o'') := fun b u e => by
  rw [upd_ne (ne_of_none e nx), upd_ne (ne_of_none e nx), upd_ne (ne_of_none e nd)]
  exact e
theorem ok_made {CM CA CR f : Addr} {fd : FuncData} (F : Fun K "_law_made" "_law_made" s_law_made f fd)
    (M0 : Mak P w K mg base CX0 "Minder" CM 2 ["self", "name", "keep", "most", "span"] [.int 1, .int 1] (spMinder K CM)) (M1 : Mak P w K mg base CX0 "Minder" CM 2 ["self", "name", "keep", "most", "span"] [.int 1] (spMinder K CM)) (M2 : Mak P w K mg base CX0 "Minder" CM 2 ["self", "name", "keep", "most", "span"] [] (spMinder K CM))
    (A0 : Mak P w K mg base CX0 "AllMinder" CA 2 ["self", "name", "keep", "most", "span"] [.int 1, .int 1] (spMinder K CA)) (A1 : Mak P w K mg base CX0 "AllMinder" CA 2 ["self", "name", "keep", "most", "span"] [.int 1] (spMinder K CA)) (A2 : Mak P w K mg base CX0 "AllMinder" CA 2 ["self", "name", "keep", "most", "span"] [] (spMinder K CA))
    (R0 : Mak P w K mg base CX0 "RestMinder" CR 2 ["self", "name", "keep", "most", "span"] [.int 1, .int 1] (spMinder K CR)) (R1 : Mak P w K mg base CX0 "RestMinder" CR 2 ["self", "name", "keep", "most", "span"] [.int 1] (spMinder K CR)) (R2 : Mak P w K mg base CX0 "RestMinder" CR 2 ["self", "name", "keep", "most", "span"] [] (spMinder K CR)) :
    FnOk P w K mg base CX0 4 f fd ["_law_way", "_law_most", "_law_span", "_law_told"] (spMade CM CA CR) := by
  refine F.ok sc_law_made (fun vs H Q E h => ?_) (fun cdv A outer s H vs Q E hr h => ?_)
  · obtain ⟨way, m, s, told, rfl, _⟩ := h
    rfl
  obtain ⟨way, m, s, told, rfl, q⟩ := h
  refine ⟨_, (pss_cons (ps_if (pt_cmpR op_eq (pv 0) pe_int (nomark _)) (pss_cons (ps_if (pt_cmpR op_eq (pv 3) pe_int (nomark _)) (pss_one (ps_ret (pe_mka (P := P) (w := w) (K := K) (mg := mg) (base := base) ⟨rfl, rfl, rfl, rfl, rfl⟩ hr rfl (pa_cons pe_str (pa_cons pe_str pa_nil))))) pss_nil)
    (pss_cons (ps_if (pt_cmpR op_eq (pv 3) pe_int (nomark _)) (pss_one (ps_ret (pe_mka (P := P) (w := w) (K := K) (mg := mg) (base := base) ⟨rfl, rfl, rfl, rfl, rfl⟩ hr rfl (pa_cons pe_str (pa_cons pe_str (pa_cons (pv 1) pa_nil)))))) pss_nil)
    (pss_one (ps_ret (pe_mka (P := P) (w := w) (K := K) (mg := mg) (base := base) ⟨rfl, rfl, rfl, rfl, rfl⟩ hr rfl (pa_cons pe_str (pa_cons pe_str (pa_cons (pv 1) (pa_cons (pv 2) pa_nil))))))))) pss_nil)
    (pss_cons (ps_if (pt_cmpR op_eq (pv 0) pe_int (nomark _)) (pss_cons (ps_if (pt_cmpR op_eq (pv 3) pe_int (nomark _)) (pss_one (ps_ret (pe_mka (P := P) (w := w) (K := K) (mg := mg) (base := base) ⟨rfl, rfl, rfl, rfl, rfl⟩ hr rfl (pa_cons pe_str (pa_cons pe_str pa_nil))))) pss_nil)
    (pss_cons (ps_if (pt_cmpR op_eq (pv 3) pe_int (nomark _)) (pss_one (ps_ret (pe_mka (P := P) (w := w) (K := K) (mg := mg) (base := base) ⟨rfl, rfl, rfl, rfl, rfl⟩ hr rfl (pa_cons pe_str (pa_cons pe_str (pa_cons (pv 1) pa_nil)))))) pss_nil)
    (pss_one (ps_ret (pe_mka (P := P) (w := w) (K := K) (mg := mg) (base := base) ⟨rfl, rfl, rfl, rfl, rfl⟩ hr rfl (pa_cons pe_str (pa_cons pe_str (pa_cons (pv 1) (pa_cons (pv 2) pa_nil))))))))) pss_nil)
    (pss_cons (ps_if (pt_cmpR op_eq (pv 3) pe_int (nomark _)) (pss_one (ps_ret (pe_mka (P := P) (w := w) (K := K) (mg := mg) (base := base) ⟨rfl, rfl, rfl, rfl, rfl⟩ hr rfl (pa_cons pe_str (pa_cons pe_str pa_nil))))) pss_nil)
    (pss_cons (ps_if (pt_cmpR op_eq (pv 3) pe_int (nomark _)) (pss_one (ps_ret (pe_mka (P := P) (w := w) (K := K) (mg := mg) (base := base) ⟨rfl, rfl, rfl, rfl, rfl⟩ hr rfl (pa_cons pe_str (pa_cons pe_str (pa_cons (pv 1) pa_nil)))))) pss_nil)
    (pss_one (ps_ret (pe_mka (P := P) (w := w) (K := K) (mg := mg) (base := base) ⟨rfl, rfl, rfl, rfl, rfl⟩ hr rfl (pa_cons pe_str (pa_cons pe_str (pa_cons (pv 1) (pa_cons (pv 2) pa_nil))))))))))), ?_⟩
  have fin : ∀ {C x dx : Addr} {k : Str} {m' s' : Int}, H x = none → H dx = none → dx ≠ x → C = clsOf CM CA CR way → k = keepOf way → m' = mostOf told m → s' = spanOf told s →
      Q (.ref x) (upd (upd (upd H dx (.own x)) x (.ins C dx [])) x (.ins C dx (minF "qa" k m' s'))) := fun {C x dx k m' s'} nx nd hne e1 e2 e3 e4 => by
    subst e1 e2 e3 e4
    exact q x dx _ nx (same_make nx nd hne) upd_same
  walk_at "rd"
  walk_at "if"
  · rename_i w0
    have w0 := V.int.inj w0
    walk_at "rd"
    walk_at "if"
    · rename_i t0
      walk_at "rd"
      have t0 := V.int.inj t0
      refine w_mka M0 (by decide) ?_
      walk_at "rd"
      intro x dx nx nd hne
      exact ⟨x, dx, _, _, _, _, rfl, upd_same, rfl, fin nx nd hne (by simp [clsOf, w0]) (by simp [keepOf, w0]) (by simp [mostOf, t0]) (by simp [spanOf, t0])⟩
    rename_i t0
    have t0 : ¬ told = 0 := fun e => t0 (congrArg V.int e)
    walk_at "rd"
    walk_at "if"
    · rename_i t1
      walk_at "rd"
      have t1 := V.int.inj t1
      refine w_mka M1 (by decide) ?_
      walk_at "rd"
      intro x dx nx nd hne
      exact ⟨x, dx, _, _, _, _, rfl, upd_same, rfl, fin nx nd hne (by simp [clsOf, w0]) (by simp [keepOf, w0]) (by simp [mostOf, t0, t1]) (by simp [spanOf, t0, t1])⟩
    rename_i t1
    have t1 : ¬ told = 1 := fun e => t1 (congrArg V.int e)
    walk_at "rd"
    refine w_mka M2 (by decide) ?_
    walk_at "rd"
    intro x dx nx nd hne
    exact ⟨x, dx, _, _, _, _, rfl, upd_same, rfl, fin nx nd hne (by simp [clsOf, w0]) (by simp [keepOf, w0]) (by simp [mostOf, t0, t1]) (by simp [spanOf, t0, t1])⟩
  rename_i w0
  have w0 : ¬ way = 0 := fun e => w0 (congrArg V.int e)
  walk_at "rd"
  walk_at "if"
  · rename_i w1
    have w1 := V.int.inj w1
    walk_at "rd"
    walk_at "if"
    · rename_i t0
      walk_at "rd"
      have t0 := V.int.inj t0
      refine w_mka A0 (by decide) ?_
      walk_at "rd"
      intro x dx nx nd hne
      exact ⟨x, dx, _, _, _, _, rfl, upd_same, rfl, fin nx nd hne (by simp [clsOf, w0, w1]) (by simp [keepOf, w0, w1]) (by simp [mostOf, t0]) (by simp [spanOf, t0])⟩
    rename_i t0
    have t0 : ¬ told = 0 := fun e => t0 (congrArg V.int e)
    walk_at "rd"
    walk_at "if"
    · rename_i t1
      walk_at "rd"
      have t1 := V.int.inj t1
      refine w_mka A1 (by decide) ?_
      walk_at "rd"
      intro x dx nx nd hne
      exact ⟨x, dx, _, _, _, _, rfl, upd_same, rfl, fin nx nd hne (by simp [clsOf, w0, w1]) (by simp [keepOf, w0, w1]) (by simp [mostOf, t0, t1]) (by simp [spanOf, t0, t1])⟩
    rename_i t1
    have t1 : ¬ told = 1 := fun e => t1 (congrArg V.int e)
    walk_at "rd"
    refine w_mka A2 (by decide) ?_
    walk_at "rd"
    intro x dx nx nd hne
    exact ⟨x, dx, _, _, _, _, rfl, upd_same, rfl, fin nx nd hne (by simp [clsOf, w0, w1]) (by simp [keepOf, w0, w1]) (by simp [mostOf, t0, t1]) (by simp [spanOf, t0, t1])⟩
  rename_i w1
  have w1 : ¬ way = 1 := fun e => w1 (congrArg V.int e)
  walk_at "rd"
  walk_at "if"
  · rename_i t0
    walk_at "rd"
    have t0 := V.int.inj t0
    refine w_mka R0 (by decide) ?_
    walk_at "rd"
    intro x dx nx nd hne
    exact ⟨x, dx, _, _, _, _, rfl, upd_same, rfl, fin nx nd hne (by simp [clsOf, w0, w1]) (by simp [keepOf, w0, w1]) (by simp [mostOf, t0]) (by simp [spanOf, t0])⟩
  rename_i t0
  have t0 : ¬ told = 0 := fun e => t0 (congrArg V.int e)
  walk_at "rd"
  walk_at "if"
  · rename_i t1
    walk_at "rd"
    have t1 := V.int.inj t1
    refine w_mka R1 (by decide) ?_
    walk_at "rd"
    intro x dx nx nd hne
    exact ⟨x, dx, _, _, _, _, rfl, upd_same, rfl, fin nx nd hne (by simp [clsOf, w0, w1]) (by simp [keepOf, w0, w1]) (by simp [mostOf, t0, t1]) (by simp [spanOf, t0, t1])⟩
  rename_i t1
  have t1 : ¬ told = 1 := fun e => t1 (congrArg V.int e)
  walk_at "rd"
  refine w_mka R2 (by decide) ?_
  walk_at "rd"
  intro x dx nx nd hne
  exact ⟨x, dx, _, _, _, _, rfl, upd_same, rfl, fin nx nd hne (by simp [clsOf, w0, w1]) (by simp [keepOf, w0, w1]) (by simp [mostOf, t0, t1]) (by simp [spanOf, t0, t1])⟩
end
end Mn

namespace Mn
open PySem L2
section
variable {P : Program} {w : World} {K : PySem.W.Frag} {mg : Str → Option Value} {base : Heap}
def spDue (K : PySem.W.Frag) : Sp := fun vs H Q _ => ∃ (way : Int) (p : Nat) (a b : Addr) (on good : List Bool), vs = [.int way, .int (p : Int), .ref a, .ref b] ∧ SqL K H a (on.map V.bl) ∧ SqL K H b (good.map V.bl) ∧ on.length ≤ 64 ∧ good.length = on.length ∧
  ∀ t H', H t = none → Same H H' → H' t = some (.tup [.int (bitsOf (putL way p on) : Nat), .int (bitsOf (anewL way p good on.length) : Nat)]) → Q (.ref t) H'
theorem range_snoc {α : Type} (f : Nat → α) (i : Nat) : (List.range (i + 1)).map f = (List.range i).map f ++ [f i] := by
  rw [List.range_succ, List.map_append]
  rfl
theorem ok_due {f : Addr} {fd : FuncData} (F : Fun K "_law_due" "_law_due" s_law_due f fd) (T : Bt mg) (CB : Cal P w K mg base CX0 "_law_bits" 1 ["_law_rows"] [] (spBits K)) : FnOk P w K mg base CX0 2 f fd ["_law_way", "_law_place", "_law_on", "_law_good"] (spDue K) := by
  refine F.ok sc_law_due (fun vs H Q E h => ?_) (fun cdv A outer s H vs Q E hr h => ?_)
  · obtain ⟨way, p, a, b, on, good, rfl, _⟩ := h
    rfl
  obtain ⟨way, p, a, b, on, good, rfl, hA, hB, hl, hg, q⟩ := h
  refine ⟨_, (pss_cons (ps_set (i := 4) sc_law_due.nd rfl (Or.inl rfl) (pe_lst pa_nil))
    (pss_cons (ps_set (i := 5) sc_law_due.nd rfl (Or.inl rfl) (pe_lst pa_nil))
    (pss_cons (ps_for PassesOwn.never rfl (pi_range1 rfl T.range (pa_cons (pe_callB (kLenL (K := K) rfl) (by rfl) T.len (by decide +kernel) (pa_cons (pv 2) pa_nil)) pa_nil)) (pg_name (i := 6) sc_law_due.nd rfl (Or.inl rfl)) (pss_one (ps_if (pt_cmpR op_eq (pv 0) pe_int (nomark _)) (pss_cons (ps_expr (kBm (K := K) rfl PySem.F.plainAttrs_list PySem.F.slot_list_append PySem.F.type_list_append mt_append (pv 4) (pa_cons pe_bl pa_nil)))
    (pss_one (ps_expr (kBm (K := K) rfl PySem.F.plainAttrs_list PySem.F.slot_list_append PySem.F.type_list_append mt_append (pv 5) (pa_cons (pe_cmpR op_eq (pv 6) (pv 1) (nomark _)) pa_nil))))) (pss_one (ps_if (pt_cmpR op_eq (pv 0) pe_int (nomark _)) (pss_cons (ps_expr (kBm (K := K) rfl PySem.F.plainAttrs_list PySem.F.slot_list_append PySem.F.type_list_append mt_append (pv 4) (pa_cons (pe_ix (kIxL (K := K) rfl) (pv 2) (pv 6) (fun _ _ => rfl)) pa_nil)))
    (pss_one (ps_expr (kBm (K := K) rfl PySem.F.plainAttrs_list PySem.F.slot_list_append PySem.F.type_list_append mt_append (pv 5) (pa_cons (pe_not (pe_ix (kIxL (K := K) rfl) (pv 3) (pv 6) (fun _ _ => rfl))) pa_nil))))) (pss_cons (ps_expr (kBm (K := K) rfl PySem.F.plainAttrs_list PySem.F.slot_list_append PySem.F.type_list_append mt_append (pv 4) (pa_cons (pe_and (pe_ix (kIxL (K := K) rfl) (pv 2) (pv 6) (fun _ _ => rfl)) (pe_one (pe_cmpR op_gt (pv 6) (pv 1) (nomark _)))) pa_nil)))
    (pss_one (ps_expr (kBm (K := K) rfl PySem.F.plainAttrs_list PySem.F.slot_list_append PySem.F.type_list_append mt_append (pv 5) (pa_cons (pe_and (pe_cmpR op_ge (pv 6) (pv 1) (nomark _)) (pe_one (pe_not (pe_ix (kIxL (K := K) rfl) (pv 3) (pv 6) (fun _ _ => rfl))))) pa_nil))))))))))
    (pss_one (ps_ret (pe_tup (pa_cons (pe_ca (P := P) (w := w) (K := K) (mg := mg) (base := base) ⟨rfl, rfl, rfl, rfl, rfl⟩ hr rfl (pa_cons (pv 4) pa_nil)) (pa_cons (pe_ca (P := P) (w := w) (K := K) (mg := mg) (base := base) ⟨rfl, rfl, rfl, rfl, rfl⟩ hr rfl (pa_cons (pv 5) pa_nil)) pa_nil)))))))), ?_⟩
  walk_at "rd"
  refine ⟨by walk_at "sz", fun u hu => ?_⟩
  have s1 : Same H (upd H u (.lst [])) := same_new hu _
  have e1 : upd H u (.lst []) u = some (.lst []) := upd_same
  generalize upd H u (.lst []) = H1 at s1 e1
  walk_at "rd"
  refine ⟨by walk_at "sz", fun r hr1 => ?_⟩
  have s2 : Same H (upd H1 r (.lst [])) := same_upd s1 hr1
  have e2 : upd H1 r (.lst []) u = some (.lst []) := by walk_at "hp"
  have e3 : upd H1 r (.lst []) r = some (.lst []) := upd_same
  have nur : u ≠ r := ne_of_none e1 hr1
  have hr0 : H r = none := s1.free hr1
  generalize upd H1 r (.lst []) = H2 at s2 e2 e3
  walk_at "rd"
  refine w_forR (fun i σ H' => ∃ v, σ = [some (.int way), some (.int (p : Int)), some (.ref a), some (.ref b), some (.ref u), some (.ref r), v] ∧ Same H H' ∧
      H' u = some (.lst (((List.range i).map fun k => putB way p k (on.getD k false)).map V.bl)) ∧ H' r = some (.lst (((List.range i).map fun k => anewB way p k (good.getD k false)).map V.bl)))
    (by rw [List.length_map]; omega) (by rw [List.length_map]; omega) ⟨none, rfl, s2, e2, e3⟩ (fun i σ H' hi pv => ?_) (fun σ H' pv => ?_)
  · obtain ⟨v, rfl, s3, f1, f2⟩ := pv
    have hi' : i < on.length := by simpa using hi
    have hA' := s3.seq hA
    have hB' := s3.seq hB
    have z1 : (((List.range i).map fun k => putB way p k (on.getD k false)).map V.bl).length < sizeLine := by
      rw [List.length_map, List.length_map, List.length_range, sizeLine_eq]; omega
    have z2 : (((List.range i).map fun k => anewB way p k (good.getD k false)).map V.bl).length < sizeLine := by
      rw [List.length_map, List.length_map, List.length_range, sizeLine_eq]; omega
    have ei : (0 : Int) + (i : Int) = ((i : Nat) : Int) := by omega
    -- what both appends leave
    have fin : ∀ {H3 : Hp} {bp ba : Bool}, H3 = upd (upd H' u (.lst (((List.range i).map fun k => putB way p k (on.getD k false)).map V.bl ++ [V.bl bp]))) r (.lst (((List.range i).map fun k => anewB way p k (good.getD k false)).map V.bl ++ [V.bl ba])) → bp = putB way p i (on.getD i false) → ba = anewB way p i (good.getD i false) →
        Same H H3 ∧ H3 u = some (.lst (((List.range (i + 1)).map fun k => putB way p k (on.getD k false)).map V.bl)) ∧ H3 r = some (.lst (((List.range (i + 1)).map fun k => anewB way p k (good.getD k false)).map V.bl)) := fun {H3 bp ba} e e4 e5 => by
      subst e e4 e5
      refine ⟨same_mut (same_mut s3 hu) hr0, ?_, ?_⟩
      · rw [upd_ne nur, upd_same, range_snoc, List.map_append]
        rfl
      · rw [upd_same, range_snoc, List.map_append]
        rfl
    have f2' : ∀ {o : HO}, upd H' u o r = some (.lst (((List.range i).map fun k => anewB way p k (good.getD k false)).map V.bl)) := fun {o} => by rw [upd_ne nur.symm]; exact f2
    have hA2 : ∀ {o : HO}, SqL K (upd H' u o) a (on.map V.bl) := fun {o} => (same_mut (o := o) s3 hu).seq hA
    have hB2 : ∀ {o : HO}, SqL K (upd H' u o) b (good.map V.bl) := fun {o} => (same_mut (o := o) s3 hu).seq hB
    walk_at "rd"
    walk_at "if"
    · rename_i w0
      have w0 := V.int.inj w0
      walk_at "rd"
      refine ⟨some (.int (0 + (i : Int))), rfl, fin rfl (by simp [putB, w0]) ?_⟩
      simp only [anewB, w0, if_true]
      exact decide_eq_decide.mpr ⟨fun h => by have := V.int.inj h; omega, fun h => congrArg V.int (by omega)⟩
    · rename_i w0
      have w0 : ¬ way = 0 := fun e => w0 (congrArg V.int e)
      walk_at "rd"
      walk_at "if"
      · rename_i w1
        have w1 := V.int.inj w1
        walk_at "rd"
        refine w_ixL hA' (at_nat ei (bl_at hi')) ?_
        walk_at "rd"
        refine w_ixL hB2 (at_nat ei (bl_at (by omega))) ?_
        walk_at "rd"
        exact ⟨some (.int (0 + (i : Int))), rfl, fin rfl (by simp [putB, w0, w1]) (by simp [anewB, w0, w1])⟩
      · rename_i w1
        have w1 : ¬ way = 1 := fun e => w1 (congrArg V.int e)
        walk_at "rd"
        refine w_ixL hA' (at_nat ei (bl_at hi')) ?_
        walk_at "rd"
        walk_at "if"
        all_goals rename_i c
        all_goals walk_at "rd"
        all_goals walk_at "if"
        all_goals rename_i c2
        all_goals walk_at "rd"
        · refine w_ixL hB2 (at_nat ei (bl_at (by omega))) ?_
          walk_at "rd"
          have c' : p ≤ i := by omega
          refine ⟨some (.int (0 + (i : Int))), rfl, fin rfl ?_ (by simp [anewB, w0, w1, c'])⟩
          simp only [putB, w0, w1, if_false, c, Bool.true_and]
          exact decide_eq_decide.mpr ⟨fun h => by omega, fun h => by omega⟩
        · have c' : ¬ p ≤ i := by omega
          refine ⟨some (.int (0 + (i : Int))), rfl, fin rfl ?_ (by simp [anewB, w0, w1, c'])⟩
          simp only [putB, w0, w1, if_false, c, Bool.true_and]
          exact decide_eq_decide.mpr ⟨fun h => by omega, fun h => by omega⟩
        · refine w_ixL hB2 (at_nat ei (bl_at (by omega))) ?_
          walk_at "rd"
          have c' : p ≤ i := by omega
          exact ⟨some (.int (0 + (i : Int))), rfl, fin rfl (by simp only [putB, if_neg w0, if_neg w1, c, Bool.false_and]) (by simp [anewB, w0, w1, c'])⟩
        · have c' : ¬ p ≤ i := by omega
          exact ⟨some (.int (0 + (i : Int))), rfl, fin rfl (by simp only [putB, if_neg w0, if_neg w1, c, Bool.false_and]) (by simp [anewB, w0, w1, c'])⟩
  · obtain ⟨v, rfl, s3, f1, f2⟩ := pv
    rw [List.length_map, Int.toNat_natCast] at f1 f2
    walk_at "rd"
    refine w_ca CB (by decide) ?_
    walk_at "rd"
    refine ⟨u, putL way p on, rfl, SqL.of f1, by unfold putL; rw [List.length_map, List.length_range]; omega, ?_⟩
    walk_at "rd"
    refine w_ca CB (by decide) ?_
    walk_at "rd"
    refine ⟨r, anewL way p good on.length, rfl, SqL.of f2, by unfold anewL; rw [List.length_map, List.length_range]; omega, ?_⟩
    walk_at "rd"
    exact ⟨by walk_at "sz", fun t ht => q t _ (s3.free ht) (same_upd s3 ht) upd_same⟩
end
end Mn

namespace Mn
open PySem L2
structure MinK (P : Program) (w : World) (K : PySem.W.Frag) (mg : Str → Option Value) (base : Heap) (way : Int) (C : Addr) : Prop where
  cl : ClsF K C minN
  ch : Mth P w K mg base CX0 C "chosen" 2 chN [] (spChosen C (chOf way))
  wd : Mth P w K mg base CX0 C "words" 2 ["self"] [] (spMinWords C (wordOf way))
  lf : Mth P w K mg base CX0 C "leaf" 1 ["self"] [] (spTruth C false)
section
variable {P : Program} {w : World} {K : PySem.W.Frag} {mg : Str → Option Value} {base : Heap}
def spAsk (K : PySem.W.Frag) (CM CA CR : Addr) : Sp := fun vs H Q _ => ∃ (r dx a b : Addr) (fs : List (Str × V)) (way : Int) (p : Nat) (on good : List Bool), vs = [.ref r, .int way, .int (p : Int), .ref a, .ref b] ∧ H r = some (.ins (clsOf CM CA CR way) dx fs) ∧ fs.lookup ("chosen" : Str) = none ∧
  0 ≤ way ∧ way < 3 ∧ SqL K H a (on.map V.bl) ∧ SqL K H b (good.map V.bl) ∧ on.length ≤ 64 ∧ good.length = on.length ∧ p < on.length ∧ ∀ H', Same H H' → Q (.bl true) H'
theorem ok_asked {CM CA CR f : Addr} {fd : FuncData} (F : Fun K "_law_asked" "_law_asked" s_law_asked f fd) (T : Bt mg) (MK : ∀ way : Int, 0 ≤ way → way < 3 → MinK P w K mg base way (clsOf CM CA CR way))
    (CB : Cal P w K mg base CX0 "_law_bits" 1 ["_law_rows"] [] (spBits K)) (CD : Cal P w K mg base CX0 "_law_due" 2 ["_law_way", "_law_place", "_law_on", "_law_good"] [] (spDue K)) :
    FnOk P w K mg base CX0 3 f fd ["_law_minder", "_law_way", "_law_place", "_law_on", "_law_good"] (spAsk K CM CA CR) := by
  refine F.ok sc_law_asked (fun vs H Q E h => ?_) (fun cdv A outer s H vs Q E hr h => ?_)
  · obtain ⟨r, dx, a, b, fs, way, p, on, good, rfl, _⟩ := h
    rfl
  obtain ⟨r, dx, a, b, fs, way, p, on, good, rfl, hm, hlk, hw0, hw3, hA, hB, hl, hg, hp, q⟩ := h
  have mk := MK way hw0 hw3
  refine ⟨_, (pss_cons (ps_set (i := 5) sc_law_asked.nd rfl (Or.inl rfl) (pe_ma (P := P) (w := w) (K := K) (mg := mg) (base := base) ⟨rfl, rfl, rfl, rfl, rfl⟩ hr (pv 0) (pa_cons (pv 2) (pa_cons (pe_callB (kLenL (K := K) rfl) (by rfl) T.len (by decide +kernel) (pa_cons (pv 3) pa_nil)) (pa_cons (pe_ca (P := P) (w := w) (K := K) (mg := mg) (base := base) ⟨rfl, rfl, rfl, rfl, rfl⟩ hr rfl (pa_cons (pv 3) pa_nil)) (pa_cons (pe_ca (P := P) (w := w) (K := K) (mg := mg) (base := base) ⟨rfl, rfl, rfl, rfl, rfl⟩ hr rfl (pa_cons (pv 4) pa_nil)) pa_nil))))))
    (pss_cons (ps_set (i := 6) sc_law_asked.nd rfl (Or.inl rfl) (pe_ca (P := P) (w := w) (K := K) (mg := mg) (base := base) ⟨rfl, rfl, rfl, rfl, rfl⟩ hr rfl (pa_cons (pv 1) (pa_cons (pv 2) (pa_cons (pv 3) (pa_cons (pv 4) pa_nil))))))
    (pss_cons (ps_if (PW.pt (pw_or (pt_not (pt_val (pe_callB (kIsi (K := K) rfl) (by rfl) T.isinstance (by decide +kernel) (pa_cons (pv 5) (pa_cons (pe_bltn (v := .ty "tuple") (u := .type "tuple") rfl T.tuple (by decide +kernel) rfl) pa_nil))))) (pw_or1 (pt_cmpR op_ne (pe_callB (kLenT (K := K) rfl) (by rfl) T.len (by decide +kernel) (pa_cons (pv 5) pa_nil)) pe_int (nomark _))))) (pss_one (ps_ret pe_bl)) pss_nil)
    (pss_cons (ps_for PassesOwn.never rfl (pi_range1 rfl T.range (pa_cons pe_int pa_nil)) (pg_name (i := 7) sc_law_asked.nd rfl (Or.inl rfl)) (pss_one (ps_if (PW.pt (pw_or (pt_not (pt_val (pe_callB (kIsi (K := K) rfl) (by rfl) T.isinstance (by decide +kernel) (pa_cons (pe_ix (kIxT (K := K) rfl) (pv 5) (pv 7) (fun _ _ => rfl)) (pa_cons (pe_bltn (v := .ty "int") (u := .type "int") rfl T.int (by decide +kernel) rfl) pa_nil))))) (pw_or (pt_val (pe_callB (kIsi (K := K) rfl) (by rfl) T.isinstance (by decide +kernel) (pa_cons (pe_ix (kIxT (K := K) rfl) (pv 5) (pv 7) (fun _ _ => rfl)) (pa_cons (pe_bltn (v := .ty "bool") (u := .type "bool") rfl T.bool (by decide +kernel) rfl) pa_nil)))) (pw_or1 (pt_cmpR op_ne (pe_ix (kIxT (K := K) rfl) (pv 5) (pv 7) (fun _ _ => rfl)) (pe_ix (kIxT (K := K) rfl) (pv 6) (pv 7) (fun _ _ => rfl)) (nomark _)))))) (pss_one (ps_ret pe_bl)) pss_nil)))
    (pss_one (ps_ret pe_bl)))))), ?_⟩
  walk_at "rd"
  refine w_ma1 hm mk.cl.cl hlk mk.ch (by decide) ?_
  walk_at "rd"
  refine w_ca CB (by decide) ?_
  walk_at "rd"
  refine ⟨a, on, rfl, hA, by omega, ?_⟩
  walk_at "rd"
  refine w_ca CB (by decide) ?_
  walk_at "rd"
  refine ⟨b, good, rfl, hB, by omega, ?_⟩
  walk_at "rd"
  refine ⟨r, dx, fs, p, on.length, bitsOf on, bitsOf good, by rw [List.length_map]; rfl, hm, by omega, by omega, fun t H1 ht s1 e1 => ?_⟩
  walk_at "rd"
  refine w_ca CD (by decide) ?_
  walk_at "rd"
  refine ⟨way, p, a, b, on, good, rfl, s1.seq hA, s1.seq hB, hl, hg, fun u H2 hu s2 e2 => ?_⟩
  rw [put_is way p on good hp, anew_is way p on good hp] at e2
  have e3 := s2 _ _ e1
  have s3 := s1.trans s2
  walk_at "rd"
  refine w_isi (TyX.base (TyOf.tup e3)) kit_tt ?_
  walk_at "rd"
  walk_at "if"
  · rename_i k; cases k
  rename_i k; clear k
  walk_at "rd"
  walk_at "if"
  · rename_i k; exact absurd rfl k
  rename_i k; clear k
  walk_at "rd"
  generalize (chOf way p on.length (bitsOf on) (bitsOf good)).1 = x1 at e2 e3
  generalize (chOf way p on.length (bitsOf on) (bitsOf good)).2 = x2 at e2 e3
  refine w_forR (n := 2) (fun i σ H' => ∃ v, σ = [some (.ref r), some (.int way), some (.int (p : Int)), some (.ref a), some (.ref b), some (.ref t), some (.ref u), v] ∧ H' = H2) (by decide) (by decide) ⟨none, rfl, rfl⟩ (fun i σ H' hi pv => ?_) (fun σ H' pv => ?_)
  · obtain ⟨v, rfl, rfl⟩ := pv
    have ei : (0 : Int) + (i : Int) = ((i : Nat) : Int) := by omega
    have ez : ∃ z, ([V.int (x1 : Int), V.int (x2 : Int)])[i]? = some (.int z) := by
      have : i < 2 := hi
      match i, this with
      | 0, _ => exact ⟨_, rfl⟩
      | 1, _ => exact ⟨_, rfl⟩
    obtain ⟨z, ez⟩ := ez
    walk_at "rd"
    refine w_ixT (SqT.of e3) (at_nat ei ez) ?_
    walk_at "rd"
    refine w_isi (TyX.base (TyOf.int z)) kit_ii ?_
    walk_at "rd"
    walk_at "if"
    · rename_i k; cases k
    rename_i k; clear k
    walk_at "rd"
    refine w_ixT (SqT.of e3) (at_nat ei ez) ?_
    walk_at "rd"
    refine w_isi (TyX.base (TyOf.int z)) kit_ib ?_
    walk_at "rd"
    refine w_ixT (SqT.of e3) (at_nat ei ez) ?_
    walk_at "rd"
    refine w_ixT (SqT.of e2) (at_nat ei ez) ?_
    walk_at "rd"
    walk_at "if"
    · rename_i k; exact absurd rfl k
    walk_at "rd"
    exact ⟨_, rfl, rfl⟩
  · obtain ⟨v, rfl, rfl⟩ := pv
    walk_at "rd"
    exact q _ s3
end
end Mn

namespace Mn
open PySem L2
/-! ### texts that can be laid -/
theorem strOk_of (s : String) : PyData.strOk (Str.ofString s) = true := by
  rw [Str.ofString_eq_toList]
  show (List.toArray (s.toList.map Char.toNat)).all (fun n => decide (n < 0x110000)) = true
  rw [List.all_toArray, List.all_map, List.all_eq_true]
  intro c _
  refine decide_eq_true ?_
  have h := c.valid
  show c.val.toNat < 0x110000
  rcases h with h | h
  · exact Nat.lt_trans h (by decide)
  · exact h.2
theorem okStrs_cons {n : Str} {r : List Str} (h : PyData.strOk n = true) (t : okStrs r = true) : okStrs (n :: r) = true := by
  simp only [okStrs, List.all_cons, Bool.and_eq_true] at t ⊢
  exact ⟨h, t⟩
/-! ### names of the module, x in a tuple | list -/
section
variable {K : PySem.W.Frag} {mg : Str → Option Value} {σ : L2.St} {H : Hp} {Q : VK} {x : Str} {v y : V} {u : Value} {p : Addr} {xs : List V}
theorem w_gv (h : mg x = some u) (r : RelV v u) (q : Q v H) : tGv mg x σ H Q := ⟨v, u, h, r, q⟩
theorem w_inT (h : SqT K H p xs) (fx : flatV y = true) (fs : xs.all flatV = true) (q : Q (.bl (inV y xs)) H) : rIn K false y (.ref p) H Q := ⟨p, xs, rfl, .inr h, fx, fs, q⟩
theorem w_inL (h : SqL K H p xs) (fx : flatV y = true) (fs : xs.all flatV = true) (q : Q (.bl (inV y xs)) H) : rIn K false y (.ref p) H Q := ⟨p, xs, rfl, .inl h, fx, fs, q⟩
theorem w_ninT (h : SqT K H p xs) (fx : flatV y = true) (fs : xs.all flatV = true) (q : Q (.bl (!inV y xs)) H) : rIn K true y (.ref p) H Q := ⟨p, xs, rfl, .inr h, fx, fs, q⟩
theorem w_ninL (h : SqL K H p xs) (fx : flatV y = true) (fs : xs.all flatV = true) (q : Q (.bl (!inV y xs)) H) : rIn K true y (.ref p) H Q := ⟨p, xs, rfl, .inl h, fx, fs, q⟩
end
theorem inV2 (x a b : Str) : inV (.str x) [.str a, .str b] = (decide (x = a) || decide (x = b)) := by
  unfold inV
  simp only [List.any_cons, List.any_nil, Bool.or_false]
  have e : ∀ a : Str, eqV (.str a) (.str x) = decide (x = a) := fun a => by
    show decide (a = x) = decide (x = a)
    exact decide_eq_decide.mpr ⟨Eq.symm, Eq.symm⟩
  rw [e, e]
end Mn

namespace Mn
open PySem L2
section
variable {P : Program} {w : World} {K : PySem.W.Frag} {mg : Str → Option Value} {base : Heap}
def spLaw (K : PySem.W.Frag) : Sp := fun vs H Q _ => ∃ (a : Addr) (ns : List Int), vs = [.ref a] ∧ SqL K H a (ns.map V.int) ∧ ns.length ≤ 63 ∧ ∀ H', Q (.bl true) H'
theorem lcR_all {H : Hp} {C : Addr} {i : Nat} {g : Nat → V} {H4 : Hp} {y : V} (s : Same H H4) (h : H C = none) (e : H4 C = some (.lst ((List.range i).map g))) (hi : i < 100000) (hy : y = g i) :
    ∃ acc, H4 C = some (.lst acc) ∧ acc.length < sizeLine ∧ (Same H (upd H4 C (.lst (acc ++ [y]))) ∧ upd H4 C (.lst (acc ++ [y])) C = some (.lst ((List.range (i + 1)).map g))) := by
  refine ⟨_, e, ?_, same_mut s h, ?_⟩
  · rw [List.length_map, List.length_range, sizeLine_eq]; omega
  · rw [upd_same, range_snoc, hy]
theorem strOk_keep (way : Int) : PyData.strOk (keepOf way) = true := by
  unfold keepOf
  split
  · exact strOk_of _
  · split <;> exact strOk_of _
theorem strOk_word (way : Int) : PyData.strOk (wordOf way) = true := by
  unfold wordOf
  split
  · exact strOk_of _
  · split <;> exact strOk_of _
theorem ok_law {CM CA CR f : Addr} {fd : FuncData} (F : Fun K "law" "law" s_law f fd) (T : Bt mg) (MK : ∀ way : Int, 0 ≤ way → way < 3 → MinK P w K mg base way (clsOf CM CA CR way)) (CL : Cal P w K mg base CX0 "_law_cell_at" 1 ["_law_script", "_law_k"] [] (spCell K))
    (CA_ : Cal P w K mg base CX0 "_law_asked" 3 ["_law_minder", "_law_way", "_law_place", "_law_on", "_law_good"] [] (spAsk K CM CA CR)) (CMd : Cal P w K mg base CX0 "_law_made" 4 ["_law_way", "_law_most", "_law_span", "_law_told"] [] (spMade CM CA CR)) :
    FnOk P w K mg base CX0 5 f fd ["_law_script"] (spLaw K) := by
  refine F.ok sc_law (fun vs H Q E h => ?_) (fun cdv A outer s H vs Q E hr h => ?_)
  · obtain ⟨a, ns, rfl, _⟩ := h
    rfl
  obtain ⟨a, ns, rfl, hS, hz, q⟩ := h
  refine ⟨_, (pss_cons (ps_set (i := 1) sc_law.nd rfl (Or.inl rfl) (pe_ca (P := P) (w := w) (K := K) (mg := mg) (base := base) ⟨rfl, rfl, rfl, rfl, rfl⟩ hr rfl (pa_cons (pv 0) (pa_cons pe_int pa_nil))))
    (pss_cons (ps_set (i := 2) sc_law.nd rfl (Or.inl rfl) (pe_op op_mod (pv 1) pe_int))
    (pss_cons (ps_set (i := 3) sc_law.nd rfl (Or.inl rfl) (pe_op op_add pe_int (pe_op op_mod (pe_op op_fdiv (pv 1) pe_int) pe_int)))
    (pss_cons (ps_set (i := 4) sc_law.nd rfl (Or.inr rfl) (pe_op op_mod (pe_ca (P := P) (w := w) (K := K) (mg := mg) (base := base) ⟨rfl, rfl, rfl, rfl, rfl⟩ hr rfl (pa_cons (pv 0) (pa_cons pe_int pa_nil))) (pv 3)))
    (pss_cons (ps_setLc (i := 5) (own := [("_law_k", 6)]) (g := gName 6) (by rfl) sc_law.nd rfl rfl (sw_true rfl rfl rfl (by decide +kernel)) (pi_range1 rfl T.range (pa_cons (pv 3) pa_nil)) (blkOk_by (own := [("_law_k", 6)]) (N := ["_law_script", "_law_first", "_law_way", "_law_count", "_law_place", "_law_on", "_law_k", "_law_good", "_law_most", "_law_span", "_law_told", "_law_minder", "_law_other", "_law_one", "_law_keep", "_law_words", "_law_found"]) (sc := defScope s_law) (by decide +kernel)) (fun _ _ _ _ _ => pg_name (i := 6) sc_law.nd rfl (Or.inl rfl)) (fun _ _ _ _ _ => pts_nil) (fun _ _ _ _ _ => by exact (pe_and (pe_cmpR op_eq (pe_op op_mod (pe_op op_fdiv (pe_ca (P := P) (w := w) (K := K) (mg := mg) (base := base) ⟨rfl, rfl, rfl, rfl, rfl⟩ hr rfl (pa_cons (pv 0) (pa_cons (pe_op op_add pe_int (pv 6)) pa_nil))) pe_int) pe_int) pe_int (nomark _)) (pe_one (pe_cmpR op_ne (pv 6) (pv 4) (nomark _))))))
    (pss_cons (ps_setLc (i := 7) (own := [("_law_k", 6)]) (g := gName 6) (by rfl) sc_law.nd rfl rfl (sw_true rfl rfl rfl (by decide +kernel)) (pi_range1 rfl T.range (pa_cons (pv 3) pa_nil)) (blkOk_by (own := [("_law_k", 6)]) (N := ["_law_script", "_law_first", "_law_way", "_law_count", "_law_place", "_law_on", "_law_k", "_law_good", "_law_most", "_law_span", "_law_told", "_law_minder", "_law_other", "_law_one", "_law_keep", "_law_words", "_law_found"]) (sc := defScope s_law) (by decide +kernel)) (fun _ _ _ _ _ => pg_name (i := 6) sc_law.nd rfl (Or.inl rfl)) (fun _ _ _ _ _ => pts_nil) (fun _ _ _ _ _ => by exact (pe_and (pe_cmpR op_eq (pe_op op_mod (pe_ca (P := P) (w := w) (K := K) (mg := mg) (base := base) ⟨rfl, rfl, rfl, rfl, rfl⟩ hr rfl (pa_cons (pv 0) (pa_cons (pe_op op_add pe_int (pv 6)) pa_nil))) pe_int) pe_int (nomark _)) (pe_one (pe_cmpR op_ne (pv 6) (pv 4) (nomark _))))))
    (pss_cons (ps_set (i := 8) sc_law.nd rfl (Or.inl rfl) (pe_op op_mod (pe_ca (P := P) (w := w) (K := K) (mg := mg) (base := base) ⟨rfl, rfl, rfl, rfl, rfl⟩ hr rfl (pa_cons (pv 0) (pa_cons pe_int pa_nil))) pe_int))
    (pss_cons (ps_set (i := 9) sc_law.nd rfl (Or.inl rfl) (pe_op op_add pe_int (pe_op op_mod (pe_op op_fdiv (pe_ca (P := P) (w := w) (K := K) (mg := mg) (base := base) ⟨rfl, rfl, rfl, rfl, rfl⟩ hr rfl (pa_cons (pv 0) (pa_cons pe_int pa_nil))) pe_int) pe_int)))
    (pss_cons (ps_set (i := 10) sc_law.nd rfl (Or.inl rfl) (pe_op op_mod (pe_op op_fdiv (pv 1) pe_int) pe_int))
    (pss_cons (ps_set (i := 11) sc_law.nd rfl (Or.inl rfl) (pe_ca (P := P) (w := w) (K := K) (mg := mg) (base := base) ⟨rfl, rfl, rfl, rfl, rfl⟩ hr rfl (pa_cons (pv 2) (pa_cons (pv 8) (pa_cons (pv 9) (pa_cons (pv 10) pa_nil))))))
    (pss_cons (ps_if (pt_not (pt_val (pe_ca (P := P) (w := w) (K := K) (mg := mg) (base := base) ⟨rfl, rfl, rfl, rfl, rfl⟩ hr rfl (pa_cons (pv 11) (pa_cons (pv 2) (pa_cons (pv 4) (pa_cons (pv 5) (pa_cons (pv 7) pa_nil)))))))) (pss_one (ps_ret pe_bl)) pss_nil)
    (pss_cons (ps_setLc (i := 12) (own := [("_law_one", 13)]) (g := gName 13) (by rfl) sc_law.nd rfl rfl (sw_true rfl rfl rfl (by decide +kernel)) (kPiL (K := K) rfl (pv 5)) (blkOk_by (own := [("_law_one", 13)]) (N := ["_law_script", "_law_first", "_law_way", "_law_count", "_law_place", "_law_on", "_law_k", "_law_good", "_law_most", "_law_span", "_law_told", "_law_minder", "_law_other", "_law_one", "_law_keep", "_law_words", "_law_found"]) (sc := defScope s_law) (by decide +kernel)) (fun _ _ _ _ _ => pg_name (i := 13) sc_law.nd rfl (Or.inl rfl)) (fun _ _ _ _ _ => pts_nil) (fun _ _ _ _ _ => by exact (pe_not (pv 13))))
    (pss_cons (ps_asg pe_bl (pg_sub (pv 12) (pv 4) set_list))
    (pss_cons (ps_if (PW.pt (pw_or (pt_not (pt_val (pe_ca (P := P) (w := w) (K := K) (mg := mg) (base := base) ⟨rfl, rfl, rfl, rfl, rfl⟩ hr rfl (pa_cons (pv 11) (pa_cons (pv 2) (pa_cons (pv 4) (pa_cons (pv 12) (pa_cons (pv 7) pa_nil)))))))) (pw_or1 (pt_not (pt_val (pe_ca (P := P) (w := w) (K := K) (mg := mg) (base := base) ⟨rfl, rfl, rfl, rfl, rfl⟩ hr rfl (pa_cons (pv 11) (pa_cons (pv 2) (pa_cons (pv 4) (pa_cons (pv 5) (pa_cons (pv 7) pa_nil))))))))))) (pss_one (ps_ret pe_bl)) pss_nil)
    (pss_cons (ps_set (i := 14) sc_law.nd rfl (Or.inl rfl) (pe_ix (kIxL (K := K) rfl) (pe_lst (pa_cons pe_str (pa_cons pe_str (pa_cons pe_str pa_nil)))) (pv 2) (fun _ _ => rfl)))
    (pss_cons (ps_set (i := 15) sc_law.nd rfl (Or.inl rfl) (pe_lst (pa_cons pe_str (pa_cons (pv 14) (pa_cons (pe_ix (kIxL (K := K) rfl) (pe_lst (pa_cons pe_str (pa_cons pe_str (pa_cons pe_str pa_nil)))) (pv 2) (fun _ _ => rfl)) (pa_cons (pe_callTy call_strI (by rfl) T.str (by decide +kernel) (pa_cons (pv 8) pa_nil)) (pa_cons (pe_callTy call_strI (by rfl) T.str (by decide +kernel) (pa_cons (pv 9) pa_nil)) pa_nil)))))))
    (C8.pss_cut (ps_if (pt_cmpR op_eq (pv 10) pe_int (nomark _)) (pss_one (ps_set (i := 15) sc_law.nd rfl (Or.inl rfl) (pe_op op_cat (pe_slice (kSlL (K := K) rfl) (pv 15) po_none (po_some pe_int)) (pe_lst (pa_cons pe_str (pa_cons pe_str pa_nil)))))) pss_nil)
    (C8.pss_cut (ps_if (pt_cmpR op_eq (pv 10) pe_int (nomark _)) (pss_one (ps_asg pe_str (pg_sub (pv 15) pe_int set_list))) pss_nil)
    (pss_cons (ps_set (i := 16) sc_law.nd rfl (Or.inl rfl) (pe_ma0 (P := P) (w := w) (K := K) (mg := mg) (base := base) ⟨rfl, rfl, rfl, rfl, rfl⟩ hr (pv 11)))
    (pss_cons (ps_if (PW.pt (pw_or (pt_not (pt_val (pe_callB (kIsi (K := K) rfl) (by rfl) T.isinstance (by decide +kernel) (pa_cons (pv 16) (pa_cons (pe_bltn (v := .ty "list") (u := .type "list") rfl T.list (by decide +kernel) rfl) pa_nil))))) (pw_or1 (pt_cmpR (kNeS (K := K) rfl hr.units) (pv 16) (pv 15) (nomark _))))) (pss_one (ps_ret pe_bl)) pss_nil)
    (pss_cons (ps_expr (kBm (K := K) rfl PySem.F.plainAttrs_list PySem.F.slot_list_append PySem.F.type_list_append mt_append (pv 16) (pa_cons pe_str pa_nil)))
    (pss_one (ps_ret (pe_and (pe_cmpR (kEqS (K := K) rfl hr.units) (pe_ma0 (P := P) (w := w) (K := K) (mg := mg) (base := base) ⟨rfl, rfl, rfl, rfl, rfl⟩ hr (pv 11)) (pv 15) (nomark _)) (pe_one (pe_cmpR op_isB (pe_ma0 (P := P) (w := w) (K := K) (mg := mg) (base := base) ⟨rfl, rfl, rfl, rfl, rfl⟩ hr (pv 11)) pe_bl (nomark _))))))))))))))))))))))))))), ?_⟩
  have hz2 : ns.length ≤ 1000 := by omega
  walk_at "rd"
  refine w_ca CL (by decide) ?_
  walk_at "rd"
  refine ⟨a, ns, 0, rfl, hS, hz2, ?_⟩
  walk_at "rd"
  have hw0 : 0 ≤ cellAt ns 0 % 3 := Int.emod_nonneg _ (by decide)
  have hw3 : cellAt ns 0 % 3 < 3 := Int.emod_lt_of_pos _ (by decide)
  have mk := MK _ hw0 hw3
  generalize cellAt ns 0 % 3 = way at hw0 hw3 mk
  obtain ⟨n, hn, hn1, hn2⟩ : ∃ n : Nat, 1 + cellAt ns 0 / 3 % 64 = (n : Int) ∧ 1 ≤ n ∧ n ≤ 64 := by
    have h0 : 0 ≤ cellAt ns 0 / 3 % 64 := Int.emod_nonneg _ (by decide)
    have h1 : cellAt ns 0 / 3 % 64 < 64 := Int.emod_lt_of_pos _ (by decide)
    exact ⟨(1 + cellAt ns 0 / 3 % 64).toNat, by omega, by omega, by omega⟩
  have ht0 : 0 ≤ cellAt ns 0 / 192 % 3 := Int.emod_nonneg _ (by decide)
  have ht3 : cellAt ns 0 / 192 % 3 < 3 := Int.emod_lt_of_pos _ (by decide)
  rw [hn]
  refine w_ca CL (by decide) ?_
  walk_at "rd"
  refine ⟨a, ns, 1, rfl, hS, hz2, ?_⟩
  walk_at "rd"
  refine w_I (show (0 : Int) < (n : Int) by omega) ?_
  walk_at "rd"
  obtain ⟨p, hp, hpn⟩ : ∃ p : Nat, cellAt ns 1 % (n : Int) = (p : Int) ∧ p < n := by
    have h0 : 0 ≤ cellAt ns 1 % (n : Int) := Int.emod_nonneg _ (by omega)
    have h1 : cellAt ns 1 % (n : Int) < (n : Int) := Int.emod_lt_of_pos _ (by omega)
    exact ⟨(cellAt ns 1 % (n : Int)).toNat, by omega, by omega⟩
  rw [hp]
  -- on
  refine w_lcR (n := (n : Int)) (fun C i H' => Same H H' ∧ H' C = some (.lst ((List.range i).map fun k => V.bl (decide (cellAt ns (3 + k) / 2 % 2 = 1) && decide (k ≠ p))))) (by omega) (by omega) (fun C hC => ⟨same_new hC _, upd_same⟩) (fun C i H' hC hi pv => ?_) (fun C1 H1 hC1 pv => ?_)
  · obtain ⟨s1, e1⟩ := pv
    walk_at "rd"
    refine w_ca CL (by decide) ?_
    walk_at "rd"
    refine ⟨a, ns, 3 + i, congrArg (fun z => [V.ref a, V.int z]) (show (3 : Int) + (0 + (i : Int)) = ((3 + i : Nat) : Int) by omega), s1.seq hS, hz2, ?_⟩
    walk_at "rd"
    walk_at "if"
    all_goals rename_i c
    all_goals walk_at "rd"
    · have c := V.int.inj c
      refine lcR_all s1 hC e1 (by omega) ?_
      rw [decide_eq_true c, Bool.true_and, ← decide_not]
      exact congrArg V.bl (decide_eq_decide.mpr ⟨fun h e => h (congrArg V.int (by omega)), fun h e => h (by have := V.int.inj e; omega)⟩)
    · have c : ¬ cellAt ns (3 + i) / 2 % 2 = 1 := fun e => c (congrArg V.int e)
      refine lcR_all s1 hC e1 (by omega) ?_
      rw [decide_eq_false c, Bool.false_and]
  obtain ⟨s1, e1⟩ := pv
  rw [Int.toNat_natCast] at e1
  obtain ⟨on, eon, lon, onp⟩ : ∃ on : List Bool, ((List.range n).map fun k => V.bl (decide (cellAt ns (3 + k) / 2 % 2 = 1) && decide (k ≠ p))) = on.map V.bl ∧ on.length = n ∧ on.getD p false = false :=
    ⟨(List.range n).map fun k => decide (cellAt ns (3 + k) / 2 % 2 = 1) && decide (k ≠ p), by rw [List.map_map]; rfl, by rw [List.length_map, List.length_range], by rw [getD_map_range]; simp⟩
  rw [eon] at e1
  -- good
  walk_at "rd"
  refine w_lcR (n := (n : Int)) (fun C i H' => Same H1 H' ∧ H' C = some (.lst ((List.range i).map fun k => V.bl (decide (cellAt ns (3 + k) % 5 = 3) && decide (k ≠ p))))) (by omega) (by omega) (fun C hC => ⟨same_new hC _, upd_same⟩) (fun C i H' hC hi pv => ?_) (fun C2 H2 hC2 pv => ?_)
  · obtain ⟨s2, e2⟩ := pv
    walk_at "rd"
    refine w_ca CL (by decide) ?_
    walk_at "rd"
    refine ⟨a, ns, 3 + i, congrArg (fun z => [V.ref a, V.int z]) (show (3 : Int) + (0 + (i : Int)) = ((3 + i : Nat) : Int) by omega), (s1.trans s2).seq hS, hz2, ?_⟩
    walk_at "rd"
    walk_at "if"
    all_goals rename_i c
    all_goals walk_at "rd"
    · have c := V.int.inj c
      refine lcR_all s2 hC e2 (by omega) ?_
      rw [decide_eq_true c, Bool.true_and, ← decide_not]
      exact congrArg V.bl (decide_eq_decide.mpr ⟨fun h e => h (congrArg V.int (by omega)), fun h e => h (by have := V.int.inj e; omega)⟩)
    · have c : ¬ cellAt ns (3 + i) % 5 = 3 := fun e => c (congrArg V.int e)
      refine lcR_all s2 hC e2 (by omega) ?_
      rw [decide_eq_false c, Bool.false_and]
  obtain ⟨s2, e2⟩ := pv
  rw [Int.toNat_natCast] at e2
  obtain ⟨good, egood, lgood⟩ : ∃ good : List Bool, ((List.range n).map fun k => V.bl (decide (cellAt ns (3 + k) % 5 = 3) && decide (k ≠ p))) = good.map V.bl ∧ good.length = n :=
    ⟨(List.range n).map fun k => decide (cellAt ns (3 + k) % 5 = 3) && decide (k ≠ p), by rw [List.map_map]; rfl, by rw [List.length_map, List.length_range]⟩
  rw [egood] at e2
  have s12 := s1.trans s2
  have e12 := s2 _ _ e1
  walk_at "rd"
  refine w_ca CL (by decide) ?_
  walk_at "rd"
  refine ⟨a, ns, 2, rfl, s12.seq hS, hz2, ?_⟩
  walk_at "rd"
  refine w_ca CL (by decide) ?_
  walk_at "rd"
  refine ⟨a, ns, 1, rfl, s12.seq hS, hz2, ?_⟩
  walk_at "rd"
  have hm0 : Smol (cellAt ns 2 % 1000001) := smol_of (by have h0 := Int.emod_nonneg (cellAt ns 2) (show (1000001 : Int) ≠ 0 by decide); have h1 := Int.emod_lt_of_pos (cellAt ns 2) (show (0 : Int) < 1000001 by decide); omega)
  have hs0 : Smol (1 + cellAt ns 1 / 64 % 1000000) := smol_of (by have h0 := Int.emod_nonneg (cellAt ns 1 / 64) (show (1000000 : Int) ≠ 0 by decide); have h1 := Int.emod_lt_of_pos (cellAt ns 1 / 64) (show (0 : Int) < 1000000 by decide); omega)
  generalize cellAt ns 2 % 1000001 = m at hm0
  generalize 1 + cellAt ns 1 / 64 % 1000000 = sp at hs0
  generalize cellAt ns 0 / 192 % 3 = told at ht0 ht3
  refine w_ca CMd (by decide) ?_
  walk_at "rd"
  refine ⟨way, m, sp, told, rfl, fun r dx H3 hr3 s3 e3 => ?_⟩
  have s13 := s12.trans s3
  have e13 := s3 _ _ e12
  have e23 := s3 _ _ e2
  walk_at "rd"
  refine w_ca CA_ (by decide) ?_
  walk_at "rd"
  refine ⟨r, dx, C1, C2, _, way, p, on, good, rfl, e3, by rfl, hw0, hw3, SqL.of e13, SqL.of e23, by omega, by omega, by omega, fun H4 s4 => ?_⟩
  have e14 := s4 _ _ e13
  have e24 := s4 _ _ e23
  have e34 := s4 _ _ e3
  have s14 := s13.trans s4
  walk_at "rd"
  walk_at "if"
  · rename_i k; cases k
  walk_at "rd"
  -- other
  refine w_lcL (xs := on.map V.bl) (fun C i H' => Same H4 H' ∧ H' C = some (.lst ((on.take i).map fun b => V.bl (!b)))) (SqL.of e14) (fun C hC => ⟨same_new hC _, upd_same⟩) (fun C i H' hC _ pv => SqL.of (pv.1 _ _ e14)) (fun C i x H' hC hx pv => ?_) (fun C5 H5 hC5 pv => ?_)
  · obtain ⟨s5, e5⟩ := pv
    rw [List.getElem?_map] at hx
    obtain ⟨b, hb, rfl⟩ := Option.map_eq_some_iff.mp hx
    walk_at "rd"
    refine ⟨_, e5, ?_, same_mut s5 hC, ?_⟩
    · rw [List.length_map, List.length_take, sizeLine_eq]; omega
    · rw [upd_same, take_succ' hb, List.map_append]
      rfl
  obtain ⟨s5, e5⟩ := pv
  rw [List.length_map, List.take_length] at e5
  walk_at "rd"
  have lo : (on.map fun b => V.bl (!b)).length = n := by rw [List.length_map]; exact lon
  refine w_setL e5 (ixN_of (k := p) rfl (by omega)) ?_
  walk_at "rd"
  obtain ⟨oth, eoth, loth⟩ : ∃ oth : List Bool, (on.map fun b => V.bl (!b)).set p (V.bl false) = oth.map V.bl ∧ oth.length = n := by
    refine ⟨(on.map not).set p false, ?_, by rw [List.length_set, List.length_map]; exact lon⟩
    rw [List.map_set, List.map_map]
    rfl
  rw [eoth]
  have e16 : upd H5 C5 (.lst (oth.map V.bl)) C1 = some (.lst (on.map V.bl)) := by rw [upd_ne (ne_of_none e14 hC5)]; exact s5 _ _ e14
  have e26 : upd H5 C5 (.lst (oth.map V.bl)) C2 = some (.lst (good.map V.bl)) := by rw [upd_ne (ne_of_none e24 hC5)]; exact s5 _ _ e24
  have e36 : upd H5 C5 (.lst (oth.map V.bl)) r = some (.ins (clsOf CM CA CR way) dx (minF "qa" (keepOf way) (mostOf told m) (spanOf told sp))) := by rw [upd_ne (ne_of_none e34 hC5)]; exact s5 _ _ e34
  have e56 : upd H5 C5 (.lst (oth.map V.bl)) C5 = some (.lst (oth.map V.bl)) := upd_same
  generalize upd H5 C5 (.lst (oth.map V.bl)) = H6 at e16 e26 e36 e56
  refine w_ca CA_ (by decide) ?_
  walk_at "rd"
  refine ⟨r, dx, C5, C2, _, way, p, oth, good, rfl, e36, by rfl, hw0, hw3, SqL.of e56, SqL.of e26, by omega, by omega, by omega, fun H7 s7 => ?_⟩
  have e17 := s7 _ _ e16
  have e27 := s7 _ _ e26
  have e37 := s7 _ _ e36
  walk_at "rd"
  walk_at "if"
  · rename_i k; cases k
  walk_at "rd"
  refine w_ca CA_ (by decide) ?_
  walk_at "rd"
  refine ⟨r, dx, C1, C2, _, way, p, on, good, rfl, e37, by rfl, hw0, hw3, SqL.of e17, SqL.of e27, by omega, by omega, by omega, fun H8 s8 => ?_⟩
  have e38 := s8 _ _ e37
  walk_at "rd"
  walk_at "if"
  · rename_i k; cases k
  walk_at "rd"
  have hk : ∃ k : Nat, way = (k : Int) ∧ ([V.str "always", .str "never", .str "fallen"])[k]? = some (V.str (keepOf way)) ∧ ([V.str "one", .str "all", .str "rest"])[k]? = some (V.str (wordOf way)) := by
    have : way = 0 ∨ way = 1 ∨ way = 2 := by omega
    rcases this with rfl | rfl | rfl
    · exact ⟨0, rfl, rfl, rfl⟩
    · exact ⟨1, rfl, rfl, rfl⟩
    · exact ⟨2, rfl, rfl, rfl⟩
  obtain ⟨wk, ewk, ek, ew⟩ := hk
  refine ⟨by walk_at "sz", fun r9 n9 => ?_⟩
  walk_at "rd"
  refine w_ixL (SqL.of upd_same) (at_nat ewk ek) ?_
  walk_at "rd"
  have e39 : upd H8 r9 (.lst [V.str "always", .str "never", .str "fallen"]) r = _ := (upd_ne (ne_of_none e38 n9)).trans e38
  generalize upd H8 r9 (.lst [V.str "always", .str "never", .str "fallen"]) = H9 at e39
  refine ⟨by walk_at "sz", fun r10 n10 => ?_⟩
  walk_at "rd"
  refine w_ixL (SqL.of upd_same) (at_nat ewk ew) ?_
  walk_at "rd"
  have e310 : upd H9 r10 (.lst [V.str "one", .str "all", .str "rest"]) r = _ := (upd_ne (ne_of_none e39 n10)).trans e39
  generalize upd H9 r10 (.lst [V.str "one", .str "all", .str "rest"]) = H10 at e310
  refine w_strI hm0 ?_
  walk_at "rd"
  refine w_strI hs0 ?_
  walk_at "rd"
  refine ⟨by walk_at "sz", fun W n11 => ?_⟩
  walk_at "rd"
  have e311 : upd H10 W (.lst [V.str "minder", V.str (keepOf way), V.str (wordOf way), V.str (Str.ofString (toString m)), V.str (Str.ofString (toString sp))]) r = _ := (upd_ne (ne_of_none e310 n11)).trans e310
  have eW : upd H10 W (.lst [V.str "minder", V.str (keepOf way), V.str (wordOf way), V.str (Str.ofString (toString m)), V.str (Str.ofString (toString sp))]) W = _ := upd_same
  generalize upd H10 W (.lst [V.str "minder", V.str (keepOf way), V.str (wordOf way), V.str (Str.ofString (toString m)), V.str (Str.ofString (toString sp))]) = H11 at e311 eW
  refine w_cut (fun σ H' => ∃ (W' : Addr), σ = [some (.ref a), some (.int (cellAt ns 0)), some (.int way), some (.int n), some (.int p), some (.ref C1), none, some (.ref C2), some (.int m), some (.int sp), some (.int told), some (.ref r), some (.ref C5), none, some (.str (keepOf way)), some (.ref W'), none] ∧
    H' r = some (.ins (clsOf CM CA CR way) dx (minF "qa" (keepOf way) (mostOf told m) (spanOf told sp))) ∧ H' W' = some (.lst [V.str "minder", V.str (keepOf way), V.str (wordOf way), V.str (if told = 0 then "1" else Str.ofString (toString m)), V.str (if told = 0 then "1" else Str.ofString (toString sp))])) ?_ (fun σ H' hm => ?_)
  · walk_at "rd"
    walk_at "if"
    all_goals rename_i c
    · have c := V.int.inj c
      subst c
      walk_at "rd"
      refine w_slL (SqL.of eW) fun u hu => ?_
      have ec : cutV [V.str "minder", V.str (keepOf way), V.str (wordOf way), V.str (Str.ofString (toString m)), V.str (Str.ofString (toString sp))] none (some 3) = [V.str "minder", V.str (keepOf way), V.str (wordOf way)] := rfl
      rw [ec]
      walk_at "rd"
      refine ⟨by walk_at "sz", fun u2 hu2 => ?_⟩
      walk_at "rd"
      refine w_cat (by rw [upd_ne (ne_of_none upd_same hu2)]; exact upd_same) upd_same (by walk_at "sz") fun u3 hu3 => ?_
      walk_at "rd"
      refine ⟨u3, rfl, ?_, ?_⟩
      · exact (same_upd (same_upd (same_upd (Same.refl _) hu) hu2) hu3) _ _ e311
      · rw [upd_same]
        rfl
    · have c : ¬ told = 0 := fun e => c (congrArg V.int e)
      walk_at "rd"
      refine ⟨W, rfl, e311, ?_⟩
      rw [if_neg c, if_neg c]
      exact eW
  obtain ⟨W', rfl, e312, eW2⟩ := hm
  refine w_cut (fun σ H2' => σ = [some (.ref a), some (.int (cellAt ns 0)), some (.int way), some (.int n), some (.int p), some (.ref C1), none, some (.ref C2), some (.int m), some (.int sp), some (.int told), some (.ref r), some (.ref C5), none, some (.str (keepOf way)), some (.ref W'), none] ∧
    H2' r = some (.ins (clsOf CM CA CR way) dx (minF "qa" (keepOf way) (mostOf told m) (spanOf told sp))) ∧ H2' W' = some (.lst ((minWords (keepOf way) (wordOf way) (mostOf told m) (spanOf told sp)).map V.str))) ?_ (fun σ H2' hm => ?_)
  · walk_at "rd"
    walk_at "if"
    all_goals rename_i c
    · have c := V.int.inj c
      subst c
      walk_at "rd"
      refine w_setL eW2 (ixN_of (k := 4) rfl (by show 4 < 5; decide)) ?_
      walk_at "rd"
      refine ⟨rfl, ?_, ?_⟩
      · rw [upd_ne (by intro e; rw [e] at e312; rw [e312] at eW2; cases eW2)]
        exact e312
      · rw [upd_same]
        rfl
    · have c : ¬ told = 1 := fun e => c (congrArg V.int e)
      walk_at "rd"
      refine ⟨rfl, e312, ?_⟩
      rw [eW2]
      by_cases h0 : told = 0
      · subst h0
        rfl
      · have em : mostOf told m = m := if_neg h0
        have es : spanOf told sp = sp := by unfold spanOf; rw [if_neg h0, if_neg c]
        rw [em, es, if_neg h0, if_neg h0]
        rfl
  obtain ⟨rfl, e313, eW3⟩ := hm
  walk_at "rd"
  have hm1 : Smol (mostOf told m) := by
    unfold mostOf
    by_cases h0 : told = 0
    · rw [if_pos h0]; exact smol_of (by decide)
    · rw [if_neg h0]; exact hm0
  have hs1 : Smol (spanOf told sp) := by
    unfold spanOf
    by_cases h0 : told = 0
    · rw [if_pos h0]; exact smol_of (by decide)
    · rw [if_neg h0]
      by_cases h1 : told = 1
      · rw [if_pos h1]; exact smol_of (by decide)
      · rw [if_neg h1]; exact hs0
  generalize mostOf told m = m1 at *
  generalize spanOf told sp = sp1 at *
  have ok : okStrs (minWords (keepOf way) (wordOf way) m1 sp1) = true :=
    okStrs_cons (strOk_of _) (okStrs_cons (strOk_keep way) (okStrs_cons (strOk_word way) (okStrs_cons (strOk_of _) (okStrs_cons (strOk_of _) rfl))))
  refine w_ma1 e313 mk.cl.cl (by rfl) mk.wd (by decide) ?_
  walk_at "rd"
  refine ⟨r, dx, _, _, _, _, rfl, e313, hm1, hs1, fun f1 nf1 => ?_⟩
  walk_at "rd"
  have ef1 : upd H2' f1 (.lst ((minWords (keepOf way) (wordOf way) m1 sp1).map V.str)) f1 = _ := upd_same
  have e314 := (upd_ne (o := .lst ((minWords (keepOf way) (wordOf way) m1 sp1).map V.str)) (ne_of_none e313 nf1)).trans e313
  have eW4 := (upd_ne (o := .lst ((minWords (keepOf way) (wordOf way) m1 sp1).map V.str)) (ne_of_none eW3 nf1)).trans eW3
  have nf : f1 ≠ W' := (ne_of_none eW3 nf1).symm
  generalize upd H2' f1 (.lst ((minWords (keepOf way) (wordOf way) m1 sp1).map V.str)) = H12 at ef1 e314 eW4
  refine w_isi (TyX.base (TyOf.lst ef1)) kit_ll ?_
  walk_at "rd"
  walk_at "if"
  · rename_i k; cases k
  rename_i k; clear k
  walk_at "rd"
  refine w_neLS (SqL.of ef1) (SqL.of eW4) ok ok ?_
  walk_at "rd"
  walk_at "if"
  · rename_i k; exact absurd rfl k
  walk_at "rd"
  refine w_app ef1 (by show 5 < sizeLine; rw [sizeLine_eq]; decide) ?_
  walk_at "rd"
  have e315 := (upd_ne (o := .lst ((minWords (keepOf way) (wordOf way) m1 sp1).map V.str ++ [V.str ""])) (ne_of_none e313 nf1)).trans e314
  have eW5 := (upd_ne (o := .lst ((minWords (keepOf way) (wordOf way) m1 sp1).map V.str ++ [V.str ""])) nf.symm).trans eW4
  generalize upd H12 f1 (.lst ((minWords (keepOf way) (wordOf way) m1 sp1).map V.str ++ [V.str ""])) = H13 at e315 eW5
  refine w_ma1 e315 mk.cl.cl (by rfl) mk.wd (by decide) ?_
  walk_at "rd"
  refine ⟨r, dx, _, _, _, _, rfl, e315, hm1, hs1, fun f2 nf2 => ?_⟩
  walk_at "rd"
  refine w_eqLS (SqL.of upd_same) (SqL.of ((upd_ne (ne_of_none eW5 nf2)).trans eW5)) ok ok ?_
  have e316 := (upd_ne (o := .lst ((minWords (keepOf way) (wordOf way) m1 sp1).map V.str)) (ne_of_none e315 nf2)).trans e315
  generalize upd H13 f2 (.lst ((minWords (keepOf way) (wordOf way) m1 sp1).map V.str)) = H14 at e316
  rw [decide_eq_true rfl]
  walk_at "rd"
  refine w_ma1 e316 mk.cl.cl (by rfl) mk.lf (by decide) ?_
  walk_at "rd"
  refine ⟨r, dx, _, rfl, e316, ?_⟩
  walk_at "rd"
  exact q _
end
end Mn

namespace Mn
open PySem L2
theorem minK_of {P : Program} {w : World} {K : PySem.W.Frag} {mg : Str → Option Value} {base : Heap} {CM CA CR : Addr} (m : MinK P w K mg base 0 CM) (a : MinK P w K mg base 1 CA) (r : MinK P w K mg base 2 CR) (way : Int) (h0 : 0 ≤ way) (h3 : way < 3) : MinK P w K mg base way (clsOf CM CA CR way) := by
  have h : way = 0 ∨ way = 1 ∨ way = 2 := by omega
  rcases h with rfl | rfl | rfl
  · exact m
  · exact a
  · exact r
end Mn

namespace Mn
open PySem L2
theorem clsF_nil {K : PySem.W.Frag} {C : Addr} : ∀ f ∈ ([] : List Str), NoAttr K C f := fun _ h => absurd h List.not_mem_nil
theorem clsF_cons {K : PySem.W.Frag} {C : Addr} {g : Str} {r : List Str} (a : PySem.W.findIn K (.ref C) g = some none) (b : ∀ f ∈ r, NoAttr K C f) : ∀ f ∈ g :: r, NoAttr K C f := fun f h => by
  rcases List.mem_cons.mp h with e | e
  · subst e
    exact a
  · exact b f e
theorem all_mk {l : PySem.W.OpenLaw} {w : World} {K : PySem.W.Frag} {h : Heap} {mg : Str → Option Value} {fa c_Shape c_Minder c_AllMinder c_RestMinder f_bit f_below f_Shape_init f_Shape_leaf f_Minder_init T_Minder_init f_Minder_way f_Minder_chosen f_Minder_words f_AllMinder_way f_AllMinder_chosen f_RestMinder_way f_RestMinder_chosen f_law_cell_at f_law_bits f_law_made f_law_due f_law_asked f_law : Addr} (X : K.In h) (G : h.Ns mainGlobals mg) (hfa : mg "law" = some (.ref fa))
    {od_bit an_bit od_below an_below od_Shape_init an_Shape_init od_Shape_leaf an_Shape_leaf od_Minder_init an_Minder_init odT_Minder_init od_Minder_way an_Minder_way od_Minder_chosen an_Minder_chosen od_Minder_words an_Minder_words od_AllMinder_way an_AllMinder_way od_AllMinder_chosen an_AllMinder_chosen od_RestMinder_way an_RestMinder_way od_RestMinder_chosen an_RestMinder_chosen od_law_cell_at an_law_cell_at od_law_bits an_law_bits od_law_made an_law_made od_law_due an_law_due od_law_asked an_law_asked od_law an_law : Option Addr} {sl_bit sl_below sl_Shape_init sl_Shape_leaf sl_Minder_init slT_Minder_init sl_Minder_way sl_Minder_chosen sl_Minder_words sl_AllMinder_way sl_AllMinder_chosen sl_RestMinder_way sl_RestMinder_chosen sl_law_cell_at sl_law_bits sl_law_made sl_law_due sl_law_asked sl_law : Array (Option Value)} {oc_bit kV_bit dc_bit pm_bit cd_bit ct_bit oc_below kV_below dc_below pm_below cd_below ct_below oc_Shape_init kV_Shape_init dc_Shape_init pm_Shape_init cd_Shape_init ct_Shape_init oc_Shape_leaf kV_Shape_leaf dc_Shape_leaf pm_Shape_leaf cd_Shape_leaf ct_Shape_leaf oc_Minder_init kV_Minder_init dc_Minder_init pm_Minder_init cd_Minder_init ct_Minder_init ocT_Minder_init oc_Minder_way kV_Minder_way dc_Minder_way pm_Minder_way cd_Minder_way ct_Minder_way oc_Minder_chosen kV_Minder_chosen dc_Minder_chosen pm_Minder_chosen cd_Minder_chosen ct_Minder_chosen oc_Minder_words kV_Minder_words dc_Minder_words pm_Minder_words cd_Minder_words ct_Minder_words oc_AllMinder_way kV_AllMinder_way dc_AllMinder_way pm_AllMinder_way cd_AllMinder_way ct_AllMinder_way oc_AllMinder_chosen kV_AllMinder_chosen dc_AllMinder_chosen pm_AllMinder_chosen cd_AllMinder_chosen ct_AllMinder_chosen oc_RestMinder_way kV_RestMinder_way dc_RestMinder_way pm_RestMinder_way cd_RestMinder_way ct_RestMinder_way oc_RestMinder_chosen kV_RestMinder_chosen dc_RestMinder_chosen pm_RestMinder_chosen cd_RestMinder_chosen ct_RestMinder_chosen oc_law_cell_at kV_law_cell_at dc_law_cell_at pm_law_cell_at cd_law_cell_at ct_law_cell_at oc_law_bits kV_law_bits dc_law_bits pm_law_bits cd_law_bits ct_law_bits oc_law_made kV_law_made dc_law_made pm_law_made cd_law_made ct_law_made oc_law_due kV_law_due dc_law_due pm_law_due cd_law_due ct_law_due oc_law_asked kV_law_asked dc_law_asked pm_law_asked cd_law_asked ct_law_asked oc_law kV_law dc_law pm_law cd_law ct_law : Value} {nT_Minder_init tk_Minder_init_0 tk_Minder_init_1 : Nat}
    (z_len : PySem.W.nsIn K mainGlobals "len" = some none)
    (z_int : PySem.W.nsIn K mainGlobals "int" = some none)
    (z_bool : PySem.W.nsIn K mainGlobals "bool" = some none)
    (z_list : PySem.W.nsIn K mainGlobals "list" = some none)
    (z_tuple : PySem.W.nsIn K mainGlobals "tuple" = some none)
    (z_str : PySem.W.nsIn K mainGlobals "str" = some none)
    (z_range : PySem.W.nsIn K mainGlobals "range" = some none)
    (z_isinstance : PySem.W.nsIn K mainGlobals "isinstance" = some none)
    (a_Shape : PySem.W.nsIn K mainGlobals "Shape" = some (some (.ref c_Shape)))
    (pg_Shape : PySem.W.plainGet K c_Shape Str.empty = true)
    (hd_Shape : PySem.W.hasDictIn K c_Shape = true)
    (po_Shape : PySem.W.plainOver K c_Shape = true)
    (sa_Shape : PySem.W.findIn K (.ref c_Shape) "__setattr__" = some (some (.builtin "object.__setattr__")))
    (a_Minder : PySem.W.nsIn K mainGlobals "Minder" = some (some (.ref c_Minder)))
    (pg_Minder : PySem.W.plainGet K c_Minder Str.empty = true)
    (hd_Minder : PySem.W.hasDictIn K c_Minder = true)
    (po_Minder : PySem.W.plainOver K c_Minder = true)
    (sa_Minder : PySem.W.findIn K (.ref c_Minder) "__setattr__" = some (some (.builtin "object.__setattr__")))
    (n_Minder_name : PySem.W.findIn K (.ref c_Minder) "name" = some none)
    (n_Minder_keep : PySem.W.findIn K (.ref c_Minder) "keep" = some none)
    (n_Minder_most : PySem.W.findIn K (.ref c_Minder) "most" = some none)
    (n_Minder_span : PySem.W.findIn K (.ref c_Minder) "span" = some none)
    (mk_Minder : PySem.W.makesIn K c_Minder = true)
    (kc_Minder : PySem.W.keepIn K (.ref c_Minder) = true)
    (a_AllMinder : PySem.W.nsIn K mainGlobals "AllMinder" = some (some (.ref c_AllMinder)))
    (pg_AllMinder : PySem.W.plainGet K c_AllMinder Str.empty = true)
    (hd_AllMinder : PySem.W.hasDictIn K c_AllMinder = true)
    (po_AllMinder : PySem.W.plainOver K c_AllMinder = true)
    (sa_AllMinder : PySem.W.findIn K (.ref c_AllMinder) "__setattr__" = some (some (.builtin "object.__setattr__")))
    (n_AllMinder_name : PySem.W.findIn K (.ref c_AllMinder) "name" = some none)
    (n_AllMinder_keep : PySem.W.findIn K (.ref c_AllMinder) "keep" = some none)
    (n_AllMinder_most : PySem.W.findIn K (.ref c_AllMinder) "most" = some none)
    (n_AllMinder_span : PySem.W.findIn K (.ref c_AllMinder) "span" = some none)
    (mk_AllMinder : PySem.W.makesIn K c_AllMinder = true)
    (kc_AllMinder : PySem.W.keepIn K (.ref c_AllMinder) = true)
    (a_RestMinder : PySem.W.nsIn K mainGlobals "RestMinder" = some (some (.ref c_RestMinder)))
    (pg_RestMinder : PySem.W.plainGet K c_RestMinder Str.empty = true)
    (hd_RestMinder : PySem.W.hasDictIn K c_RestMinder = true)
    (po_RestMinder : PySem.W.plainOver K c_RestMinder = true)
    (sa_RestMinder : PySem.W.findIn K (.ref c_RestMinder) "__setattr__" = some (some (.builtin "object.__setattr__")))
    (n_RestMinder_name : PySem.W.findIn K (.ref c_RestMinder) "name" = some none)
    (n_RestMinder_keep : PySem.W.findIn K (.ref c_RestMinder) "keep" = some none)
    (n_RestMinder_most : PySem.W.findIn K (.ref c_RestMinder) "most" = some none)
    (n_RestMinder_span : PySem.W.findIn K (.ref c_RestMinder) "span" = some none)
    (mk_RestMinder : PySem.W.makesIn K c_RestMinder = true)
    (kc_RestMinder : PySem.W.keepIn K (.ref c_RestMinder) = true)
    (a_bit : PySem.W.nsIn K mainGlobals "bit" = some (some (.ref f_bit)))
    (l_bit : K.lookup f_bit = some ⟨oc_bit, od_bit, .func (PySem.W.fnOf "bit" "bit" (defArgs s_bit) (defBody s_bit) (defScope s_bit) .none kV_bit dc_bit pm_bit an_bit cd_bit ct_bit), sl_bit⟩)
    (co_bit : PySem.W.codeIn K cd_bit "bit" = true)
    (k_bit : PySem.W.keepIn K (.ref f_bit) = true)
    (a_below : PySem.W.nsIn K mainGlobals "below" = some (some (.ref f_below)))
    (l_below : K.lookup f_below = some ⟨oc_below, od_below, .func (PySem.W.fnOf "below" "below" (defArgs s_below) (defBody s_below) (defScope s_below) .none kV_below dc_below pm_below an_below cd_below ct_below), sl_below⟩)
    (co_below : PySem.W.codeIn K cd_below "below" = true)
    (k_below : PySem.W.keepIn K (.ref f_below) = true)
    (a_Shape___init__ : PySem.W.findIn K (.ref c_Shape) "__init__" = some (some (.ref f_Shape_init)))
    (i_Shape_init : PySem.W.isFn K (.ref f_Shape_init) = true)
    (l_Shape_init : K.lookup f_Shape_init = some ⟨oc_Shape_init, od_Shape_init, .func (PySem.W.fnOf "__init__" "Shape.__init__" (defArgs s_Shape_init) (defBody s_Shape_init) (defScope s_Shape_init) .none kV_Shape_init dc_Shape_init pm_Shape_init an_Shape_init cd_Shape_init ct_Shape_init), sl_Shape_init⟩)
    (co_Shape_init : PySem.W.codeIn K cd_Shape_init "Shape.__init__" = true)
    (k_Shape_init : PySem.W.keepIn K (.ref f_Shape_init) = true)
    (a_Shape_leaf : PySem.W.findIn K (.ref c_Shape) "leaf" = some (some (.ref f_Shape_leaf)))
    (i_Shape_leaf : PySem.W.isFn K (.ref f_Shape_leaf) = true)
    (l_Shape_leaf : K.lookup f_Shape_leaf = some ⟨oc_Shape_leaf, od_Shape_leaf, .func (PySem.W.fnOf "leaf" "Shape.leaf" (defArgs s_Shape_leaf) (defBody s_Shape_leaf) (defScope s_Shape_leaf) .none kV_Shape_leaf dc_Shape_leaf pm_Shape_leaf an_Shape_leaf cd_Shape_leaf ct_Shape_leaf), sl_Shape_leaf⟩)
    (co_Shape_leaf : PySem.W.codeIn K cd_Shape_leaf "Shape.leaf" = true)
    (k_Shape_leaf : PySem.W.keepIn K (.ref f_Shape_leaf) = true)
    (a_Minder___init__ : PySem.W.findIn K (.ref c_Minder) "__init__" = some (some (.ref f_Minder_init)))
    (i_Minder_init : PySem.W.isFn K (.ref f_Minder_init) = true)
    (l_Minder_init : K.lookup f_Minder_init = some ⟨oc_Minder_init, od_Minder_init, .func (PySem.W.fnOf "__init__" "Minder.__init__" (defArgs s_Minder_init) (defBody s_Minder_init) (defScope s_Minder_init) (.ref T_Minder_init) kV_Minder_init dc_Minder_init pm_Minder_init an_Minder_init cd_Minder_init ct_Minder_init), sl_Minder_init⟩)
    (co_Minder_init : PySem.W.codeIn K cd_Minder_init "Minder.__init__" = true)
    (k_Minder_init : PySem.W.keepIn K (.ref f_Minder_init) = true)
    (lT_Minder_init : K.lookup T_Minder_init = some ⟨ocT_Minder_init, odT_Minder_init, .seq #[(.int 1 tk_Minder_init_0 : Value), (.int 1 tk_Minder_init_1 : Value)] nT_Minder_init, slT_Minder_init⟩)
    (a_Minder_way : PySem.W.findIn K (.ref c_Minder) "way" = some (some (.ref f_Minder_way)))
    (i_Minder_way : PySem.W.isFn K (.ref f_Minder_way) = true)
    (l_Minder_way : K.lookup f_Minder_way = some ⟨oc_Minder_way, od_Minder_way, .func (PySem.W.fnOf "way" "Minder.way" (defArgs s_Minder_way) (defBody s_Minder_way) (defScope s_Minder_way) .none kV_Minder_way dc_Minder_way pm_Minder_way an_Minder_way cd_Minder_way ct_Minder_way), sl_Minder_way⟩)
    (co_Minder_way : PySem.W.codeIn K cd_Minder_way "Minder.way" = true)
    (k_Minder_way : PySem.W.keepIn K (.ref f_Minder_way) = true)
    (a_Minder_chosen : PySem.W.findIn K (.ref c_Minder) "chosen" = some (some (.ref f_Minder_chosen)))
    (i_Minder_chosen : PySem.W.isFn K (.ref f_Minder_chosen) = true)
    (l_Minder_chosen : K.lookup f_Minder_chosen = some ⟨oc_Minder_chosen, od_Minder_chosen, .func (PySem.W.fnOf "chosen" "Minder.chosen" (defArgs s_Minder_chosen) (defBody s_Minder_chosen) (defScope s_Minder_chosen) .none kV_Minder_chosen dc_Minder_chosen pm_Minder_chosen an_Minder_chosen cd_Minder_chosen ct_Minder_chosen), sl_Minder_chosen⟩)
    (co_Minder_chosen : PySem.W.codeIn K cd_Minder_chosen "Minder.chosen" = true)
    (k_Minder_chosen : PySem.W.keepIn K (.ref f_Minder_chosen) = true)
    (a_Minder_words : PySem.W.findIn K (.ref c_Minder) "words" = some (some (.ref f_Minder_words)))
    (i_Minder_words : PySem.W.isFn K (.ref f_Minder_words) = true)
    (l_Minder_words : K.lookup f_Minder_words = some ⟨oc_Minder_words, od_Minder_words, .func (PySem.W.fnOf "words" "Minder.words" (defArgs s_Minder_words) (defBody s_Minder_words) (defScope s_Minder_words) .none kV_Minder_words dc_Minder_words pm_Minder_words an_Minder_words cd_Minder_words ct_Minder_words), sl_Minder_words⟩)
    (co_Minder_words : PySem.W.codeIn K cd_Minder_words "Minder.words" = true)
    (k_Minder_words : PySem.W.keepIn K (.ref f_Minder_words) = true)
    (a_AllMinder_way : PySem.W.findIn K (.ref c_AllMinder) "way" = some (some (.ref f_AllMinder_way)))
    (i_AllMinder_way : PySem.W.isFn K (.ref f_AllMinder_way) = true)
    (l_AllMinder_way : K.lookup f_AllMinder_way = some ⟨oc_AllMinder_way, od_AllMinder_way, .func (PySem.W.fnOf "way" "AllMinder.way" (defArgs s_AllMinder_way) (defBody s_AllMinder_way) (defScope s_AllMinder_way) .none kV_AllMinder_way dc_AllMinder_way pm_AllMinder_way an_AllMinder_way cd_AllMinder_way ct_AllMinder_way), sl_AllMinder_way⟩)
    (co_AllMinder_way : PySem.W.codeIn K cd_AllMinder_way "AllMinder.way" = true)
    (k_AllMinder_way : PySem.W.keepIn K (.ref f_AllMinder_way) = true)
    (a_AllMinder_chosen : PySem.W.findIn K (.ref c_AllMinder) "chosen" = some (some (.ref f_AllMinder_chosen)))
    (i_AllMinder_chosen : PySem.W.isFn K (.ref f_AllMinder_chosen) = true)
    (l_AllMinder_chosen : K.lookup f_AllMinder_chosen = some ⟨oc_AllMinder_chosen, od_AllMinder_chosen, .func (PySem.W.fnOf "chosen" "AllMinder.chosen" (defArgs s_AllMinder_chosen) (defBody s_AllMinder_chosen) (defScope s_AllMinder_chosen) .none kV_AllMinder_chosen dc_AllMinder_chosen pm_AllMinder_chosen an_AllMinder_chosen cd_AllMinder_chosen ct_AllMinder_chosen), sl_AllMinder_chosen⟩)
    (co_AllMinder_chosen : PySem.W.codeIn K cd_AllMinder_chosen "AllMinder.chosen" = true)
    (k_AllMinder_chosen : PySem.W.keepIn K (.ref f_AllMinder_chosen) = true)
    (a_RestMinder_way : PySem.W.findIn K (.ref c_RestMinder) "way" = some (some (.ref f_RestMinder_way)))
    (i_RestMinder_way : PySem.W.isFn K (.ref f_RestMinder_way) = true)
    (l_RestMinder_way : K.lookup f_RestMinder_way = some ⟨oc_RestMinder_way, od_RestMinder_way, .func (PySem.W.fnOf "way" "RestMinder.way" (defArgs s_RestMinder_way) (defBody s_RestMinder_way) (defScope s_RestMinder_way) .none kV_RestMinder_way dc_RestMinder_way pm_RestMinder_way an_RestMinder_way cd_RestMinder_way ct_RestMinder_way), sl_RestMinder_way⟩)
    (co_RestMinder_way : PySem.W.codeIn K cd_RestMinder_way "RestMinder.way" = true)
    (k_RestMinder_way : PySem.W.keepIn K (.ref f_RestMinder_way) = true)
    (a_RestMinder_chosen : PySem.W.findIn K (.ref c_RestMinder) "chosen" = some (some (.ref f_RestMinder_chosen)))
    (i_RestMinder_chosen : PySem.W.isFn K (.ref f_RestMinder_chosen) = true)
    (l_RestMinder_chosen : K.lookup f_RestMinder_chosen = some ⟨oc_RestMinder_chosen, od_RestMinder_chosen, .func (PySem.W.fnOf "chosen" "RestMinder.chosen" (defArgs s_RestMinder_chosen) (defBody s_RestMinder_chosen) (defScope s_RestMinder_chosen) .none kV_RestMinder_chosen dc_RestMinder_chosen pm_RestMinder_chosen an_RestMinder_chosen cd_RestMinder_chosen ct_RestMinder_chosen), sl_RestMinder_chosen⟩)
    (co_RestMinder_chosen : PySem.W.codeIn K cd_RestMinder_chosen "RestMinder.chosen" = true)
    (k_RestMinder_chosen : PySem.W.keepIn K (.ref f_RestMinder_chosen) = true)
    (a_law_cell_at : PySem.W.nsIn K mainGlobals "_law_cell_at" = some (some (.ref f_law_cell_at)))
    (l_law_cell_at : K.lookup f_law_cell_at = some ⟨oc_law_cell_at, od_law_cell_at, .func (PySem.W.fnOf "_law_cell_at" "_law_cell_at" (defArgs s_law_cell_at) (defBody s_law_cell_at) (defScope s_law_cell_at) .none kV_law_cell_at dc_law_cell_at pm_law_cell_at an_law_cell_at cd_law_cell_at ct_law_cell_at), sl_law_cell_at⟩)
    (co_law_cell_at : PySem.W.codeIn K cd_law_cell_at "_law_cell_at" = true)
    (k_law_cell_at : PySem.W.keepIn K (.ref f_law_cell_at) = true)
    (a_law_bits : PySem.W.nsIn K mainGlobals "_law_bits" = some (some (.ref f_law_bits)))
    (l_law_bits : K.lookup f_law_bits = some ⟨oc_law_bits, od_law_bits, .func (PySem.W.fnOf "_law_bits" "_law_bits" (defArgs s_law_bits) (defBody s_law_bits) (defScope s_law_bits) .none kV_law_bits dc_law_bits pm_law_bits an_law_bits cd_law_bits ct_law_bits), sl_law_bits⟩)
    (co_law_bits : PySem.W.codeIn K cd_law_bits "_law_bits" = true)
    (k_law_bits : PySem.W.keepIn K (.ref f_law_bits) = true)
    (a_law_made : PySem.W.nsIn K mainGlobals "_law_made" = some (some (.ref f_law_made)))
    (l_law_made : K.lookup f_law_made = some ⟨oc_law_made, od_law_made, .func (PySem.W.fnOf "_law_made" "_law_made" (defArgs s_law_made) (defBody s_law_made) (defScope s_law_made) .none kV_law_made dc_law_made pm_law_made an_law_made cd_law_made ct_law_made), sl_law_made⟩)
    (co_law_made : PySem.W.codeIn K cd_law_made "_law_made" = true)
    (k_law_made : PySem.W.keepIn K (.ref f_law_made) = true)
    (a_law_due : PySem.W.nsIn K mainGlobals "_law_due" = some (some (.ref f_law_due)))
    (l_law_due : K.lookup f_law_due = some ⟨oc_law_due, od_law_due, .func (PySem.W.fnOf "_law_due" "_law_due" (defArgs s_law_due) (defBody s_law_due) (defScope s_law_due) .none kV_law_due dc_law_due pm_law_due an_law_due cd_law_due ct_law_due), sl_law_due⟩)
    (co_law_due : PySem.W.codeIn K cd_law_due "_law_due" = true)
    (k_law_due : PySem.W.keepIn K (.ref f_law_due) = true)
    (a_law_asked : PySem.W.nsIn K mainGlobals "_law_asked" = some (some (.ref f_law_asked)))
    (l_law_asked : K.lookup f_law_asked = some ⟨oc_law_asked, od_law_asked, .func (PySem.W.fnOf "_law_asked" "_law_asked" (defArgs s_law_asked) (defBody s_law_asked) (defScope s_law_asked) .none kV_law_asked dc_law_asked pm_law_asked an_law_asked cd_law_asked ct_law_asked), sl_law_asked⟩)
    (co_law_asked : PySem.W.codeIn K cd_law_asked "_law_asked" = true)
    (k_law_asked : PySem.W.keepIn K (.ref f_law_asked) = true)
    (a_law : PySem.W.nsIn K mainGlobals "law" = some (some (.ref f_law)))
    (l_law : K.lookup f_law = some ⟨oc_law, od_law, .func (PySem.W.fnOf "law" "law" (defArgs s_law) (defBody s_law) (defScope s_law) .none kV_law dc_law pm_law an_law cd_law ct_law), sl_law⟩)
    (co_law : PySem.W.codeIn K cd_law "law" = true)
    (k_law : PySem.W.keepIn K (.ref f_law) = true)
    (rd_Shape : PySem.W.readsIn K c_Shape (.type "type") = true)
    (ga_Shape : PySem.W.specialIn K (.ref c_Shape) "__getattribute__" = some (some (.builtin "type.__getattribute__")))
    (fc_Shape___init__ : PySem.W.findCls K (.ref c_Shape) (.type "type") "__init__" = some (.val (.ref f_Shape_init)))
    (a_Minder_leaf : PySem.W.findIn K (.ref c_Minder) "leaf" = some (some (.ref f_Shape_leaf)))
    (a_AllMinder_leaf : PySem.W.findIn K (.ref c_AllMinder) "leaf" = some (some (.ref f_Shape_leaf)))
    (a_RestMinder_leaf : PySem.W.findIn K (.ref c_RestMinder) "leaf" = some (some (.ref f_Shape_leaf)))
    (a_AllMinder_words : PySem.W.findIn K (.ref c_AllMinder) "words" = some (some (.ref f_Minder_words)))
    (a_RestMinder_words : PySem.W.findIn K (.ref c_RestMinder) "words" = some (some (.ref f_Minder_words)))
    (a_AllMinder___init__ : PySem.W.findIn K (.ref c_AllMinder) "__init__" = some (some (.ref f_Minder_init)))
    (a_RestMinder___init__ : PySem.W.findIn K (.ref c_RestMinder) "__init__" = some (some (.ref f_Minder_init))) :
    ∃ fd : FuncData, (∀ (s : Shared) (v : Value), BindsTo s fd ⟨[v], []⟩ [("_law_script", v)]) ∧ ∀ base : Heap, K.In base → base.Ns mainGlobals mg → FnOk l.prog w K mg base CX0 5 fa fd ["_law_script"] (spLaw K) := by
  have e := hfa.symm.trans (PySem.W.mg_of X G a_law)
  cases e
  have T : Bt mg := ⟨PySem.W.mg_none_of X G z_len, PySem.W.mg_none_of X G z_int, PySem.W.mg_none_of X G z_bool, PySem.W.mg_none_of X G z_list, PySem.W.mg_none_of X G z_tuple, PySem.W.mg_none_of X G z_str, PySem.W.mg_none_of X G z_range, PySem.W.mg_none_of X G z_isinstance⟩
  have mg_Shape := PySem.W.mg_of X G a_Shape
  have cf_Shape : ClsF K c_Shape [] := ⟨⟨pg_Shape, hd_Shape, po_Shape, sa_Shape⟩, clsF_nil⟩
  have mg_Minder := PySem.W.mg_of X G a_Minder
  have cf_Minder : ClsF K c_Minder ["name", "keep", "most", "span"] := ⟨⟨pg_Minder, hd_Minder, po_Minder, sa_Minder⟩, (clsF_cons n_Minder_name <| (clsF_cons n_Minder_keep <| (clsF_cons n_Minder_most <| (clsF_cons n_Minder_span <| clsF_nil))))⟩
  have mg_AllMinder := PySem.W.mg_of X G a_AllMinder
  have cf_AllMinder : ClsF K c_AllMinder ["name", "keep", "most", "span"] := ⟨⟨pg_AllMinder, hd_AllMinder, po_AllMinder, sa_AllMinder⟩, (clsF_cons n_AllMinder_name <| (clsF_cons n_AllMinder_keep <| (clsF_cons n_AllMinder_most <| (clsF_cons n_AllMinder_span <| clsF_nil))))⟩
  have mg_RestMinder := PySem.W.mg_of X G a_RestMinder
  have cf_RestMinder : ClsF K c_RestMinder ["name", "keep", "most", "span"] := ⟨⟨pg_RestMinder, hd_RestMinder, po_RestMinder, sa_RestMinder⟩, (clsF_cons n_RestMinder_name <| (clsF_cons n_RestMinder_keep <| (clsF_cons n_RestMinder_most <| (clsF_cons n_RestMinder_span <| clsF_nil))))⟩
  have F_bit := fun_mk (st := s_bit) l_bit co_bit k_bit
  have b_bit := F_bit.binds (ps := ["place"]) fun _ _ _ _ _ _ us hl => match us, hl with | [_], _ => rfl
  have F_below := fun_mk (st := s_below) l_below co_below k_below
  have b_below := F_below.binds (ps := ["count"]) fun _ _ _ _ _ _ us hl => match us, hl with | [_], _ => rfl
  have F_Shape_init := fun_mk (st := s_Shape_init) l_Shape_init co_Shape_init k_Shape_init
  have b_Shape_init := F_Shape_init.binds (ps := ["self", "name", "keep"]) fun _ _ _ _ _ _ us hl => match us, hl with | [_, _, _], _ => rfl
  have F_Shape_leaf := fun_mk (st := s_Shape_leaf) l_Shape_leaf co_Shape_leaf k_Shape_leaf
  have b_Shape_leaf := F_Shape_leaf.binds (ps := ["self"]) fun _ _ _ _ _ _ us hl => match us, hl with | [_], _ => rfl
  have F_Minder_init : FunS K "__init__" "Minder.__init__" s_Minder_init [.int 1, .int 1] f_Minder_init _ := ⟨⟨_, _, _, _, _, _, _, _, _, _, rfl, l_Minder_init, co_Minder_init, .inr ⟨List.cons_ne_nil _ _, _, _, _, _, rfl, lT_Minder_init, rfl, .cons ⟨_, rfl⟩ (.cons ⟨_, rfl⟩ (.nil))⟩, .inl rfl⟩, k_Minder_init⟩
  have F_Minder_way := fun_mk (st := s_Minder_way) l_Minder_way co_Minder_way k_Minder_way
  have b_Minder_way := F_Minder_way.binds (ps := ["self"]) fun _ _ _ _ _ _ us hl => match us, hl with | [_], _ => rfl
  have F_Minder_chosen := fun_mk (st := s_Minder_chosen) l_Minder_chosen co_Minder_chosen k_Minder_chosen
  have b_Minder_chosen := F_Minder_chosen.binds (ps := ["self", "place", "count", "on", "good"]) fun _ _ _ _ _ _ us hl => match us, hl with | [_, _, _, _, _], _ => rfl
  have F_Minder_words := fun_mk (st := s_Minder_words) l_Minder_words co_Minder_words k_Minder_words
  have b_Minder_words := F_Minder_words.binds (ps := ["self"]) fun _ _ _ _ _ _ us hl => match us, hl with | [_], _ => rfl
  have F_AllMinder_way := fun_mk (st := s_AllMinder_way) l_AllMinder_way co_AllMinder_way k_AllMinder_way
  have b_AllMinder_way := F_AllMinder_way.binds (ps := ["self"]) fun _ _ _ _ _ _ us hl => match us, hl with | [_], _ => rfl
  have F_AllMinder_chosen := fun_mk (st := s_AllMinder_chosen) l_AllMinder_chosen co_AllMinder_chosen k_AllMinder_chosen
  have b_AllMinder_chosen := F_AllMinder_chosen.binds (ps := ["self", "place", "count", "on", "good"]) fun _ _ _ _ _ _ us hl => match us, hl with | [_, _, _, _, _], _ => rfl
  have F_RestMinder_way := fun_mk (st := s_RestMinder_way) l_RestMinder_way co_RestMinder_way k_RestMinder_way
  have b_RestMinder_way := F_RestMinder_way.binds (ps := ["self"]) fun _ _ _ _ _ _ us hl => match us, hl with | [_], _ => rfl
  have F_RestMinder_chosen := fun_mk (st := s_RestMinder_chosen) l_RestMinder_chosen co_RestMinder_chosen k_RestMinder_chosen
  have b_RestMinder_chosen := F_RestMinder_chosen.binds (ps := ["self", "place", "count", "on", "good"]) fun _ _ _ _ _ _ us hl => match us, hl with | [_, _, _, _, _], _ => rfl
  have F_law_cell_at := fun_mk (st := s_law_cell_at) l_law_cell_at co_law_cell_at k_law_cell_at
  have b_law_cell_at := F_law_cell_at.binds (ps := ["_law_script", "_law_k"]) fun _ _ _ _ _ _ us hl => match us, hl with | [_, _], _ => rfl
  have F_law_bits := fun_mk (st := s_law_bits) l_law_bits co_law_bits k_law_bits
  have b_law_bits := F_law_bits.binds (ps := ["_law_rows"]) fun _ _ _ _ _ _ us hl => match us, hl with | [_], _ => rfl
  have F_law_made := fun_mk (st := s_law_made) l_law_made co_law_made k_law_made
  have b_law_made := F_law_made.binds (ps := ["_law_way", "_law_most", "_law_span", "_law_told"]) fun _ _ _ _ _ _ us hl => match us, hl with | [_, _, _, _], _ => rfl
  have F_law_due := fun_mk (st := s_law_due) l_law_due co_law_due k_law_due
  have b_law_due := F_law_due.binds (ps := ["_law_way", "_law_place", "_law_on", "_law_good"]) fun _ _ _ _ _ _ us hl => match us, hl with | [_, _, _, _], _ => rfl
  have F_law_asked := fun_mk (st := s_law_asked) l_law_asked co_law_asked k_law_asked
  have b_law_asked := F_law_asked.binds (ps := ["_law_minder", "_law_way", "_law_place", "_law_on", "_law_good"]) fun _ _ _ _ _ _ us hl => match us, hl with | [_, _, _, _, _], _ => rfl
  have F_law := fun_mk (st := s_law) l_law co_law k_law
  have b_law := F_law.binds (ps := ["_law_script"]) fun _ _ _ _ _ _ us hl => match us, hl with | [_], _ => rfl
  refine ⟨PySem.W.fnOf "law" "law" (defArgs s_law) (defBody s_law) (defScope s_law) .none kV_law dc_law pm_law an_law cd_law ct_law, fun s v => .of_eq rfl, fun base _ _ => ?_⟩
  have C_bit : Cal l.prog w K mg base CX0 "bit" 1 ["place"] [] spBit := ⟨⟨_, _, [], (ok_bit F_bit), PySem.W.mg_of X G a_bit, k_bit, b_bit, .nil⟩⟩
  have C_below : Cal l.prog w K mg base CX0 "below" 1 ["count"] [] spBelow := ⟨⟨_, _, [], (ok_below F_below), PySem.W.mg_of X G a_below, k_below, b_below, .nil⟩⟩
  have S_Shape___init__ : CMt l.prog w K mg base CX0 "Shape" "__init__" 1 ["self", "name", "keep"] [] (spShape (K := K)) := ⟨⟨_, _, _, _, [], mg_Shape, ⟨rd_Shape, ga_Shape⟩, fc_Shape___init__, (ok_Shape_init F_Shape_init), k_Shape_init, b_Shape_init, .nil⟩⟩
  obtain ⟨ds_Minder_2, hd_Minder_2, hb_Minder_2⟩ := F_Minder_init.binds1 (ps := ["self", "name", "keep", "most", "span"]) 3 0 (List.cons_ne_nil _ _) rfl fun _ _ _ _ _ _ _ us its hu hi => match us, hu, its, hi with | [_, _, _], _, [_, _], _ => ⟨_, rfl, rfl⟩
  have K_Minder_2 : Mak l.prog w K mg base CX0 "Minder" c_Minder 2 ["self", "name", "keep", "most", "span"] [.int 1, .int 1] (spMinder K c_Minder) := ⟨⟨_, _, ds_Minder_2, (ok_Minder_init F_Minder_init cf_Minder S_Shape___init__), mg_Minder, ⟨mk_Minder, a_Minder___init__, i_Minder_init, kc_Minder⟩, hb_Minder_2, hd_Minder_2⟩⟩
  obtain ⟨ds_Minder_3, hd_Minder_3, hb_Minder_3⟩ := F_Minder_init.binds1 (ps := ["self", "name", "keep", "most", "span"]) 4 1 (List.cons_ne_nil _ _) rfl fun _ _ _ _ _ _ _ us its hu hi => match us, hu, its, hi with | [_, _, _, _], _, [_, _], _ => ⟨_, rfl, rfl⟩
  have K_Minder_3 : Mak l.prog w K mg base CX0 "Minder" c_Minder 2 ["self", "name", "keep", "most", "span"] [.int 1] (spMinder K c_Minder) := ⟨⟨_, _, ds_Minder_3, (ok_Minder_init F_Minder_init cf_Minder S_Shape___init__), mg_Minder, ⟨mk_Minder, a_Minder___init__, i_Minder_init, kc_Minder⟩, hb_Minder_3, hd_Minder_3⟩⟩
  obtain ⟨ds_Minder_4, hd_Minder_4, hb_Minder_4⟩ := F_Minder_init.binds1 (ps := ["self", "name", "keep", "most", "span"]) 5 2 (List.cons_ne_nil _ _) rfl fun _ _ _ _ _ _ _ us its hu hi => match us, hu, its, hi with | [_, _, _, _, _], _, [_, _], _ => ⟨_, rfl, rfl⟩
  have K_Minder_4 : Mak l.prog w K mg base CX0 "Minder" c_Minder 2 ["self", "name", "keep", "most", "span"] [] (spMinder K c_Minder) := ⟨⟨_, _, ds_Minder_4, (ok_Minder_init F_Minder_init cf_Minder S_Shape___init__), mg_Minder, ⟨mk_Minder, a_Minder___init__, i_Minder_init, kc_Minder⟩, hb_Minder_4, hd_Minder_4⟩⟩
  obtain ⟨ds_AllMinder_2, hd_AllMinder_2, hb_AllMinder_2⟩ := F_Minder_init.binds1 (ps := ["self", "name", "keep", "most", "span"]) 3 0 (List.cons_ne_nil _ _) rfl fun _ _ _ _ _ _ _ us its hu hi => match us, hu, its, hi with | [_, _, _], _, [_, _], _ => ⟨_, rfl, rfl⟩
  have K_AllMinder_2 : Mak l.prog w K mg base CX0 "AllMinder" c_AllMinder 2 ["self", "name", "keep", "most", "span"] [.int 1, .int 1] (spMinder K c_AllMinder) := ⟨⟨_, _, ds_AllMinder_2, (ok_Minder_init F_Minder_init cf_AllMinder S_Shape___init__), mg_AllMinder, ⟨mk_AllMinder, a_AllMinder___init__, i_Minder_init, kc_AllMinder⟩, hb_AllMinder_2, hd_AllMinder_2⟩⟩
  obtain ⟨ds_AllMinder_3, hd_AllMinder_3, hb_AllMinder_3⟩ := F_Minder_init.binds1 (ps := ["self", "name", "keep", "most", "span"]) 4 1 (List.cons_ne_nil _ _) rfl fun _ _ _ _ _ _ _ us its hu hi => match us, hu, its, hi with | [_, _, _, _], _, [_, _], _ => ⟨_, rfl, rfl⟩
  have K_AllMinder_3 : Mak l.prog w K mg base CX0 "AllMinder" c_AllMinder 2 ["self", "name", "keep", "most", "span"] [.int 1] (spMinder K c_AllMinder) := ⟨⟨_, _, ds_AllMinder_3, (ok_Minder_init F_Minder_init cf_AllMinder S_Shape___init__), mg_AllMinder, ⟨mk_AllMinder, a_AllMinder___init__, i_Minder_init, kc_AllMinder⟩, hb_AllMinder_3, hd_AllMinder_3⟩⟩
  obtain ⟨ds_AllMinder_4, hd_AllMinder_4, hb_AllMinder_4⟩ := F_Minder_init.binds1 (ps := ["self", "name", "keep", "most", "span"]) 5 2 (List.cons_ne_nil _ _) rfl fun _ _ _ _ _ _ _ us its hu hi => match us, hu, its, hi with | [_, _, _, _, _], _, [_, _], _ => ⟨_, rfl, rfl⟩
  have K_AllMinder_4 : Mak l.prog w K mg base CX0 "AllMinder" c_AllMinder 2 ["self", "name", "keep", "most", "span"] [] (spMinder K c_AllMinder) := ⟨⟨_, _, ds_AllMinder_4, (ok_Minder_init F_Minder_init cf_AllMinder S_Shape___init__), mg_AllMinder, ⟨mk_AllMinder, a_AllMinder___init__, i_Minder_init, kc_AllMinder⟩, hb_AllMinder_4, hd_AllMinder_4⟩⟩
  obtain ⟨ds_RestMinder_2, hd_RestMinder_2, hb_RestMinder_2⟩ := F_Minder_init.binds1 (ps := ["self", "name", "keep", "most", "span"]) 3 0 (List.cons_ne_nil _ _) rfl fun _ _ _ _ _ _ _ us its hu hi => match us, hu, its, hi with | [_, _, _], _, [_, _], _ => ⟨_, rfl, rfl⟩
  have K_RestMinder_2 : Mak l.prog w K mg base CX0 "RestMinder" c_RestMinder 2 ["self", "name", "keep", "most", "span"] [.int 1, .int 1] (spMinder K c_RestMinder) := ⟨⟨_, _, ds_RestMinder_2, (ok_Minder_init F_Minder_init cf_RestMinder S_Shape___init__), mg_RestMinder, ⟨mk_RestMinder, a_RestMinder___init__, i_Minder_init, kc_RestMinder⟩, hb_RestMinder_2, hd_RestMinder_2⟩⟩
  obtain ⟨ds_RestMinder_3, hd_RestMinder_3, hb_RestMinder_3⟩ := F_Minder_init.binds1 (ps := ["self", "name", "keep", "most", "span"]) 4 1 (List.cons_ne_nil _ _) rfl fun _ _ _ _ _ _ _ us its hu hi => match us, hu, its, hi with | [_, _, _, _], _, [_, _], _ => ⟨_, rfl, rfl⟩
  have K_RestMinder_3 : Mak l.prog w K mg base CX0 "RestMinder" c_RestMinder 2 ["self", "name", "keep", "most", "span"] [.int 1] (spMinder K c_RestMinder) := ⟨⟨_, _, ds_RestMinder_3, (ok_Minder_init F_Minder_init cf_RestMinder S_Shape___init__), mg_RestMinder, ⟨mk_RestMinder, a_RestMinder___init__, i_Minder_init, kc_RestMinder⟩, hb_RestMinder_3, hd_RestMinder_3⟩⟩
  obtain ⟨ds_RestMinder_4, hd_RestMinder_4, hb_RestMinder_4⟩ := F_Minder_init.binds1 (ps := ["self", "name", "keep", "most", "span"]) 5 2 (List.cons_ne_nil _ _) rfl fun _ _ _ _ _ _ _ us its hu hi => match us, hu, its, hi with | [_, _, _, _, _], _, [_, _], _ => ⟨_, rfl, rfl⟩
  have K_RestMinder_4 : Mak l.prog w K mg base CX0 "RestMinder" c_RestMinder 2 ["self", "name", "keep", "most", "span"] [] (spMinder K c_RestMinder) := ⟨⟨_, _, ds_RestMinder_4, (ok_Minder_init F_Minder_init cf_RestMinder S_Shape___init__), mg_RestMinder, ⟨mk_RestMinder, a_RestMinder___init__, i_Minder_init, kc_RestMinder⟩, hb_RestMinder_4, hd_RestMinder_4⟩⟩
  have M_Minder_leaf : Mth l.prog w K mg base CX0 c_Minder "leaf" 1 ["self"] [] (spTruth c_Minder false) := ⟨⟨_, _, [], (ok_Shape_leaf F_Shape_leaf), ⟨a_Minder_leaf, i_Shape_leaf, k_Shape_leaf⟩, b_Shape_leaf, .nil⟩⟩
  have M_AllMinder_leaf : Mth l.prog w K mg base CX0 c_AllMinder "leaf" 1 ["self"] [] (spTruth c_AllMinder false) := ⟨⟨_, _, [], (ok_Shape_leaf F_Shape_leaf), ⟨a_AllMinder_leaf, i_Shape_leaf, k_Shape_leaf⟩, b_Shape_leaf, .nil⟩⟩
  have M_RestMinder_leaf : Mth l.prog w K mg base CX0 c_RestMinder "leaf" 1 ["self"] [] (spTruth c_RestMinder false) := ⟨⟨_, _, [], (ok_Shape_leaf F_Shape_leaf), ⟨a_RestMinder_leaf, i_Shape_leaf, k_Shape_leaf⟩, b_Shape_leaf, .nil⟩⟩
  have M_Minder_way : Mth l.prog w K mg base CX0 c_Minder "way" 1 ["self"] [] (spSay c_Minder "one") := ⟨⟨_, _, [], (ok_Minder_way F_Minder_way), ⟨a_Minder_way, i_Minder_way, k_Minder_way⟩, b_Minder_way, .nil⟩⟩
  have M_AllMinder_way : Mth l.prog w K mg base CX0 c_AllMinder "way" 1 ["self"] [] (spSay c_AllMinder "all") := ⟨⟨_, _, [], (ok_AllMinder_way F_AllMinder_way), ⟨a_AllMinder_way, i_AllMinder_way, k_AllMinder_way⟩, b_AllMinder_way, .nil⟩⟩
  have M_RestMinder_way : Mth l.prog w K mg base CX0 c_RestMinder "way" 1 ["self"] [] (spSay c_RestMinder "rest") := ⟨⟨_, _, [], (ok_RestMinder_way F_RestMinder_way), ⟨a_RestMinder_way, i_RestMinder_way, k_RestMinder_way⟩, b_RestMinder_way, .nil⟩⟩
  have M_Minder_words : Mth l.prog w K mg base CX0 c_Minder "words" 2 ["self"] [] (spMinWords c_Minder "one") := ⟨⟨_, _, [], (ok_Minder_words F_Minder_words T cf_Minder M_Minder_way), ⟨a_Minder_words, i_Minder_words, k_Minder_words⟩, b_Minder_words, .nil⟩⟩
  have M_AllMinder_words : Mth l.prog w K mg base CX0 c_AllMinder "words" 2 ["self"] [] (spMinWords c_AllMinder "all") := ⟨⟨_, _, [], (ok_Minder_words F_Minder_words T cf_AllMinder M_AllMinder_way), ⟨a_AllMinder_words, i_Minder_words, k_Minder_words⟩, b_Minder_words, .nil⟩⟩
  have M_RestMinder_words : Mth l.prog w K mg base CX0 c_RestMinder "words" 2 ["self"] [] (spMinWords c_RestMinder "rest") := ⟨⟨_, _, [], (ok_Minder_words F_Minder_words T cf_RestMinder M_RestMinder_way), ⟨a_RestMinder_words, i_Minder_words, k_Minder_words⟩, b_Minder_words, .nil⟩⟩
  have M_Minder_chosen : Mth l.prog w K mg base CX0 c_Minder "chosen" 2 ["self", "place", "count", "on", "good"] [] (spChosen c_Minder chOne) := ⟨⟨_, _, [], (ok_Minder_chosen F_Minder_chosen C_bit), ⟨a_Minder_chosen, i_Minder_chosen, k_Minder_chosen⟩, b_Minder_chosen, .nil⟩⟩
  have M_AllMinder_chosen : Mth l.prog w K mg base CX0 c_AllMinder "chosen" 2 ["self", "place", "count", "on", "good"] [] (spChosen c_AllMinder chAll) := ⟨⟨_, _, [], (ok_AllMinder_chosen F_AllMinder_chosen C_below), ⟨a_AllMinder_chosen, i_AllMinder_chosen, k_AllMinder_chosen⟩, b_AllMinder_chosen, .nil⟩⟩
  have M_RestMinder_chosen : Mth l.prog w K mg base CX0 c_RestMinder "chosen" 2 ["self", "place", "count", "on", "good"] [] (spChosen c_RestMinder chRest) := ⟨⟨_, _, [], (ok_RestMinder_chosen F_RestMinder_chosen C_below C_bit), ⟨a_RestMinder_chosen, i_RestMinder_chosen, k_RestMinder_chosen⟩, b_RestMinder_chosen, .nil⟩⟩
  have MK : ∀ way : Int, 0 ≤ way → way < 3 → MinK l.prog w K mg base way (clsOf c_Minder c_AllMinder c_RestMinder way) := fun way h0 h3 => minK_of (CM := c_Minder) (CA := c_AllMinder) (CR := c_RestMinder) ⟨cf_Minder, M_Minder_chosen, M_Minder_words, M_Minder_leaf⟩ ⟨cf_AllMinder, M_AllMinder_chosen, M_AllMinder_words, M_AllMinder_leaf⟩ ⟨cf_RestMinder, M_RestMinder_chosen, M_RestMinder_words, M_RestMinder_leaf⟩ way h0 h3
  have C_law_cell_at : Cal l.prog w K mg base CX0 "_law_cell_at" 1 ["_law_script", "_law_k"] [] (spCell K) := ⟨⟨_, _, [], (ok_cell F_law_cell_at T), PySem.W.mg_of X G a_law_cell_at, k_law_cell_at, b_law_cell_at, .nil⟩⟩
  have C_law_bits : Cal l.prog w K mg base CX0 "_law_bits" 1 ["_law_rows"] [] (spBits K) := ⟨⟨_, _, [], (ok_bits F_law_bits T), PySem.W.mg_of X G a_law_bits, k_law_bits, b_law_bits, .nil⟩⟩
  have C_law_made : Cal l.prog w K mg base CX0 "_law_made" 4 ["_law_way", "_law_most", "_law_span", "_law_told"] [] (spMade c_Minder c_AllMinder c_RestMinder) := ⟨⟨_, _, [], (ok_made F_law_made K_Minder_2 K_Minder_3 K_Minder_4 K_AllMinder_2 K_AllMinder_3 K_AllMinder_4 K_RestMinder_2 K_RestMinder_3 K_RestMinder_4), PySem.W.mg_of X G a_law_made, k_law_made, b_law_made, .nil⟩⟩
  have C_law_due : Cal l.prog w K mg base CX0 "_law_due" 2 ["_law_way", "_law_place", "_law_on", "_law_good"] [] (spDue K) := ⟨⟨_, _, [], (ok_due F_law_due T C_law_bits), PySem.W.mg_of X G a_law_due, k_law_due, b_law_due, .nil⟩⟩
  have C_law_asked : Cal l.prog w K mg base CX0 "_law_asked" 3 ["_law_minder", "_law_way", "_law_place", "_law_on", "_law_good"] [] (spAsk K c_Minder c_AllMinder c_RestMinder) := ⟨⟨_, _, [], (ok_asked F_law_asked T MK C_law_bits C_law_due), PySem.W.mg_of X G a_law_asked, k_law_asked, b_law_asked, .nil⟩⟩
  exact (ok_law F_law T MK C_law_cell_at C_law_asked C_law_made)
theorem walk {l : PySem.W.OpenLaw} {q : Program} {loose : List Str} {XP : (Str → Option Value) → Heap → Prop} {YP : World → Heap → Prop} {d : DefRec} {K : Params → PySem.W.Frag} (hn : l.most = some 63) (hdf : d.params.defaults = [])
    (hY : ∀ (w : World) (h : Heap), YP w h → (K w.params).In h)
    (F : ∀ (w : World) (mg : Str → Option Value) (fa : Addr) (h : Heap), (K w.params).In h → h.Ns mainGlobals mg → mg d.name = some (.ref fa) →
      ∃ fd : FuncData, (∀ (s : Shared) (u : Value), BindsTo s fd ⟨[u], []⟩ [("_law_script", u)]) ∧ ∀ base : Heap, (K w.params).In base → base.Ns mainGlobals mg → FnOk l.prog w (K w.params) mg base CX0 5 fa fd ["_law_script"] (spLaw (K w.params))) :
    PySem.W.WalkO q loose XP YP l.row.toRowW d [] (fun f vs => PySem.call f vs) :=
  L2.walk_of (n := 63) (k := 5) (x := "_law_script") (CX := fun _ => CX0) (sp := fun w => spLaw (K w.params)) hn (by decide) hdf ⟨rfl, by decide, by decide⟩ hY F (fun _ _ a ns hl _ hS => ⟨a, ns, rfl, hS, hl, fun _ => rfl⟩) fun _ _ _ _ _ z => z
end Mn
open PySem PySem.W PyProof.Rows
set_option maxRecDepth 100000 in
set_option maxHeartbeats 0 in
theorem PySem.Challenge.cw_minders_k03_whom_a_way_chooses_holds : PySem.Challenge.rw_minders_k03_whom_a_way_chooses.Holds := by
  w_on; o_law; k_head; (case hw => w_witness2)
  k_fill
  refine Mn.walk (l := PySem.Challenge.rw_minders_k03_whom_a_way_chooses) rfl rfl (fun w h Y => PySem.W.kIn_of Y) ?F
  case F =>
    intro w mg fa h KX G hmg
    refine' Mn.all_mk KX G hmg ?z_len ?z_int ?z_bool ?z_list ?z_tuple ?z_str ?z_range ?z_isinstance ?a_Shape ?pg_Shape ?hd_Shape ?po_Shape ?sa_Shape ?a_Minder ?pg_Minder ?hd_Minder ?po_Minder ?sa_Minder ?n_Minder_name ?n_Minder_keep ?n_Minder_most ?n_Minder_span ?mk_Minder ?kc_Minder ?a_AllMinder ?pg_AllMinder ?hd_AllMinder ?po_AllMinder ?sa_AllMinder ?n_AllMinder_name ?n_AllMinder_keep ?n_AllMinder_most ?n_AllMinder_span ?mk_AllMinder ?kc_AllMinder ?a_RestMinder ?pg_RestMinder ?hd_RestMinder ?po_RestMinder ?sa_RestMinder ?n_RestMinder_name ?n_RestMinder_keep ?n_RestMinder_most ?n_RestMinder_span ?mk_RestMinder ?kc_RestMinder ?a_bit ?l_bit ?co_bit ?k_bit ?a_below ?l_below ?co_below ?k_below ?a_Shape___init__ ?i_Shape_init ?l_Shape_init ?co_Shape_init ?k_Shape_init ?a_Shape_leaf ?i_Shape_leaf ?l_Shape_leaf ?co_Shape_leaf ?k_Shape_leaf ?a_Minder___init__ ?i_Minder_init ?l_Minder_init ?co_Minder_init ?k_Minder_init ?lT_Minder_init ?a_Minder_way ?i_Minder_way ?l_Minder_way ?co_Minder_way ?k_Minder_way ?a_Minder_chosen ?i_Minder_chosen ?l_Minder_chosen ?co_Minder_chosen ?k_Minder_chosen ?a_Minder_words ?i_Minder_words ?l_Minder_words ?co_Minder_words ?k_Minder_words ?a_AllMinder_way ?i_AllMinder_way ?l_AllMinder_way ?co_AllMinder_way ?k_AllMinder_way ?a_AllMinder_chosen ?i_AllMinder_chosen ?l_AllMinder_chosen ?co_AllMinder_chosen ?k_AllMinder_chosen ?a_RestMinder_way ?i_RestMinder_way ?l_RestMinder_way ?co_RestMinder_way ?k_RestMinder_way ?a_RestMinder_chosen ?i_RestMinder_chosen ?l_RestMinder_chosen ?co_RestMinder_chosen ?k_RestMinder_chosen ?a_law_cell_at ?l_law_cell_at ?co_law_cell_at ?k_law_cell_at ?a_law_bits ?l_law_bits ?co_law_bits ?k_law_bits ?a_law_made ?l_law_made ?co_law_made ?k_law_made ?a_law_due ?l_law_due ?co_law_due ?k_law_due ?a_law_asked ?l_law_asked ?co_law_asked ?k_law_asked ?a_law ?l_law ?co_law ?k_law ?rd_Shape ?ga_Shape ?fc_Shape___init__ ?a_Minder_leaf ?a_AllMinder_leaf ?a_RestMinder_leaf ?a_AllMinder_words ?a_RestMinder_words ?a_AllMinder___init__ ?a_RestMinder___init__
    (case z_len => k_is)
    (case z_int => k_is)
    (case z_bool => k_is)
    (case z_list => k_is)
    (case z_tuple => k_is)
    (case z_str => k_is)
    (case z_range => k_is)
    (case z_isinstance => k_is)
    (case a_Shape => k_is)
    (case pg_Shape => k_is)
    (case hd_Shape => k_is)
    (case po_Shape => k_is)
    (case sa_Shape => k_is)
    (case a_Minder => k_is)
    (case pg_Minder => k_is)
    (case hd_Minder => k_is)
    (case po_Minder => k_is)
    (case sa_Minder => k_is)
    (case n_Minder_name => k_is)
    (case n_Minder_keep => k_is)
    (case n_Minder_most => k_is)
    (case n_Minder_span => k_is)
    (case mk_Minder => k_is)
    (case kc_Minder => k_is)
    (case a_AllMinder => k_is)
    (case pg_AllMinder => k_is)
    (case hd_AllMinder => k_is)
    (case po_AllMinder => k_is)
    (case sa_AllMinder => k_is)
    (case n_AllMinder_name => k_is)
    (case n_AllMinder_keep => k_is)
    (case n_AllMinder_most => k_is)
    (case n_AllMinder_span => k_is)
    (case mk_AllMinder => k_is)
    (case kc_AllMinder => k_is)
    (case a_RestMinder => k_is)
    (case pg_RestMinder => k_is)
    (case hd_RestMinder => k_is)
    (case po_RestMinder => k_is)
    (case sa_RestMinder => k_is)
    (case n_RestMinder_name => k_is)
    (case n_RestMinder_keep => k_is)
    (case n_RestMinder_most => k_is)
    (case n_RestMinder_span => k_is)
    (case mk_RestMinder => k_is)
    (case kc_RestMinder => k_is)
    (case a_bit => k_is)
    (case l_bit => k_is)
    (case co_bit => k_is)
    (case k_bit => k_is)
    (case a_below => k_is)
    (case l_below => k_is)
    (case co_below => k_is)
    (case k_below => k_is)
    (case a_Shape___init__ => k_is)
    (case i_Shape_init => k_is)
    (case l_Shape_init => k_is)
    (case co_Shape_init => k_is)
    (case k_Shape_init => k_is)
    (case a_Shape_leaf => k_is)
    (case i_Shape_leaf => k_is)
    (case l_Shape_leaf => k_is)
    (case co_Shape_leaf => k_is)
    (case k_Shape_leaf => k_is)
    (case a_Minder___init__ => k_is)
    (case i_Minder_init => k_is)
    (case l_Minder_init => k_is)
    (case co_Minder_init => k_is)
    (case k_Minder_init => k_is)
    (case lT_Minder_init => k_is)
    (case a_Minder_way => k_is)
    (case i_Minder_way => k_is)
    (case l_Minder_way => k_is)
    (case co_Minder_way => k_is)
    (case k_Minder_way => k_is)
    (case a_Minder_chosen => k_is)
    (case i_Minder_chosen => k_is)
    (case l_Minder_chosen => k_is)
    (case co_Minder_chosen => k_is)
    (case k_Minder_chosen => k_is)
    (case a_Minder_words => k_is)
    (case i_Minder_words => k_is)
    (case l_Minder_words => k_is)
    (case co_Minder_words => k_is)
    (case k_Minder_words => k_is)
    (case a_AllMinder_way => k_is)
    (case i_AllMinder_way => k_is)
    (case l_AllMinder_way => k_is)
    (case co_AllMinder_way => k_is)
    (case k_AllMinder_way => k_is)
    (case a_AllMinder_chosen => k_is)
    (case i_AllMinder_chosen => k_is)
    (case l_AllMinder_chosen => k_is)
    (case co_AllMinder_chosen => k_is)
    (case k_AllMinder_chosen => k_is)
    (case a_RestMinder_way => k_is)
    (case i_RestMinder_way => k_is)
    (case l_RestMinder_way => k_is)
    (case co_RestMinder_way => k_is)
    (case k_RestMinder_way => k_is)
    (case a_RestMinder_chosen => k_is)
    (case i_RestMinder_chosen => k_is)
    (case l_RestMinder_chosen => k_is)
    (case co_RestMinder_chosen => k_is)
    (case k_RestMinder_chosen => k_is)
    (case a_law_cell_at => k_is)
    (case l_law_cell_at => k_is)
    (case co_law_cell_at => k_is)
    (case k_law_cell_at => k_is)
    (case a_law_bits => k_is)
    (case l_law_bits => k_is)
    (case co_law_bits => k_is)
    (case k_law_bits => k_is)
    (case a_law_made => k_is)
    (case l_law_made => k_is)
    (case co_law_made => k_is)
    (case k_law_made => k_is)
    (case a_law_due => k_is)
    (case l_law_due => k_is)
    (case co_law_due => k_is)
    (case k_law_due => k_is)
    (case a_law_asked => k_is)
    (case l_law_asked => k_is)
    (case co_law_asked => k_is)
    (case k_law_asked => k_is)
    (case a_law => k_is)
    (case l_law => k_is)
    (case co_law => k_is)
    (case k_law => k_is)
    (case rd_Shape => k_is)
    (case ga_Shape => k_is)
    (case fc_Shape___init__ => k_is)
    (case a_Minder_leaf => k_is)
    (case a_AllMinder_leaf => k_is)
    (case a_RestMinder_leaf => k_is)
    (case a_AllMinder_words => k_is)
    (case a_RestMinder_words => k_is)
    (case a_AllMinder___init__ => k_is)
    (case a_RestMinder___init__ => k_is)
#print axioms PySem.Challenge.cw_minders_k03_whom_a_way_chooses_holds
