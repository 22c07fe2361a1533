import PyProof.Rows.All
import Wide.All
import OpenK.AllK
import Wide.FinOn
import HandS.ForMost
import HandS.ForExc
import HandS.Defaults
import HandS.Codes
import HandS.ClsMeth
import HandS.TupLe
import HandS.StrMore
import HandS.IsInst
import HandS.SuiteRaise
import HandS.TryElse
import HandS.TryMany
import HandS.WideBits
import PySem.Challenge.RW_minders_k04_when_a_child_ends

set_option Elab.async false
set_option linter.all false
set_option maxRecDepth 100000
set_option maxHeartbeats 4000000
/-! Mn: rules of my own over HandS: calls whose promise the reading picks. -/
namespace Mn
open PySem PySem.Spec PyProof.Rows L2

/-- a def of the module, by its name, its promise, its defaults -/
structure Cal (P : Program) (w : World) (K : PySem.W.Frag) (mg : Str → Option Value) (base : Heap) (CX : CXT) (x : Str) (k : Nat) (ps : List Str) (dvs : List V) (sp : Sp) : Prop where
  ex : ∃ (f : Addr) (fd : FuncData) (ds : List Value), FnOk P w K mg base CX k f fd ps sp ∧ mg x = some (.ref f) ∧ PySem.W.keepIn K (.ref f) = true ∧ Binds K fd ps ds ∧ Vals dvs ds
/-- a method of the class at C -/
structure Mth (P : Program) (w : World) (K : PySem.W.Frag) (mg : Str → Option Value) (base : Heap) (CX : CXT) (C : Addr) (m : Str) (k : Nat) (ps : List Str) (dvs : List V) (sp : Sp) : Prop where
  ex : ∃ (f : Addr) (fd : FuncData) (ds : List Value), FnOk P w K mg base CX k f fd ps sp ∧ Meth K C m f ∧ Binds K fd ps ds ∧ Vals dvs ds
/-- a class that is made by its name -/
structure Mak (P : Program) (w : World) (K : PySem.W.Frag) (mg : Str → Option Value) (base : Heap) (CX : CXT) (x : Str) (C : Addr) (k : Nat) (ps : List Str) (dvs : List V) (sp : Sp) : Prop where
  ex : ∃ (f : Addr) (fd : FuncData) (ds : List Value), FnOk P w K mg base CX k f fd ps sp ∧ mg x = some (.ref C) ∧ Mk K C f ∧ Binds K fd ps ds ∧ Vals dvs ds
/-- the context stands over these -/
structure Sx (X : Cx) (P : Program) (w : World) (K : PySem.W.Frag) (mg : Str → Option Value) (base : Heap) : Prop where
  p : X.prog = P
  w : X.w = w
  k : X.K = K
  m : X.mg = mg
  b : X.base = base
section
variable {X : Cx} {P : Program} {w : World} {K : PySem.W.Frag} {mg : Str → Option Value} {base : Heap} {CX : CXT} {k : Nat} {E : XK} {x m : Str} {p pos apos : Pos} {e o : Expr} {es : List Expr} {ta : TE} {t : TA}
def tCA (P : Program) (w : World) (K : PySem.W.Frag) (mg : Str → Option Value) (base : Heap) (CX : CXT) (x : Str) (k : Nat) (E : XK) (t : TA) : TE := fun σ H Q => ∃ j ps dvs sp, Cal P w K mg base CX x j ps dvs sp ∧ j ≤ k ∧ t σ H fun vs H1 => sp (vs ++ dvs) H1 Q E
/-- f(e, ..), nothing raised -/
theorem pe_ca (hX : Sx X P w K mg base) (hr : Room k X.A) (hg : Gl X x) (ha : PA X (e :: es) t) (hdb : (x == ("__debug__" : Str)) = false := by decide) (he : starEach (e :: es) X.env = (false, eval e X.env) :: starEach es X.env := by rfl) (hpl : (backTo pos (starEach es X.env)).any (·.1) = false := by rfl) :
    PE X (.Call (.Name x p) (e :: es) [] pos) (tCA P w K mg base CX0 x k E0 t) := by
  obtain ⟨rfl, rfl, rfl, rfl, rfl⟩ := hX
  refine ⟨fun pins s σ H Q I h => ?_⟩
  obtain ⟨j, ps, dvs, sp, C, hj, h⟩ := h
  obtain ⟨f, fd, ds, F, hm, hk, hb, hd⟩ := C.ex
  exact (pe_call F (hr.mono hj) hg hm hk hb hd pass0 ha hdb he hpl).run pins s σ H Q I h
/-- f(), nothing raised -/
theorem pe_ca0 (hX : Sx X P w K mg base) (hr : Room k X.A) (hg : Gl X x) (hdb : (x == ("__debug__" : Str)) = false := by decide) : PE X (.Call (.Name x p) [] [] pos) (tCA P w K mg base CX0 x k E0 tNil) := by
  obtain ⟨rfl, rfl, rfl, rfl, rfl⟩ := hX
  refine ⟨fun pins s σ H Q I h => ?_⟩
  obtain ⟨j, ps, dvs, sp, C, hj, h⟩ := h
  obtain ⟨f, fd, ds, F, hm, hk, hb, hd⟩ := C.ex
  exact (pe_call0 F (hr.mono hj) hg hm hk hb hd pass0 hdb).run pins s σ H Q I h
def tMkA (P : Program) (w : World) (K : PySem.W.Frag) (mg : Str → Option Value) (base : Heap) (CX : CXT) (x : Str) (k : Nat) (E : XK) (t : TA) : TE := fun σ H Q => ∃ C j ps dvs sp, Mak P w K mg base CX x C j ps dvs sp ∧ j + 1 ≤ k ∧ tMake C sp dvs E t σ H Q
theorem pe_mka (hX : Sx X P w K mg base) (hr : Room k X.A) (hg : Gl X x) (ha : PA X (e :: es) t) (hdb : (x == ("__debug__" : Str)) = false := by decide) (he : starEach (e :: es) X.env = (false, eval e X.env) :: starEach es X.env := by rfl) (hpl : (backTo pos (starEach es X.env)).any (·.1) = false := by rfl) :
    PE X (.Call (.Name x p) (e :: es) [] pos) (tMkA P w K mg base CX0 x k E0 t) := by
  obtain ⟨rfl, rfl, rfl, rfl, rfl⟩ := hX
  refine ⟨fun pins s σ H Q I h => ?_⟩
  obtain ⟨C, j, ps, dvs, sp, M, hj, h⟩ := h
  obtain ⟨f, fd, ds, F, hm, hk, hb, hd⟩ := M.ex
  exact (pe_make hk F (hr.mono hj) hg hm hb hd pass0 ha hdb he hpl).run pins s σ H Q I h
theorem pe_mka0 (hX : Sx X P w K mg base) (hr : Room k X.A) (hg : Gl X x) (hdb : (x == ("__debug__" : Str)) = false := by decide) : PE X (.Call (.Name x p) [] [] pos) (tMkA P w K mg base CX0 x k E0 tNil) := by
  obtain ⟨rfl, rfl, rfl, rfl, rfl⟩ := hX
  refine ⟨fun pins s σ H Q I h => ?_⟩
  obtain ⟨C, j, ps, dvs, sp, M, hj, h⟩ := h
  obtain ⟨f, fd, ds, F, hm, hk, hb, hd⟩ := M.ex
  exact (pe_make0 hk F (hr.mono hj) hg hm hb hd pass0 hdb).run pins s σ H Q I h
def tMA (P : Program) (w : World) (K : PySem.W.Frag) (mg : Str → Option Value) (base : Heap) (CX : CXT) (m : Str) (k : Nat) (E : XK) (ta : TE) (t : TA) : TE := fun σ H Q => ta σ H fun xv H1 => ∃ a C dx fs j ps dvs sp, xv = .ref a ∧ H1 a = some (.ins C dx fs) ∧ Cls K C ∧ fs.lookup m = none ∧ Mth P w K mg base CX C m j ps dvs sp ∧ j ≤ k ∧
  t σ H1 fun vs H2 => sp (xv :: (vs ++ dvs)) H2 Q E
/-- o.m(e, ..), o of any own class -/
theorem pe_maX {pl : Sem Bool} (hX : Sx X P w K mg base) (hr : Room k X.A) (hx : Passes CX X E) (he : PE X o ta) (ha : PA X (e :: es) t)
    (hst : starEach (e :: es) X.env = (false, eval e X.env) :: starEach es X.env := by rfl) (hpl : (backTo pos (starEach es X.env)).any (·.1) = false := by rfl)
    (ht : eval (.Call (.Attribute o m apos) (e :: es) [] pos) X.env = (do
      let ov ← eval o X.env
      standAt apos.atName
      let (f, first) ← holding [ov] (getMethod ov m pl)
      callWith pos f first (backTo pos (starEach (e :: es) X.env)) (backToKw pos (keywordEach [] X.env))) := by rfl) :
    PE X (.Call (.Attribute o m apos) (e :: es) [] pos) (tMA P w K mg base CX m k E ta t) := by
  obtain ⟨rfl, rfl, rfl, rfl, rfl⟩ := hX
  refine ⟨fun pins s σ H Q I h => ?_⟩
  refine PySem.W.methodCall_KW (pl := pl) (thn (he.run pins s σ H _ I h) fun u s1 ⟨xv, H1, I1, rx, a, C, dx, fs, j, ps, dvs, sp, ex, ea, c, l, M, hj, q⟩ => ?_) ht
  subst ex
  obtain rfl : u = Value.ref a := rx
  obtain ⟨f, fd, ds, F, hm, hb, hd⟩ := M.ex
  refine getmeth_ok I1 ea c hm l ?_
  refine PySem.W.callWith_K (first := [.ref a]) (h₀ := X.base) I.ok.mod.kin hm.kp (thn (ha.run pos pins s1 σ H1 _ I1 q) fun us s2 ⟨vs, H2, I2, r, q2⟩ => ⟨I2.kIn, ?_⟩) hst hpl
  exact run_fn (us := .ref a :: us) (vs := .ref a :: vs) F (hr.mono hj) hb hd hx I2 (.cons rfl r) q2
theorem pe_maX0 {pl : Sem Bool} (hX : Sx X P w K mg base) (hr : Room k X.A) (hx : Passes CX X E) (he : PE X o ta)
    (ht : eval (.Call (.Attribute o m apos) [] [] pos) X.env = (do
      let ov ← eval o X.env
      standAt apos.atName
      let (f, first) ← holding [ov] (getMethod ov m pl)
      callWith pos f first (backTo pos (starEach [] X.env)) (backToKw pos (keywordEach [] X.env))) := by rfl) :
    PE X (.Call (.Attribute o m apos) [] [] pos) (tMA P w K mg base CX m k E ta tNil) := by
  obtain ⟨rfl, rfl, rfl, rfl, rfl⟩ := hX
  refine ⟨fun pins s σ H Q I h => ?_⟩
  refine PySem.W.methodCall_KW (pl := pl) (thn (he.run pins s σ H _ I h) fun u s1 ⟨xv, H1, I1, rx, a, C, dx, fs, j, ps, dvs, sp, ex, ea, c, l, M, hj, q⟩ => ?_) ht
  subst ex
  obtain rfl : u = Value.ref a := rx
  obtain ⟨f, fd, ds, F, hm, hb, hd⟩ := M.ex
  refine getmeth_ok I1 ea c hm l ?_
  exact PySem.W.callWith_K0 (first := [.ref a]) I1.kIn hm.kp (run_fn (us := [.ref a]) (vs := [.ref a]) F (hr.mono hj) hb hd hx I1 (.cons rfl .nil) q)
theorem pe_ma {pl : Sem Bool} (hX : Sx X P w K mg base) (hr : Room k X.A) (he : PE X o ta) (ha : PA X (e :: es) t)
    (hst : starEach (e :: es) X.env = (false, eval e X.env) :: starEach es X.env := by rfl) (hpl : (backTo pos (starEach es X.env)).any (·.1) = false := by rfl)
    (ht : eval (.Call (.Attribute o m apos) (e :: es) [] pos) X.env = (do
      let ov ← eval o X.env
      standAt apos.atName
      let (f, first) ← holding [ov] (getMethod ov m pl)
      callWith pos f first (backTo pos (starEach (e :: es) X.env)) (backToKw pos (keywordEach [] X.env))) := by rfl) :
    PE X (.Call (.Attribute o m apos) (e :: es) [] pos) (tMA P w K mg base CX0 m k E0 ta t) := pe_maX (pl := pl) hX hr pass0 he ha hst hpl ht
theorem pe_ma0 {pl : Sem Bool} (hX : Sx X P w K mg base) (hr : Room k X.A) (he : PE X o ta)
    (ht : eval (.Call (.Attribute o m apos) [] [] pos) X.env = (do
      let ov ← eval o X.env
      standAt apos.atName
      let (f, first) ← holding [ov] (getMethod ov m pl)
      callWith pos f first (backTo pos (starEach [] X.env)) (backToKw pos (keywordEach [] X.env))) := by rfl) :
    PE X (.Call (.Attribute o m apos) [] [] pos) (tMA P w K mg base CX0 m k E0 ta tNil) := pe_maX0 (pl := pl) hX hr pass0 he ht
/-- a name of the module as a value -/
def tGv (mg : Str → Option Value) (x : Str) : TE := fun _ H Q => ∃ v u, mg x = some u ∧ RelV v u ∧ Q v H
theorem pe_gv (hm : X.mg = mg) (hg : Gl X x) (hd : (x == ("__debug__" : Str)) = false := by decide) : PE X (.Name x p) (tGv mg x) := by
  subst hm
  refine ⟨fun pins s σ H Q I h => ?_⟩
  obtain ⟨v, u, hm, r, q⟩ := h
  exact ld_glob I hg hm ⟨v, H, I, r, q⟩ hd
end
/-! ### == of a list with [] -/
def rEqE : R2 := fun x y H Q => ∃ a b xs, x = .ref a ∧ y = .ref b ∧ H a = some (.lst xs) ∧ H b = some (.lst []) ∧ Q (.bl xs.isEmpty) H
def rNeE : R2 := fun x y H Q => ∃ a b xs, x = .ref a ∧ y = .ref b ∧ H a = some (.lst xs) ∧ H b = some (.lst []) ∧ Q (.bl (!xs.isEmpty)) H
/-! ### readings, step by step -/
section
variable {σ σ' : L2.St} {H H1 : Hp} {Q : VK} {D : Ends} {v x y z : V} {a b : Bool} {i j : Int} {n : Nat} {ta tb tc te : TE} {t u : TT} {s1 s2 : TS} {ar : TA} {r r' : R2} {g : TG} {Qb : Bool → Hp → Prop} {Qa : List V → Hp → Prop} {Qs : L2.St → Hp → Prop} {K : PySem.W.Frag}
theorem w_var (h : σ[n]? = some (some v)) (q : Q v H) : tVar n σ H Q := ⟨v, h, q⟩
theorem w_c (q : Q v H) : tC v σ H Q := q
theorem w_op (q : ta σ H fun x H1 => tb σ H1 fun y H2 => r x y H2 Q) : tOp r ta tb σ H Q := q
theorem w_un {r : V → Hp → VK → Prop} (q : ta σ H fun x H1 => r x H1 Q) : tUn r ta σ H Q := q
theorem w_I0 {f : Int → Int → V} (q : Q (f i j) H) : rI0 f (.int i) (.int j) H Q := ⟨_, _, rfl, rfl, q⟩
theorem w_I {C : Int → Int → Prop} {f : Int → Int → V} (c : C i j) (q : Q (f i j) H) : rI C f (.int i) (.int j) H Q := ⟨_, _, rfl, rfl, c, q⟩
theorem w_U {f : Int → V} (q : Q (f i) H) : rU f (.int i) H Q := ⟨_, rfl, q⟩
theorem w_eq (h : scal x y = true) (q : Q (.bl (decide (x = y))) H) : rEq x y H Q := ⟨h, q⟩
theorem w_ne (h : scal x y = true) (q : Q (.bl (!decide (x = y))) H) : rNe x y H Q := ⟨h, q⟩
theorem w_test (q : te σ H fun x H' => ∃ k, x = .bl k ∧ Qb k H') : tTest te σ H Qb := q
theorem w_B (q : te σ H fun x H' => ∃ k, x = .bl k ∧ Qb k H') : tB te σ H Qb := q
theorem w_bl {R : Bool → Prop} (q : R a) : ∃ k, V.bl a = .bl k ∧ R k := ⟨_, rfl, q⟩
theorem w_and (q : t σ H fun c H1 => if c = true then u σ H1 Qb else Qb false H1) : tAnd t u σ H Qb := q
theorem w_or (q : t σ H fun c H1 => if c = true then Qb true H1 else u σ H1 Qb) : tOr t u σ H Qb := q
theorem w_not (q : t σ H fun c H1 => Qb (!c) H1) : tNot t σ H Qb := q
theorem w_andV (q : ta σ H fun x H1 => ∃ c, x = .bl c ∧ if c = true then tb σ H1 Q else Q (.bl false) H1) : tAndV ta tb σ H Q := q
theorem w_orV (q : ta σ H fun x H1 => ∃ c, x = .bl c ∧ if c = true then Q (.bl true) H1 else tb σ H1 Q) : tOrV ta tb σ H Q := q
theorem w_notV (q : ta σ H fun x H1 => ∃ c, x = .bl c ∧ Q (.bl (!c)) H1) : tNotV ta σ H Q := q
theorem w_chain (q : ta σ H fun x H1 => tb σ H1 fun y H2 => r x y H2 fun z H3 => ∃ k, z = .bl k ∧ (if k = true then tc σ H3 fun z H4 => r' y z H4 Q else Q (.bl false) H3)) : tChain r r' ta tb tc σ H Q := q
theorem w_seq (q : s1 { D with nx := s2 D } σ H) : tSeq s1 s2 D σ H := q
theorem w_next (q : D.nx σ H) : tNext D σ H := q
theorem w_ret (q : te σ H D.rt) : tRet te D σ H := q
theorem w_retN (q : D.rt .non H) : tRetN D σ H := q
theorem w_if (q : t σ H fun b H1 => if b = true then s1 D σ H1 else s2 D σ H1) : tIfS t s1 s2 D σ H := q
theorem w_drop (q : te σ H fun _ H1 => D.nx σ H1) : tDrop te D σ H := q
theorem w_asg (q : te σ H fun x H1 => g x σ H1 D.nx) : tAsg te g D σ H := q
theorem w_name (q : Qs (σ.set n (some v)) H) : gName n v σ H Qs := q
theorem w_name2 (h : σ.set n (some v) = σ') (q : Qs σ' H) : gName n v σ H Qs := by subst h; exact q
theorem w_nil (q : Qa [] H) : tNil σ H Qa := q
theorem w_cons (q : te σ H fun x H1 => ar σ H1 fun xs H2 => Qa (x :: xs) H2) : tCons te ar σ H Qa := q
theorem w_cb {r : List V → Hp → VK → Prop} (q : ar σ H fun vs H1 => r vs H1 Q) : tCB r ar σ H Q := q
theorem w_cont (q : D.ct σ H) : tCont D σ H := q
end
end Mn

namespace Mn
open PySem PySem.Spec PyProof.Rows L2
/-! ### named readings of what has none -/
section
variable {X : Cx} {K : PySem.W.Frag} {σ : L2.St} {H H1 H2 : Hp} {Q : VK} {D : Ends} {v x y z : V} {a b p q : Addr} {i j : Int} {n : Nat} {xs ys zs : List V} {s s' : Str} {Qs : L2.St → Hp → Prop} {Qt : Hp → Prop} {f : Str} {fs : List (Str × V)} {C dx : Addr} {ta tv te to ti : TE} {ar : TA}
theorem same_new (h : H p = none) (o : HO) : Same H (upd H p o) := fun b u q => by rw [upd_ne (ne_of_none q h)]; exact q
theorem same_upd {o : HO} (s : Same H H1) (h : H1 p = none) : Same H (upd H1 p o) := s.trans (same_new h o)
/-- an object that was not there at the start may change -/
theorem same_mut {o : HO} (s : Same H H1) (h : H p = none) : Same H (upd H1 p o) := fun b u q => by rw [upd_ne (ne_of_none q h)]; exact s b u q
theorem sqT_same (e : Same H H1) (h : SqT K H a xs) : SqT K H1 a xs := by
  rcases h with (h | ⟨o, h⟩) | h
  · exact .inl (.inl (e _ _ h))
  · exact .inl (.inr ⟨o, e _ _ h⟩)
  · exact .inr h
theorem rd_same {u : HO} (e : Same H H1) (h : Rd H a u) : Rd H1 a u := by
  rcases h with h | ⟨o, h⟩
  · exact .inl (e _ _ h)
  · exact .inr ⟨o, e _ _ h⟩
def cLenL (K : PySem.W.Frag) : List V → Hp → VK → Prop := fun xs H Q => ∃ p ys, xs = [.ref p] ∧ SqL K H p ys ∧ Q (.int ys.length) H
theorem call_lenL : CallR X (.builtin "len") (cLenL X.K) := fun pins s σ H xs us Q I r h => by
  obtain ⟨p, ys, e, hq, q⟩ := h
  exact call_len_seq pins s σ H xs us Q I r ⟨p, ys, e, .inl hq, q⟩
theorem w_lenL (h : SqL K H p ys) (q : Q (.int ys.length) H) : cLenL K [.ref p] H Q := ⟨_, _, rfl, h, q⟩
def cLenT (K : PySem.W.Frag) : List V → Hp → VK → Prop := fun xs H Q => ∃ p ys, xs = [.ref p] ∧ SqT K H p ys ∧ Q (.int ys.length) H
theorem call_lenT : CallR X (.builtin "len") (cLenT X.K) := fun pins s σ H xs us Q I r h => by
  obtain ⟨p, ys, e, hq, q⟩ := h
  exact call_len_seq pins s σ H xs us Q I r ⟨p, ys, e, .inr hq, q⟩
theorem w_lenT (h : SqT K H p ys) (q : Q (.int ys.length) H) : cLenT K [.ref p] H Q := ⟨_, _, rfl, h, q⟩
def cLenS : List V → Hp → VK → Prop := fun xs H Q => ∃ z, xs = [.str z] ∧ z.length ≤ sizeLine ∧ Q (.int z.length) H
theorem call_lenS : CallR X (.builtin "len") cLenS := call_len_str
theorem w_lenS (h : s.length ≤ sizeLine) (q : Q (.int s.length) H) : cLenS [.str s] H Q := ⟨_, rfl, h, q⟩
def cStrI : List V → Hp → VK → Prop := fun xs H Q => ∃ i, xs = [.int i] ∧ i.natAbs.log2 < 1920 ∧ Q (.str (toString i)) H
theorem call_strI : CallR X (.type "str") cStrI := call_str_int
theorem w_strI (h : i.natAbs.log2 < 1920) (q : Q (.str (toString i)) H) : cStrI [.int i] H Q := ⟨_, rfl, h, q⟩
def cIntS : List V → Hp → VK → Prop := fun xs H Q => ∃ a n, xs = [.str a] ∧ PySem.intText? a = some n ∧ a.length ≤ 640 ∧ Q (.int n) H
theorem call_intS : CallR X (.type "int") cIntS := call_int_str
theorem w_intS (h : PySem.intText? s = some i) (l : s.length ≤ 640) (q : Q (.int i) H) : cIntS [.str s] H Q := ⟨_, _, rfl, h, l, q⟩
def cIntB : List V → Hp → VK → Prop := fun xs H Q => ∃ k, xs = [.bl k] ∧ Q (.int (if k then 1 else 0)) H
theorem call_intB : CallR X (.type "int") cIntB := fun pins s σ H xs us Q I r h => call_int1 pins s σ H xs us Q I r (.inr h)
theorem w_intB {k : Bool} (q : Q (.int (if k then 1 else 0)) H) : cIntB [.bl k] H Q := ⟨_, rfl, q⟩
def cListL (K : PySem.W.Frag) : List V → Hp → VK → Prop := fun xs H Q => ∃ p ys, xs = [.ref p] ∧ SqL K H p ys ∧ ∀ l, H l = none → Q (.ref l) (upd H l (.lst ys))
theorem call_listL : CallR X (.type "list") (cListL X.K) := fun pins s σ H xs us Q I r h => by
  obtain ⟨p, ys, e, hq, q⟩ := h
  exact call_list_of pins s σ H xs us Q I r ⟨p, ys, e, .inl hq, q⟩
theorem w_listL (h : SqL K H p ys) (q : ∀ l, H l = none → Q (.ref l) (upd H l (.lst ys))) : cListL K [.ref p] H Q := ⟨_, _, rfl, h, q⟩
def cDivmod : List V → Hp → VK → Prop := fun xs H Q => ∃ i j, xs = [.int i, .int j] ∧ CDiv i j ∧ ∀ p, H p = none → Q (.ref p) (upd H p (.tup [.int (i / j), .int (i % j)]))
theorem call_divmodI : CallR X (.builtin "divmod") cDivmod := call_divmod
theorem w_divmod (c : CDiv i j) (q : ∀ p, H p = none → Q (.ref p) (upd H p (.tup [.int (i / j), .int (i % j)]))) : cDivmod [.int i, .int j] H Q := ⟨_, _, rfl, c, q⟩
def cMax : List V → Hp → VK → Prop := fun xs H Q => ∃ i j, xs = [.int i, .int j] ∧ Q (.int (if j > i then j else i)) H
theorem call_maxI (hc : X.calm = true) : CallR X (.builtin "max") cMax := call_max2 hc
theorem w_max (q : Q (.int (max i j)) H) : cMax [.int i, .int j] H Q := ⟨_, _, rfl, by
  have e : (if j > i then j else i) = max i j := by rw [Int.max_def]; split <;> split <;> omega
  rw [e]; exact q⟩
def cMin : List V → Hp → VK → Prop := fun xs H Q => ∃ i j, xs = [.int i, .int j] ∧ Q (.int (if j < i then j else i)) H
theorem call_minI (hc : X.calm = true) : CallR X (.builtin "min") cMin := call_min2 hc
theorem w_min (q : Q (.int (min i j)) H) : cMin [.int i, .int j] H Q := ⟨_, _, rfl, by
  have e : (if j < i then j else i) = min i j := by rw [Int.min_def]; split <;> split <;> omega
  rw [e]; exact q⟩
def rAddS : R2 := fun x y H Q => ∃ i j, x = .str i ∧ y = .str j ∧ i.length + j.length ≤ sizeLine ∧ Q (.str (i ++ j)) H
theorem op_addS : OpR X (binaryOp .Add) rAddS := op_add_str
theorem w_addS (h : s.length + s'.length ≤ sizeLine) (q : Q (.str (s ++ s')) H) : rAddS (.str s) (.str s') H Q := ⟨_, _, rfl, rfl, h, q⟩
def rInS : R2 := fun x y H Q => ∃ i j, x = .str i ∧ y = .str j ∧ Q (.bl (!(Builtin.Str.occurrences j i 0 j.length 1).isEmpty)) H
theorem op_inS : OpR X (compareOp .In) rInS := op_in_str
theorem w_inS (q : Q (.bl (!(Builtin.Str.occurrences s' s 0 s'.length 1).isEmpty)) H) : rInS (.str s) (.str s') H Q := ⟨_, _, rfl, rfl, q⟩
def rNinS : R2 := fun x y H Q => ∃ i j, x = .str i ∧ y = .str j ∧ Q (.bl (!(!(Builtin.Str.occurrences j i 0 j.length 1).isEmpty))) H
theorem op_ninS : OpR X (compareOp .NotIn) rNinS := op_notIn_str
theorem w_ninS (q : Q (.bl (!(!(Builtin.Str.occurrences s' s 0 s'.length 1).isEmpty))) H) : rNinS (.str s) (.str s') H Q := ⟨_, _, rfl, rfl, q⟩
def rIsN : R2 := fun x y H Q => y = .non ∧ Q (.bl (decide (x = .non))) H
theorem op_isNn : OpR X (compareOp .Is) rIsN := op_isN
theorem w_isN (q : Q (.bl (decide (x = .non))) H) : rIsN x .non H Q := ⟨rfl, q⟩
def rNotN : R2 := fun x y H Q => y = .non ∧ Q (.bl (!decide (x = .non))) H
theorem op_notNn : OpR X (compareOp .IsNot) rNotN := op_notN
theorem w_notN (q : Q (.bl (!decide (x = .non))) H) : rNotN x .non H Q := ⟨rfl, q⟩
theorem w_ixL (h : SqL K H p xs) (e : atI xs i = some v) (q : Q v H) : rIxL K (.ref p) (.int i) H Q := ⟨_, _, _, _, rfl, rfl, h, e, q⟩
theorem w_ixT (h : SqT K H p xs) (e : atI xs i = some v) (q : Q v H) : rIxT K (.ref p) (.int i) H Q := ⟨_, _, _, _, rfl, rfl, h, e, q⟩
theorem w_ixS {c : Nat} (l : s.length ≤ sizeLine) (e : atI s.cps.toList i = some c) (q : Q (.str ⟨#[c]⟩) H) : rIxS (.str s) (.int i) H Q := ⟨_, _, _, rfl, rfl, l, e, q⟩
theorem w_app (h : H p = some (.lst xs)) (l : xs.length < sizeLine) (q : Q .non (upd H p (.lst (xs ++ [y])))) : rAppend (.ref p) [y] H Q := ⟨_, _, _, rfl, rfl, h, l, q⟩
theorem w_cat (h : H p = some (.lst xs)) (h' : H a = some (.lst ys)) (l : xs.length + ys.length ≤ sizeLine) (q : ∀ r, H r = none → Q (.ref r) (upd H r (.lst (xs ++ ys)))) : rCat (.ref p) (.ref a) H Q := ⟨_, _, _, _, rfl, rfl, h, h', l, q⟩
theorem w_bm {T : String} {r : V → List V → Hp → VK → Prop} (q : to σ H fun x H1 => tyV K T x H1 ∧ ar σ H1 fun xs H2 => r x xs H2 Q) : tBM K T r to ar σ H Q := q
theorem w_bm0 {T : String} {r : V → List V → Hp → VK → Prop} (q : to σ H fun x H1 => tyV K T x H1 ∧ r x [] H1 Q) : tBM0 K T r to σ H Q := q
theorem w_tyL {P : Prop} (h : SqL K H p xs) (q : P) : tyV K "list" (.ref p) H ∧ P := ⟨.inl ⟨rfl, _, h⟩, q⟩
theorem w_tyS {P : Prop} (q : P) : tyV K "str" (.str s) H ∧ P := ⟨rfl, q⟩
theorem w_tyI {P : Prop} (q : P) : tyV K "int" (.int i) H ∧ P := ⟨rfl, q⟩
theorem w_lst (q : ar σ H fun xs H1 => xs.length ≤ sizeLine ∧ ∀ p, H1 p = none → Q (.ref p) (upd H1 p (.lst xs))) : tLst ar σ H Q := q
theorem w_tup (q : ar σ H fun xs H1 => xs.length ≤ sizeLine ∧ ∀ p, H1 p = none → Q (.ref p) (upd H1 p (.tup xs))) : tTup ar σ H Q := q
theorem w_new {P : Addr → Prop} (l : xs.length ≤ sizeLine) (q : ∀ p, H p = none → P p) : xs.length ≤ sizeLine ∧ ∀ p, H p = none → P p := ⟨l, q⟩
theorem w_sl {r : V → Option Int → Option Int → Hp → VK → Prop} {tl th : TO} (q : te σ H fun x H1 => tl σ H1 fun l H2 => th σ H2 fun u H3 => r x l u H3 Q) : tSl r te tl th σ H Q := q
theorem w_part {Qo : Option Int → Hp → Prop} (q : te σ H fun x H1 => ∃ i, x = .int i ∧ Qo (some i) H1) : tPart te σ H Qo := q
theorem w_part1 {R : Int → Prop} (q : R i) : ∃ j, V.int i = .int j ∧ R j := ⟨_, rfl, q⟩
theorem w_nopart {Qo : Option Int → Hp → Prop} (q : Qo none H) : tNoPart σ H Qo := q
theorem w_slL {lo hi : Option Int} (h : SqL K H p xs) (q : ∀ r, H r = none → Q (.ref r) (upd H r (.lst (cutV xs lo hi)))) : rSlL K (.ref p) lo hi H Q := ⟨_, _, rfl, h, q⟩
theorem w_slS {lo hi : Option Int} (l : s.length ≤ sizeLine) (q : Q (.str (cutS s lo hi)) H) : rSlS (.str s) lo hi H Q := ⟨_, rfl, l, q⟩
theorem w_m1 {r : V → List V → Hp → VK → Prop} (q : to σ H fun x H1 => (∃ a, x = .str a) ∧ te σ H1 fun y H2 => r x [y] H2 Q) : tM1 r to te σ H Q := q
theorem w_m0 {r : V → List V → Hp → VK → Prop} (q : to σ H fun x H1 => (∃ a, x = .str a) ∧ r x [] H1 Q) : tM0 r to σ H Q := q
theorem w_isS {P : Prop} (q : P) : (∃ a, V.str s = .str a) ∧ P := ⟨⟨_, rfl⟩, q⟩
/-- e.f at an instance -/
theorem w_fld (q : ta σ H fun x H1 => ∃ a C dx fs v, x = .ref a ∧ H1 a = some (.ins C dx fs) ∧ Cls K C ∧ NoAttr K C f ∧ fs.lookup f = some v ∧ Q v H1) : tFld K ta f σ H Q := q
theorem w_fld1 (h : H a = some (.ins C dx fs)) (c : Cls K C) (n : NoAttr K C f) (l : fs.lookup f = some v) {R : V → Prop} (q : R v) : ∃ a' C dx fs v', V.ref a = .ref a' ∧ H a' = some (.ins C dx fs) ∧ Cls K C ∧ NoAttr K C f ∧ fs.lookup f = some v' ∧ R v' := ⟨_, _, _, _, _, rfl, h, c, n, l, q⟩
theorem w_sfld (q : tv σ H fun y H1 => ta σ H1 fun x H2 => ∃ a C dx fs, x = .ref a ∧ H2 a = some (.ins C dx fs) ∧ Cls K C ∧ NoAttr K C f ∧ fs.length < 1000 ∧ D.nx σ (upd H2 a (.ins C dx (putF f y fs)))) : sFld K ta tv f D σ H := q
theorem w_sfld1 (h : H a = some (.ins C dx fs)) (c : Cls K C) (n : NoAttr K C f) (l : fs.length < 1000) {R : Hp → Prop} (q : R (upd H a (.ins C dx (putF f y fs)))) : ∃ a' C dx fs, V.ref a = .ref a' ∧ H a' = some (.ins C dx fs) ∧ Cls K C ∧ NoAttr K C f ∧ fs.length < 1000 ∧ R (upd H a' (.ins C dx (putF f y fs))) := ⟨_, _, _, _, rfl, h, c, n, l, q⟩
/-- a def's call: its promise -/
theorem w_ca {P : Program} {w : World} {mg : Str → Option Value} {base : Heap} {CX : CXT} {k j : Nat} {ps : List Str} {dvs : List V} {sp : Sp} {E : XK} (c : Cal P w K mg base CX f j ps dvs sp) (hj : j ≤ k) (q : ar σ H fun vs H1 => sp (vs ++ dvs) H1 Q E) : tCA P w K mg base CX f k E ar σ H Q := ⟨_, _, _, _, c, hj, q⟩
/-- a known test -/
theorem w_ite {c A B : Prop} [Decidable c] (h1 : c → A) (h2 : ¬ c → B) : if decide c = true then A else B := by
  by_cases h : c
  · rw [if_pos (decide_eq_true h)]; exact h1 h
  · rw [if_neg (by simp [h])]; exact h2 h
theorem w_iteN {c A B : Prop} [Decidable c] (h1 : ¬ c → A) (h2 : c → B) : if (!decide c) = true then A else B := by
  by_cases h : c
  · rw [if_neg (by simp [h])]; exact h2 h
  · rw [if_pos (by simp [h])]; exact h1 h
theorem w_iteB {c : Bool} {A B : Prop} (h1 : c = true → A) (h2 : c = false → B) : if c = true then A else B := by
  cases c
  · rw [if_neg Bool.false_ne_true]; exact h2 rfl
  · rw [if_pos rfl]; exact h1 rfl
end
/-! ### loops and comprehensions -/
section
variable {K : PySem.W.Frag} {σ : L2.St} {H : Hp} {Q : VK} {D : Ends} {a : Addr} {xs : List V} {g : TG} {tb : TS} {tt : TT} {te tl : TE} {vs : List Nat} {ar : TA}
theorem w_for {wi : TI} (q : wi σ H fun J H1 => ∃ W : Nat → Nat → L2.St → Hp → Prop, (∃ m, W 0 m σ H1) ∧ ∀ i m σ H, W i m σ H →
  (J.stop i H ∧ D.nx σ H) ∨ (J.go i H ∧ ∃ N : L2.St → Hp → Prop, (∀ σ' H', N σ' H' → ∃ m', m' < m ∧ W (i + 1) m' σ' H') ∧ ∀ x H', J.yld i H x H' → g x σ H' fun σ2 H2 => tb { D with nx := N, ct := N, bk := D.nx } σ2 H2)) : tFor wi g tb D σ H := q
theorem w_iList {R : It → Hp → Prop} (q : tl σ H fun x H1 => ∃ a, x = .ref a ∧ (∃ xs, SqL K H1 a xs) ∧ R (Itl K a) H1) : iList K tl σ H R := q
theorem w_iRng {R : It → Hp → Prop} (q : ar σ H fun vs H1 => ∃ j : Int, vs = [.int j] ∧ -(2 ^ 62) ≤ j ∧ j < 2 ^ 62 ∧ R (Itr 0 j.toNat) H1) : iRng1 ar σ H R := q
theorem w_iRng2 {R : It → Hp → Prop} (q : ar σ H fun vs H1 => ∃ i j : Int, vs = [.int i, .int j] ∧ (-(2 ^ 62) ≤ i ∧ i < 2 ^ 62 ∧ -(2 ^ 62) ≤ j ∧ j < 2 ^ 62) ∧ R (Itr i (j - i).toNat) H1) : iRng2 ar σ H R := q
/-- the loop over the list at a: an invariant over turn, slots, heap -/
theorem w_forL (Pv : Nat → L2.St → Hp → Prop) (hS : SqL K H a xs) (h0 : Pv 0 σ H) (hl : ∀ i σ H, i ≤ xs.length → Pv i σ H → SqL K H a xs)
    (hs : ∀ i x σ H, xs[i]? = some x → Pv i σ H → g x σ H fun σ2 H2 => tb { D with nx := Pv (i + 1), ct := Pv (i + 1), bk := D.nx } σ2 H2) (hd : ∀ σ H, Pv xs.length σ H → D.nx σ H) :
    ∃ a', V.ref a = .ref a' ∧ (∃ xs, SqL K H a' xs) ∧ ∃ W : Nat → Nat → L2.St → Hp → Prop, (∃ m, W 0 m σ H) ∧ ∀ i m σ H, W i m σ H →
      ((Itl K a').stop i H ∧ D.nx σ H) ∨ ((Itl K a').go i H ∧ ∃ N : L2.St → Hp → Prop, (∀ σ' H', N σ' H' → ∃ m', m' < m ∧ W (i + 1) m' σ' H') ∧ ∀ x H', (Itl K a').yld i H x H' → g x σ H' fun σ2 H2 => tb { D with nx := N, ct := N, bk := D.nx } σ2 H2) :=
  ⟨a, rfl, ⟨_, hS⟩, for_list Pv h0 hl hs hd⟩
theorem w_forR {n : Int} (Pv : Nat → L2.St → Hp → Prop) (b1 : -(2 ^ 62) ≤ n) (b2 : n < 2 ^ 62) (h0 : Pv 0 σ H)
    (hs : ∀ i σ H, i < n.toNat → Pv i σ H → g (.int (0 + i)) σ H fun σ2 H2 => tb { D with nx := Pv (i + 1), ct := Pv (i + 1), bk := D.nx } σ2 H2) (hd : ∀ σ H, Pv n.toNat σ H → D.nx σ H) :
    ∃ j : Int, [V.int n] = [V.int j] ∧ -(2 ^ 62) ≤ j ∧ j < 2 ^ 62 ∧ ∃ W : Nat → Nat → L2.St → Hp → Prop, (∃ m, W 0 m σ H) ∧ ∀ i m σ H, W i m σ H →
      ((Itr 0 j.toNat).stop i H ∧ D.nx σ H) ∨ ((Itr 0 j.toNat).go i H ∧ ∃ N : L2.St → Hp → Prop, (∀ σ' H', N σ' H' → ∃ m', m' < m ∧ W (i + 1) m' σ' H') ∧ ∀ x H', (Itr 0 j.toNat).yld i H x H' → g x σ H' fun σ2 H2 => tb { D with nx := N, ct := N, bk := D.nx } σ2 H2) :=
  ⟨n, rfl, b1, b2, for_range Pv h0 hs hd⟩
theorem w_lc {wi : TI} (q : wi σ H fun J H1 => ∀ D, H1 D = none → ∃ W : Nat → Nat → Hp → Prop, (∃ m, W 0 m (upd H1 D (.lst []))) ∧ ∀ i m H, W i m H →
  (J.stop i H ∧ Q (.ref D) H) ∨ (J.go i H ∧ ∃ Nx : Hp → Prop, (∀ H', Nx H' → ∃ m', m' < m ∧ W (i + 1) m' H') ∧ ∀ x H', J.yld i H x H' → g x (wipe σ vs) H' fun σ2 H2 => wipe σ2 vs = wipe σ vs ∧ tt σ2 H2 fun b H3 =>
    if b = true then te σ2 H3 fun y H4 => ∃ acc, H4 D = some (.lst acc) ∧ acc.length < sizeLine ∧ Nx (upd H4 D (.lst (acc ++ [y]))) else Nx H3)) : tLc wi g tt te vs σ H Q := q
theorem w_yes {Qb : Bool → Hp → Prop} (q : Qb true H) : tYes σ H Qb := q
/-- a comprehension over the list at a, in general -/
theorem w_lcL {Rq : Addr → Hp → Prop} (Pv : Addr → Nat → Hp → Prop) (hS : SqL K H a xs) (h0 : ∀ C, H C = none → Pv C 0 (upd H C (.lst []))) (hl : ∀ C i H', H C = none → i ≤ xs.length → Pv C i H' → SqL K H' a xs)
    (hs : ∀ C i x H', H C = none → xs[i]? = some x → Pv C i H' → g x (wipe σ vs) H' fun σ2 H2 => wipe σ2 vs = wipe σ vs ∧ tt σ2 H2 fun b H3 =>
      if b = true then te σ2 H3 fun y H4 => ∃ acc, H4 C = some (.lst acc) ∧ acc.length < sizeLine ∧ Pv C (i + 1) (upd H4 C (.lst (acc ++ [y]))) else Pv C (i + 1) H3) (hd : ∀ C H', H C = none → Pv C xs.length H' → Rq C H') :
    ∃ a', V.ref a = .ref a' ∧ (∃ xs, SqL K H a' xs) ∧ ∀ C, H C = none → ∃ W : Nat → Nat → Hp → Prop, (∃ m, W 0 m (upd H C (.lst []))) ∧ ∀ i m H, W i m H →
      ((Itl K a').stop i H ∧ Rq C H) ∨ ((Itl K a').go i H ∧ ∃ Nx : Hp → Prop, (∀ H', Nx H' → ∃ m', m' < m ∧ W (i + 1) m' H') ∧ ∀ x H', (Itl K a').yld i H x H' → g x (wipe σ vs) H' fun σ2 H2 => wipe σ2 vs = wipe σ vs ∧ tt σ2 H2 fun b H3 =>
        if b = true then te σ2 H3 fun y H4 => ∃ acc, H4 C = some (.lst acc) ∧ acc.length < sizeLine ∧ Nx (upd H4 C (.lst (acc ++ [y]))) else Nx H3) :=
  ⟨a, rfl, ⟨_, hS⟩, fun C hC => lc_list (Pv C) (h0 C hC) (fun i H' hi p => hl C i H' hC hi p) (fun i x H' hx p => hs C i x H' hC hx p) fun H' p => hd C H' hC p⟩
theorem w_lcR {Rq : Addr → Hp → Prop} {n : Int} (Pv : Addr → Nat → Hp → Prop) (b1 : -(2 ^ 62) ≤ n) (b2 : n < 2 ^ 62) (h0 : ∀ C, H C = none → Pv C 0 (upd H C (.lst [])))
    (hs : ∀ C i H', H C = none → i < n.toNat → Pv C i H' → g (.int (0 + i)) (wipe σ vs) H' fun σ2 H2 => wipe σ2 vs = wipe σ vs ∧ tt σ2 H2 fun b H3 =>
      if b = true then te σ2 H3 fun y H4 => ∃ acc, H4 C = some (.lst acc) ∧ acc.length < sizeLine ∧ Pv C (i + 1) (upd H4 C (.lst (acc ++ [y]))) else Pv C (i + 1) H3) (hd : ∀ C H', H C = none → Pv C n.toNat H' → Rq C H') :
    ∃ j : Int, [V.int n] = [V.int j] ∧ -(2 ^ 62) ≤ j ∧ j < 2 ^ 62 ∧ ∀ C, H C = none → ∃ W : Nat → Nat → Hp → Prop, (∃ m, W 0 m (upd H C (.lst []))) ∧ ∀ i m H, W i m H →
      ((Itr 0 j.toNat).stop i H ∧ Rq C H) ∨ ((Itr 0 j.toNat).go i H ∧ ∃ Nx : Hp → Prop, (∀ H', Nx H' → ∃ m', m' < m ∧ W (i + 1) m' H') ∧ ∀ x H', (Itr 0 j.toNat).yld i H x H' → g x (wipe σ vs) H' fun σ2 H2 => wipe σ2 vs = wipe σ vs ∧ tt σ2 H2 fun b H3 =>
        if b = true then te σ2 H3 fun y H4 => ∃ acc, H4 C = some (.lst acc) ∧ acc.length < sizeLine ∧ Nx (upd H4 C (.lst (acc ++ [y]))) else Nx H3) :=
  ⟨n, rfl, b1, b2, fun C hC => lc_range (Pv C) (h0 C hC) (fun i H' hi p => hs C i H' hC hi p) fun H' p => hd C H' hC p⟩
/-- what stands behind i items, where each gives a value or none and nothing else changes -/
def LcF (H : Hp) (xs : List V) (f : V → Option V) (C : Addr) (i : Nat) (H' : Hp) : Prop := Same H H' ∧ H' C = some (.lst ((xs.take i).filterMap f))
theorem take_succ' {α : Type} {xs : List α} {i : Nat} {x : α} (h : xs[i]? = some x) : xs.take (i + 1) = xs.take i ++ [x] := by
  rw [List.take_add_one, h]; rfl
theorem lcF_0 {f : V → Option V} {C : Addr} (h : H C = none) : LcF H xs f C 0 (upd H C (.lst [])) := ⟨same_new h _, by rw [upd_same]; rfl⟩
theorem lcF_yes {f : V → Option V} {C : Addr} {i : Nat} {x y : V} {H4 : Hp} (p : LcF H xs f C i H4) (h : H C = none) (hx : xs[i]? = some x) (hf : f x = some y) (hz : xs.length ≤ 100000) :
    ∃ acc, H4 C = some (.lst acc) ∧ acc.length < sizeLine ∧ LcF H xs f C (i + 1) (upd H4 C (.lst (acc ++ [y]))) := by
  refine ⟨_, p.2, ?_, same_mut p.1 h, ?_⟩
  · have h1 := List.length_filterMap_le f (xs.take i)
    rw [List.length_take] at h1
    have h2 := sizeLine_eq
    omega
  · rw [upd_same, take_succ' hx, List.filterMap_append, List.filterMap_cons_some hf]; rfl
theorem lcF_no {f : V → Option V} {C : Addr} {i : Nat} {x : V} {H4 : Hp} (p : LcF H xs f C i H4) (hx : xs[i]? = some x) (hf : f x = none) : LcF H xs f C (i + 1) H4 := by
  refine ⟨p.1, ?_⟩
  rw [p.2, take_succ' hx, List.filterMap_append, List.filterMap_cons_none hf, List.filterMap_nil, List.append_nil]
end
/-! ### isinstance; == of lists of ints -/
section
variable {X : Cx} {K : PySem.W.Frag} {H : Hp} {Q : VK} {a b : Addr} {ns ms : List Int} {x : V}
theorem w_isi {n t : String} {r : Bool} (ty : TyX K H x (.type t)) (k : kitB t n = some r) (q : Q (.bl r) H) : rIsi K [x, .ty n] H Q := ⟨_, _, _, _, _, rfl, ClsV.ty n, ty, kit_ty k, q⟩
theorem dpAll_ints : ∀ ns : List Int, DpAll K H (ns.map V.int) (ns.map PyData.int)
  | [] => .nil
  | n :: r => .cons (.int n) (dpAll_ints r)
theorem eqvAll_ints : ∀ ns ms : List Int, PyData.eqvAll (ns.map PyData.int) (ms.map PyData.int) = decide (ns = ms)
  | [], [] => by simp [PyData.eqvAll]
  | [], _ :: _ => by simp [PyData.eqvAll]
  | _ :: _, [] => by simp [PyData.eqvAll]
  | n :: r, k :: q => by
    simp only [List.map_cons, PyData.eqvAll, PyData.eqv, eqvAll_ints r q]
    by_cases h : n = k <;> simp [h]
theorem eqv_ints : PyData.eqv (.list (ns.map PyData.int)) (.list (ms.map PyData.int)) = decide (ns = ms) := by
  rw [PyData.eqv]; exact eqvAll_ints ns ms
def rEqI (K : PySem.W.Frag) : R2 := fun x y H Q => ∃ (a b : Addr) (ns ms : List Int), x = .ref a ∧ y = .ref b ∧ SqL K H a (ns.map V.int) ∧ SqL K H b (ms.map V.int) ∧ Q (.bl (decide (ns = ms))) H
def rNeI (K : PySem.W.Frag) : R2 := fun x y H Q => ∃ (a b : Addr) (ns ms : List Int), x = .ref a ∧ y = .ref b ∧ SqL K H a (ns.map V.int) ∧ SqL K H b (ms.map V.int) ∧ Q (.bl (!decide (ns = ms))) H
theorem op_eqLI (hu : X.A.units + 64 < cLine) : OpR X (compareOp .Eq) (rEqI X.K) := fun pins s σ H x y v u Q I rx ry h => by
  obtain ⟨a, b, ns, ms, rfl, rfl, h1, h2, q⟩ := h
  exact op_eqD hu pins s σ H _ _ v u Q I rx ry ⟨_, _, .lst h1 (dpAll_ints ns), .lst h2 (dpAll_ints ms), PySem.W.shaped_ints ns, PySem.W.shaped_ints ms, by rw [eqv_ints]; exact q⟩
theorem op_neLI (hu : X.A.units + 64 < cLine) : OpR X (compareOp .NotEq) (rNeI X.K) := fun pins s σ H x y v u Q I rx ry h => by
  obtain ⟨a, b, ns, ms, rfl, rfl, h1, h2, q⟩ := h
  exact op_neD hu pins s σ H _ _ v u Q I rx ry ⟨_, _, .lst h1 (dpAll_ints ns), .lst h2 (dpAll_ints ms), PySem.W.shaped_ints ns, PySem.W.shaped_ints ms, by rw [eqv_ints]; exact q⟩
theorem w_eqLI (h1 : SqL K H a (ns.map V.int)) (h2 : SqL K H b (ms.map V.int)) (q : Q (.bl (decide (ns = ms))) H) : rEqI K (.ref a) (.ref b) H Q := ⟨_, _, _, _, rfl, rfl, h1, h2, q⟩
theorem w_neLI (h1 : SqL K H a (ns.map V.int)) (h2 : SqL K H b (ms.map V.int)) (q : Q (.bl (!decide (ns = ms))) H) : rNeI K (.ref a) (.ref b) H Q := ⟨_, _, _, _, rfl, rfl, h1, h2, q⟩
theorem w_wip {σ σ' : L2.St} {vs : List Nat} {R : Prop} (h : wipe σ vs = wipe σ' vs) (q : R) : wipe σ vs = wipe σ' vs ∧ R := ⟨h, q⟩
theorem map_at {ns : List Int} {i : Nat} {x : V} (h : (ns.map V.int)[i]? = some x) : ∃ n, ns[i]? = some n ∧ x = .int n := by
  rw [List.getElem?_map] at h
  obtain ⟨t, ht, e⟩ := Option.map_eq_some_iff.mp h
  exact ⟨t, ht, e.symm⟩
theorem at_ints {ns : List Int} {k : Int} (h0 : 0 ≤ k) (h : k < (ns.length : Int)) : atI (ns.map V.int) k = some (V.int (ns.getD k.toNat 0)) := by
  refine at_of (j := k.toNat) (by omega) ?_
  rw [List.getElem?_map, List.getElem?_eq_getElem (by omega)]
  simp [List.getD, List.getElem?_eq_getElem (show k.toNat < ns.length by omega)]
theorem at_nat {xs : List V} {k : Int} {i : Nat} {v : V} (e : k = (i : Int)) (h : xs[i]? = some v) : atI xs k = some v := at_of e h
end
theorem kit_ll : kitB "list" "list" = some true := by decide +kernel
theorem kit_ii : kitB "int" "int" = some true := by decide +kernel
theorem kit_ib : kitB "int" "bool" = some false := by decide +kernel
theorem kit_bb : kitB "bool" "bool" = some true := by decide +kernel
theorem kit_tt : kitB "tuple" "tuple" = some true := by decide +kernel
theorem kit_ss : kitB "str" "str" = some true := by decide +kernel
theorem w_cut {t u : TS} {D : Ends} {σ : L2.St} {H : Hp} (Mid : L2.St → Hp → Prop) (h1 : t { D with nx := Mid } σ H) (h2 : ∀ σ' H', Mid σ' H' → u D σ' H') : C8.tCut t u D σ H := ⟨Mid, h1, h2⟩
section
variable {n : L2.St → Hp → Prop} {r : VK} {b c : L2.St → Hp → Prop} {σ : L2.St} {H : Hp} {v : V}
theorem w_nx (q : n σ H) : (Ends.mk n r b c).nx σ H := q
theorem w_rt (q : r v H) : (Ends.mk n r b c).rt v H := q
theorem w_bk (q : b σ H) : (Ends.mk n r b c).bk σ H := q
theorem w_ct (q : c σ H) : (Ends.mk n r b c).ct σ H := q
end
end Mn

namespace Mn
open PySem PySem.Spec PyProof.Rows L2
theorem ltb {n : Nat} (h : Nat.blt n 1000 = true) : n < 1000 := Nat.le_of_ble_eq_true h
/-! ### classes: their attributes -/
structure ClsF (K : PySem.W.Frag) (C : Addr) (fs : List Str) : Prop where
  cl : Cls K C
  no : ∀ f ∈ fs, NoAttr K C f
/-- Class.m(self, ..) -/
structure CMt (P : Program) (w : World) (K : PySem.W.Frag) (mg : Str → Option Value) (base : Heap) (CX : CXT) (x m : Str) (k : Nat) (ps : List Str) (dvs : List V) (sp : Sp) : Prop where
  ex : ∃ (C f : Addr) (mc : Value) (fd : FuncData) (ds : List Value), mg x = some (.ref C) ∧ ClX.CRead K C mc ∧ PySem.W.findCls K (.ref C) mc m = some (.val (.ref f)) ∧ FnOk P w K mg base CX k f fd ps sp ∧ PySem.W.keepIn K (.ref f) = true ∧ Binds K fd ps ds ∧ Vals dvs ds
section
variable {X : Cx} {P : Program} {w : World} {K : PySem.W.Frag} {mg : Str → Option Value} {base : Heap} {CX : CXT} {k : Nat} {E : XK} {x m : Str} {p pos apos : Pos} {e o : Expr} {es : List Expr} {ta : TE} {t : TA}
def tCMA (P : Program) (w : World) (K : PySem.W.Frag) (mg : Str → Option Value) (base : Heap) (CX : CXT) (x m : Str) (k : Nat) (E : XK) (t : TA) : TE := fun σ H Q => ∃ j ps dvs sp, CMt P w K mg base CX x m j ps dvs sp ∧ j ≤ k ∧ t σ H fun vs H1 => sp (vs ++ dvs) H1 Q E
theorem pe_cma {pl : Sem Bool} (hX : Sx X P w K mg base) (hr : Room k X.A) (hg : Gl X x) (ha : PA X (e :: es) t) (hdb : (x == ("__debug__" : Str)) = false := by decide)
    (hst : starEach (e :: es) X.env = (false, eval e X.env) :: starEach es X.env := by rfl) (hpl : (backTo pos (starEach es X.env)).any (·.1) = false := by rfl)
    (ht : eval (.Call (.Attribute (.Name x p) m apos) (e :: es) [] pos) X.env = (do
      let ov ← eval (.Name x p) X.env
      standAt apos.atName
      let (f, first) ← holding [ov] (getMethod ov m pl)
      callWith pos f first (backTo pos (starEach (e :: es) X.env)) (backToKw pos (keywordEach [] X.env))) := by rfl) :
    PE X (.Call (.Attribute (.Name x p) m apos) (e :: es) [] pos) (tCMA P w K mg base CX0 x m k E0 t) := by
  obtain ⟨rfl, rfl, rfl, rfl, rfl⟩ := hX
  refine ⟨fun pins s σ H Q I h => ?_⟩
  obtain ⟨j, ps, dvs, sp, M, hj, h⟩ := h
  obtain ⟨C, f, mc, fd, ds, hm, rd, fc, F, hk, hb, hd⟩ := M.ex
  refine PySem.W.methodCall_KW (pl := pl) (ld_glob I hg hm ?_ hdb) ht
  refine PySem.W.method_cls I.kIn rd.ga (ClX.getcval_ok (v := V.ref f) (u := Value.ref f) I rd ⟨fc, rfl⟩ fun s1 I1 => ?_)
  refine PySem.W.callWith_K (first := []) (h₀ := X.base) I.ok.mod.kin hk (thn (ha.run pos pins s1 σ H _ I1 h) fun us s2 ⟨vs, H2, I2, r, q2⟩ => ⟨I2.kIn, ?_⟩) hst hpl
  exact run_fn F (hr.mono hj) hb hd pass0 I2 r q2
theorem w_cma {σ : L2.St} {H : Hp} {Q : VK} {j : Nat} {ps : List Str} {dvs : List V} {sp : Sp} (c : CMt P w K mg base CX x m j ps dvs sp) (hj : j ≤ k) (q : t σ H fun vs H1 => sp (vs ++ dvs) H1 Q E) : tCMA P w K mg base CX x m k E t σ H Q := ⟨_, _, _, _, c, hj, q⟩
theorem w_mka {σ : L2.St} {H : Hp} {Q : VK} {j : Nat} {ps : List Str} {dvs : List V} {sp : Sp} {C : Addr} (c : Mak P w K mg base CX x C j ps dvs sp) (hj : j + 1 ≤ k) (q : t σ H fun vs H1 => ∀ x dx, H1 x = none → H1 dx = none → dx ≠ x →
  sp (.ref x :: (vs ++ dvs)) (upd (upd H1 dx (.own x)) x (.ins C dx [])) (fun v H2 => v = .non ∧ Q (.ref x) H2) E) : tMkA P w K mg base CX x k E t σ H Q := ⟨_, _, _, _, _, c, hj, q⟩
theorem w_ma {σ : L2.St} {H : Hp} {Q : VK} (q : ta σ H fun xv H1 => ∃ a C dx fs j ps dvs sp, xv = .ref a ∧ H1 a = some (.ins C dx fs) ∧ Cls K C ∧ fs.lookup m = none ∧ Mth P w K mg base CX C m j ps dvs sp ∧ j ≤ k ∧
  t σ H1 fun vs H2 => sp (xv :: (vs ++ dvs)) H2 Q E) : tMA P w K mg base CX m k E ta t σ H Q := q
theorem w_ma1 {H : Hp} {a C dx : Addr} {fs : List (Str × V)} {j : Nat} {ps : List Str} {dvs : List V} {sp : Sp} {R : List V → Sp → Prop} (h : H a = some (.ins C dx fs)) (c : Cls K C) (l : fs.lookup m = none)
    (M : Mth P w K mg base CX C m j ps dvs sp) (hj : j ≤ k) (q : R dvs sp) : ∃ a' C dx fs j ps dvs sp, V.ref a = .ref a' ∧ H a' = some (.ins C dx fs) ∧ Cls K C ∧ fs.lookup m = none ∧ Mth P w K mg base CX C m j ps dvs sp ∧ j ≤ k ∧ R dvs sp :=
  ⟨_, _, _, _, _, _, _, _, rfl, h, c, l, M, hj, q⟩
end
/-! ### lists of texts, is of bools, += -/
section
variable {X : Cx} {K : PySem.W.Frag} {H : Hp} {Q : VK} {a b : Addr} {ns ms : List Str} {x y : V} {D : Ends} {σ : L2.St} {te : TE} {n : Nat} {i j : Int} {p : Bool} {q : Bool}
theorem dpAll_strs : ∀ ns : List Str, DpAll K H (ns.map V.str) (ns.map PyData.str)
  | [] => .nil
  | n :: r => .cons (.str n) (dpAll_strs r)
theorem eqvAll_strs : ∀ ns ms : List Str, PyData.eqvAll (ns.map PyData.str) (ms.map PyData.str) = decide (ns = ms)
  | [], [] => by simp [PyData.eqvAll]
  | [], _ :: _ => by simp [PyData.eqvAll]
  | _ :: _, [] => by simp [PyData.eqvAll]
  | n :: r, k :: q => by
    simp only [List.map_cons, PyData.eqvAll, PyData.eqv, eqvAll_strs r q]
    by_cases h : n = k <;> simp [h]
def okStrs (ns : List Str) : Bool := ns.all PyData.strOk
theorem canLay_strs : ∀ ns : List Str, okStrs ns = true → PyData.canLayAll0 (ns.map PyData.str) = true
  | [], _ => by simp [PyData.canLayAll0]
  | n :: r, h => by
    simp only [okStrs, List.all_cons, Bool.and_eq_true] at h
    simp only [List.map_cons, PyData.canLayAll0, PyData.canLay0, Bool.and_eq_true]
    exact ⟨h.1, canLay_strs r h.2⟩
theorem depth_strs : ∀ ns : List Str, PyData.depthAll (ns.map PyData.str) ≤ 1
  | [] => by simp [PyData.depthAll]
  | n :: r => by
    have := depth_strs r
    simp only [List.map_cons, PyData.depthAll, PyData.depth]
    omega
theorem shaped_strs (h : okStrs ns = true) : SeqAt.shaped (.list (ns.map PyData.str)) = true := by
  have h1 := depth_strs ns
  have h2 : PyData.depth (.list (ns.map PyData.str)) ≤ 64 := by simp only [PyData.depth]; omega
  show (PyData.canLay0 (.list (ns.map PyData.str)) && decide (PyData.depth (.list (ns.map PyData.str)) ≤ 64)) = true
  rw [Bool.and_eq_true]
  exact ⟨by simp only [PyData.canLay0]; exact canLay_strs ns h, decide_eq_true h2⟩
def rEqS (K : PySem.W.Frag) : R2 := fun x y H Q => ∃ (a b : Addr) (ns ms : List Str), x = .ref a ∧ y = .ref b ∧ SqL K H a (ns.map V.str) ∧ SqL K H b (ms.map V.str) ∧ okStrs ns = true ∧ okStrs ms = true ∧ Q (.bl (decide (ns = ms))) H
def rNeS (K : PySem.W.Frag) : R2 := fun x y H Q => ∃ (a b : Addr) (ns ms : List Str), x = .ref a ∧ y = .ref b ∧ SqL K H a (ns.map V.str) ∧ SqL K H b (ms.map V.str) ∧ okStrs ns = true ∧ okStrs ms = true ∧ Q (.bl (!decide (ns = ms))) H
theorem op_eqLS (hu : X.A.units + 64 < cLine) : OpR X (compareOp .Eq) (rEqS X.K) := fun pins s σ H x y v u Q I rx ry h => by
  obtain ⟨a, b, ns, ms, rfl, rfl, h1, h2, o1, o2, q⟩ := h
  exact op_eqD hu pins s σ H _ _ v u Q I rx ry ⟨_, _, .lst h1 (dpAll_strs ns), .lst h2 (dpAll_strs ms), shaped_strs o1, shaped_strs o2, by rw [PyData.eqv, eqvAll_strs]; exact q⟩
theorem op_neLS (hu : X.A.units + 64 < cLine) : OpR X (compareOp .NotEq) (rNeS X.K) := fun pins s σ H x y v u Q I rx ry h => by
  obtain ⟨a, b, ns, ms, rfl, rfl, h1, h2, o1, o2, q⟩ := h
  exact op_neD hu pins s σ H _ _ v u Q I rx ry ⟨_, _, .lst h1 (dpAll_strs ns), .lst h2 (dpAll_strs ms), shaped_strs o1, shaped_strs o2, by rw [PyData.eqv, eqvAll_strs]; exact q⟩
theorem w_eqLS (h1 : SqL K H a (ns.map V.str)) (h2 : SqL K H b (ms.map V.str)) (o1 : okStrs ns = true) (o2 : okStrs ms = true) (q : Q (.bl (decide (ns = ms))) H) : rEqS K (.ref a) (.ref b) H Q := ⟨_, _, _, _, rfl, rfl, h1, h2, o1, o2, q⟩
theorem w_neLS (h1 : SqL K H a (ns.map V.str)) (h2 : SqL K H b (ms.map V.str)) (o1 : okStrs ns = true) (o2 : okStrs ms = true) (q : Q (.bl (!decide (ns = ms))) H) : rNeS K (.ref a) (.ref b) H Q := ⟨_, _, _, _, rfl, rfl, h1, h2, o1, o2, q⟩
def rIsBl : R2 := fun x y H Q => ∃ a b, x = .bl a ∧ y = .bl b ∧ Q (.bl (decide (a = b))) H
theorem op_isB : OpR X (compareOp .Is) rIsBl := op_is_bl
theorem w_isBl (h : Q (.bl (decide (p = q))) H) : rIsBl (.bl p) (.bl q) H Q := ⟨_, _, rfl, rfl, h⟩
theorem w_aug {ti : TIp} (h : σ[n]? = some (some x)) (q : te σ H fun y H1 => ti x y H1 fun z H2 => D.nx (σ.set n (some z)) H2) : tAug n te ti D σ H := ⟨_, h, q⟩
theorem w_ipI {f : Int → Int → Int} (q : Q (.int (f i j)) H) : ipI f (.int i) (.int j) H Q := ⟨_, _, rfl, rfl, q⟩
theorem w_tup_at {xs : List V} {i : Int} {k : Nat} {v : V} (e : i = (k : Int)) (h : xs[k]? = some v) : atI xs i = some v := at_of e h
theorem w_sub {to ti : TE} {ts : TSet} {v : V} {Qs : L2.St → Hp → Prop} (q : to σ H fun o H1 => ti σ H1 fun i H2 => ts o i v H2 fun H3 => Qs σ H3) : gSub to ti ts v σ H Qs := q
theorem w_setL {xs : List V} {k : Nat} {r : Addr} {v : V} {Qh : Hp → Prop} (h : H r = some (.lst xs)) (e : ixN xs.length i = some k) (q : Qh (upd H r (.lst (xs.set k v)))) : rSetL (.ref r) (.int i) v H Qh := ⟨_, _, _, _, rfl, rfl, h, e, q⟩
theorem ixN_of {m k : Nat} (e : i = (k : Int)) (h : k < m) : ixN m i = some k := by
  subst e
  unfold ixN
  rw [if_pos (by omega), if_pos (by omega), Int.toNat_natCast]
end
end Mn

namespace Mn
open PySem PySem.Spec PyProof.Rows L2
/-! ### the rules that name the written part, K told ahead -/
section
variable {X : Cx} {K : PySem.W.Frag} {e a b o value : Expr} {es : List Expr} {f name : Str} {pos pos' tpos apos cpos : Pos} {ta tb tv te to : TE} {t : TA} {tg : Expr}
theorem kFld (hK : X.K = K) (he : PE X e ta) (hb : attributeBase e f X.env (eval e X.env) = eval e X.env := by rfl) : PE X (.Attribute e f pos) (tFld K ta f) := hK ▸ pe_fld he hb
theorem kSFld (hK : X.K = K) (ha : PE X o ta) (hv : PE X value tv) (hs : swapsWith value (some (.Attribute o f pos')) pos.line X.env = pure false := by rfl) : PS X (.Assign [.Attribute o f pos'] value pos) (sFld K ta tv f) := hK ▸ ps_fld ha hv hs
theorem kSFldAug {op : Operator} {rd : V → V → Hp → VK → Prop} (hK : X.K = K) (ha : PE X o ta) (hv : PE X value tv) (hop : InOp X op rd) : PS X (.AugAssign (.Attribute o f tpos) op value pos) (sFldAug K ta tv rd f) := hK ▸ ps_fldaug ha hv hop
theorem kIxL (hK : X.K = K) : IxR X (rIxL K) := hK ▸ ix_list
theorem kIxT (hK : X.K = K) : IxR X (rIxT K) := hK ▸ ix_tup
theorem kLenL (hK : X.K = K) : CallR X (.builtin "len") (cLenL K) := hK ▸ call_lenL
theorem kLenT (hK : X.K = K) : CallR X (.builtin "len") (cLenT K) := hK ▸ call_lenT
theorem kListL (hK : X.K = K) : CallR X (.type "list") (cListL K) := hK ▸ call_listL
theorem kSorted (hK : X.K = K) : CallR X (.builtin "sorted") (rSorted K) := hK ▸ cr_sorted
theorem kIsi (hK : X.K = K) : CallR X (.builtin "isinstance") (rIsi K) := hK ▸ call_isi
theorem kPiL (hK : X.K = K) (hl : PE X e te) : PI X tg e (iList K te) := hK ▸ pi_list hl
theorem kPiT (hK : X.K = K) (hl : PE X e te) : PI X tg e (iTup K te) := hK ▸ pi_tup hl
theorem kSlL (hK : X.K = K) : SlR X (rSlL K) := hK ▸ sl_list
theorem kIn (hK : X.K = K) : OpR X (compareOp .In) (rIn K false) := hK ▸ op_in_seq
theorem kNotIn (hK : X.K = K) : OpR X (compareOp .NotIn) (rIn K true) := hK ▸ op_notIn_seq
theorem kEqI (hK : X.K = K) (hu : X.A.units + 64 < cLine) : OpR X (compareOp .Eq) (rEqI K) := hK ▸ op_eqLI hu
theorem kNeI (hK : X.K = K) (hu : X.A.units + 64 < cLine) : OpR X (compareOp .NotEq) (rNeI K) := hK ▸ op_neLI hu
theorem kEqS (hK : X.K = K) (hu : X.A.units + 64 < cLine) : OpR X (compareOp .Eq) (rEqS K) := hK ▸ op_eqLS hu
theorem kNeS (hK : X.K = K) (hu : X.A.units + 64 < cLine) : OpR X (compareOp .NotEq) (rNeS K) := hK ▸ op_neLS hu
theorem kEqD (hK : X.K = K) (hu : X.A.units + 64 < cLine) : OpR X (compareOp .Eq) (rEqD K) := hK ▸ op_eqD hu
theorem kNeD (hK : X.K = K) (hu : X.A.units + 64 < cLine) : OpR X (compareOp .NotEq) (rNeD K) := hK ▸ op_neD hu
theorem kIndex (hK : X.K = K) : MtR X "list.index" (rIndex K) := hK ▸ mt_index
theorem kTup {k : Nat} {n : Nat} {gs : TGs} (hK : X.K = K) (hc : X.calm = true) (h : PGs X es gs)
    (hn : (assignEach es X.env).length = n := by rfl) (hst : (assignEach es X.env).findIdx? (·.1) = none := by rfl) : PG X (.Tuple es k pos) (gTup K n gs) := hK ▸ pg_tup hc h hn hst
theorem kBm {T id : String} {r : V → List V → Hp → VK → Prop} (hK : X.K = K) (pa : PlainAttrs T) (slot : Slot T name id) (hty : typeOf (.builtin id) = pure (.type "method_descriptor")) (hm : MtR X id r) (ho : PE X o to) (ha : PA X (e :: es) t)
    (hbase : attributeBase o name X.env (eval o X.env) = eval o X.env := by rfl)
    (hfew : ((backTo cpos (starEach (e :: es) X.env)).all (fun x => !x.1) && (backToKw cpos (keywordEach [] X.env)).all (fun x => x.1.isSome)
      && decide ((e :: es).length + ([] : List Keyword).length + (if ([] : List Keyword).isEmpty then 0 else 1) < 30)) = true := by rfl)
    (hline : (apos.endLine == cpos.line) = true := by rfl) (hs : starEach (e :: es) X.env = (false, eval e X.env) :: starEach es X.env := by rfl) (hplain : (backTo cpos (starEach es X.env)).any (·.1) = false := by rfl) : PE X (.Call (.Attribute o name apos) (e :: es) [] cpos) (tBM K T r to t) := hK ▸ pe_bm pa slot hty hm ho ha hbase hfew hline hs hplain
theorem kBm0 {T id : String} {r : V → List V → Hp → VK → Prop} (hK : X.K = K) (pa : PlainAttrs T) (slot : Slot T name id) (hty : typeOf (.builtin id) = pure (.type "method_descriptor")) (hm : MtR X id r) (ho : PE X o to)
    (hbase : attributeBase o name X.env (eval o X.env) = eval o X.env := by rfl) (hline : (apos.endLine == cpos.line) = true := by rfl) : PE X (.Call (.Attribute o name apos) [] [] cpos) (tBM0 K T r to) := hK ▸ pe_bm0 pa slot hty hm ho hbase hline
end
end Mn

namespace Mn
open PySem L2
/-! ### texts that can be laid -/
theorem strOk_of (s : String) : PyData.strOk (Str.ofString s) = true := by
  rw [Str.ofString_eq_toList]
  show (List.toArray (s.toList.map Char.toNat)).all (fun n => decide (n < 0x110000)) = true
  rw [List.all_toArray, List.all_map, List.all_eq_true]
  intro c _
  refine decide_eq_true ?_
  have h := c.valid
  show c.val.toNat < 0x110000
  rcases h with h | h
  · exact Nat.lt_trans h (by decide)
  · exact h.2
theorem okStrs_cons {n : Str} {r : List Str} (h : PyData.strOk n = true) (t : okStrs r = true) : okStrs (n :: r) = true := by
  simp only [okStrs, List.all_cons, Bool.and_eq_true] at t ⊢
  exact ⟨h, t⟩
/-! ### names of the module, x in a tuple | list -/
section
variable {K : PySem.W.Frag} {mg : Str → Option Value} {σ : L2.St} {H : Hp} {Q : VK} {x : Str} {v y : V} {u : Value} {p : Addr} {xs : List V}
theorem w_gv (h : mg x = some u) (r : RelV v u) (q : Q v H) : tGv mg x σ H Q := ⟨v, u, h, r, q⟩
theorem w_inT (h : SqT K H p xs) (fx : flatV y = true) (fs : xs.all flatV = true) (q : Q (.bl (inV y xs)) H) : rIn K false y (.ref p) H Q := ⟨p, xs, rfl, .inr h, fx, fs, q⟩
theorem w_inL (h : SqL K H p xs) (fx : flatV y = true) (fs : xs.all flatV = true) (q : Q (.bl (inV y xs)) H) : rIn K false y (.ref p) H Q := ⟨p, xs, rfl, .inl h, fx, fs, q⟩
theorem w_ninT (h : SqT K H p xs) (fx : flatV y = true) (fs : xs.all flatV = true) (q : Q (.bl (!inV y xs)) H) : rIn K true y (.ref p) H Q := ⟨p, xs, rfl, .inr h, fx, fs, q⟩
theorem w_ninL (h : SqL K H p xs) (fx : flatV y = true) (fs : xs.all flatV = true) (q : Q (.bl (!inV y xs)) H) : rIn K true y (.ref p) H Q := ⟨p, xs, rfl, .inl h, fx, fs, q⟩
end
theorem inV2 (x a b : Str) : inV (.str x) [.str a, .str b] = (decide (x = a) || decide (x = b)) := by
  unfold inV
  simp only [List.any_cons, List.any_nil, Bool.or_false]
  have e : ∀ a : Str, eqV (.str a) (.str x) = decide (x = a) := fun a => by
    show decide (a = x) = decide (x = a)
    exact decide_eq_decide.mpr ⟨Eq.symm, Eq.symm⟩
  rw [e, e]
end Mn

namespace Mn
open PySem L2
def top (i : Nat) : Stmt := PySem.Challenge.pw_minders_k04_when_a_child_ends.main.body.getD i (.Pass ⟨0, 0, 0, 0⟩)
/-- the built-ins that the text names -/
structure Bt (mg : Str → Option Value) : Prop where
  len : mg "len" = none
  int : mg "int" = none
  bool : mg "bool" = none
  list : mg "list" = none
  max : mg "max" = none
  str : mg "str" = none
  range : mg "range" = none
  isinstance : mg "isinstance" = none
abbrev s_Shape_init : Stmt := inClass (top 3) 0
theorem sc_Shape_init : FnScope ["self", "name", "keep"] ["self", "name", "keep"] (defScope s_Shape_init) := ⟨rfl, rfl, rfl, by decide +kernel, rfl, by decide +kernel, by decide +kernel⟩
abbrev s_Shape_leaf : Stmt := inClass (top 3) 1
theorem sc_Shape_leaf : FnScope ["self"] ["self"] (defScope s_Shape_leaf) := ⟨rfl, rfl, rfl, by decide +kernel, rfl, by decide +kernel, by decide +kernel⟩
abbrev s_Shape_begun_again : Stmt := inClass (top 3) 2
theorem sc_Shape_begun_again : FnScope ["self", "word"] ["self", "word"] (defScope s_Shape_begun_again) := ⟨rfl, rfl, rfl, by decide +kernel, rfl, by decide +kernel, by decide +kernel⟩
abbrev s_Leaf_init : Stmt := inClass (top 4) 0
theorem sc_Leaf_init : FnScope ["self", "name", "keep", "grace", "slow"] ["self", "name", "keep", "grace", "slow"] (defScope s_Leaf_init) := ⟨rfl, rfl, rfl, by decide +kernel, rfl, by decide +kernel, by decide +kernel⟩
abbrev s_Leaf_leaf : Stmt := inClass (top 4) 1
theorem sc_Leaf_leaf : FnScope ["self"] ["self"] (defScope s_Leaf_leaf) := ⟨rfl, rfl, rfl, by decide +kernel, rfl, by decide +kernel, by decide +kernel⟩
abbrev s_Leaf_end_at : Stmt := inClass (top 4) 2
theorem sc_Leaf_end_at : FnScope ["self", "steps"] ["self", "steps"] (defScope s_Leaf_end_at) := ⟨rfl, rfl, rfl, by decide +kernel, rfl, by decide +kernel, by decide +kernel⟩
abbrev s_Leaf_work : Stmt := inClass (top 4) 3
theorem sc_Leaf_work : FnScope ["self"] ["self"] (defScope s_Leaf_work) := ⟨rfl, rfl, rfl, by decide +kernel, rfl, by decide +kernel, by decide +kernel⟩
abbrev s_Leaf_words : Stmt := inClass (top 4) 4
theorem sc_Leaf_words : FnScope ["self"] ["self"] (defScope s_Leaf_words) := ⟨rfl, rfl, rfl, by decide +kernel, rfl, by decide +kernel, by decide +kernel⟩
abbrev s_Steady_init : Stmt := inClass (top 5) 0
theorem sc_Steady_init : FnScope ["self", "name", "keep", "many", "grace", "slow"] ["self", "name", "keep", "many", "grace", "slow"] (defScope s_Steady_init) := ⟨rfl, rfl, rfl, by decide +kernel, rfl, by decide +kernel, by decide +kernel⟩
abbrev s_Steady_end_at : Stmt := inClass (top 5) 1
theorem sc_Steady_end_at : FnScope ["self", "steps"] ["self", "steps"] (defScope s_Steady_end_at) := ⟨rfl, rfl, rfl, by decide +kernel, rfl, by decide +kernel, by decide +kernel⟩
abbrev s_Steady_work : Stmt := inClass (top 5) 2
theorem sc_Steady_work : FnScope ["self"] ["self"] (defScope s_Steady_work) := ⟨rfl, rfl, rfl, by decide +kernel, rfl, by decide +kernel, by decide +kernel⟩
abbrev s_Faller_init : Stmt := inClass (top 6) 0
theorem sc_Faller_init : FnScope ["self", "name", "keep", "many", "grace", "slow"] ["self", "name", "keep", "many", "grace", "slow"] (defScope s_Faller_init) := ⟨rfl, rfl, rfl, by decide +kernel, rfl, by decide +kernel, by decide +kernel⟩
abbrev s_Faller_end_at : Stmt := inClass (top 6) 1
theorem sc_Faller_end_at : FnScope ["self", "steps"] ["self", "steps"] (defScope s_Faller_end_at) := ⟨rfl, rfl, rfl, by decide +kernel, rfl, by decide +kernel, by decide +kernel⟩
abbrev s_Faller_work : Stmt := inClass (top 6) 2
theorem sc_Faller_work : FnScope ["self"] ["self"] (defScope s_Faller_work) := ⟨rfl, rfl, rfl, by decide +kernel, rfl, by decide +kernel, by decide +kernel⟩
abbrev s_Minder_init : Stmt := inClass (top 7) 0
theorem sc_Minder_init : FnScope ["self", "name", "keep", "most", "span"] ["self", "name", "keep", "most", "span"] (defScope s_Minder_init) := ⟨rfl, rfl, rfl, by decide +kernel, rfl, by decide +kernel, by decide +kernel⟩
abbrev s_Minder_way : Stmt := inClass (top 7) 1
theorem sc_Minder_way : FnScope ["self"] ["self"] (defScope s_Minder_way) := ⟨rfl, rfl, rfl, by decide +kernel, rfl, by decide +kernel, by decide +kernel⟩
abbrev s_Minder_words : Stmt := inClass (top 7) 3
theorem sc_Minder_words : FnScope ["self"] ["self"] (defScope s_Minder_words) := ⟨rfl, rfl, rfl, by decide +kernel, rfl, by decide +kernel, by decide +kernel⟩
abbrev s_law_cell_at : Stmt := top 9
theorem sc_law_cell_at : FnScope ["_law_script", "_law_k"] ["_law_script", "_law_k"] (defScope s_law_cell_at) := ⟨rfl, rfl, rfl, by decide +kernel, rfl, by decide +kernel, by decide +kernel⟩
abbrev s_law_made : Stmt := top 10
theorem sc_law_made : FnScope ["_law_kind", "_law_keep", "_law_many", "_law_grace", "_law_slow", "_law_told"] ["_law_kind", "_law_keep", "_law_many", "_law_grace", "_law_slow", "_law_told"] (defScope s_law_made) := ⟨rfl, rfl, rfl, by decide +kernel, rfl, by decide +kernel, by decide +kernel⟩
abbrev s_law_words_due : Stmt := top 11
theorem sc_law_words_due : FnScope ["_law_kind", "_law_keep", "_law_many", "_law_grace", "_law_slow", "_law_words"] ["_law_kind", "_law_keep", "_law_many", "_law_grace", "_law_slow"] (defScope s_law_words_due) := ⟨rfl, rfl, rfl, by decide +kernel, rfl, by decide +kernel, by decide +kernel⟩
abbrev s_law_says : Stmt := top 12
theorem sc_law_says : FnScope ["_law_shape", "_law_due", "_law_words"] ["_law_shape", "_law_due"] (defScope s_law_says) := ⟨rfl, rfl, rfl, by decide +kernel, rfl, by decide +kernel, by decide +kernel⟩
abbrev s_law : Stmt := top 13
theorem sc_law : FnScope ["_law_script", "_law_first", "_law_kind", "_law_keep", "_law_told", "_law_many", "_law_grace", "_law_slow", "_law_shape", "_law_word", "_law_due", "_law_found", "_law_most", "_law_steps"] ["_law_script"] (defScope s_law) := ⟨rfl, rfl, rfl, by decide +kernel, rfl, by decide +kernel, by decide +kernel⟩
end Mn

/-! ### tactics: "rd" reads on as far as it goes; "hp", "ne", "sq", "st", "same", "sz" close what is asked of heaps and sizes -/
local macro_rules | `(tactic| walk_at "sz") => `(tactic| first
  | assumption
  | decide
  | (show _ ≤ PySem.sizeLine; decide)
  | (have sl' := PySem.sizeLine_eq; (try simp only [List.length_map, List.length_append, List.length_cons, List.length_nil, List.length_singleton, List.length_drop, List.length_take]); omega))
local macro_rules | `(tactic| walk_at "ne1") => `(tactic| first
  | assumption
  | (apply Ne.symm; assumption)
  | exact L2.ne_of_none (by assumption) (by assumption)
  | exact (L2.ne_of_none (by assumption) (by assumption)).symm)
local macro_rules | `(tactic| walk_at "hp") => `(tactic| first
  | assumption
  | exact L2.upd_same
  | (rw [L2.upd_ne (by walk_at "ne")]; walk_at "hp")
  | exact (by assumption : L2.Same _ _) _ _ (by assumption)
  | exact (by assumption : L2.Same _ _) _ _ ((by assumption : L2.Same _ _) _ _ (by assumption)))
local macro_rules | `(tactic| walk_at "ne") => `(tactic| first
  | walk_at "ne1"
  | exact L2.ne_of_none (by walk_at "hp") (by assumption)
  | exact (L2.ne_of_none (by walk_at "hp") (by assumption)).symm)
local macro_rules | `(tactic| walk_at "same") => `(tactic| first
  | assumption
  | exact L2.Same.refl _
  | exact L2.Same.trans (by assumption) (by assumption)
  | (refine' Mn.same_upd (by walk_at "same") (by assumption))
  | (refine' Mn.same_mut (by walk_at "same") (by assumption)))
local macro_rules | `(tactic| walk_at "sq") => `(tactic| first
  | assumption
  | exact L2.SqL.of L2.upd_same
  | exact L2.SqL.of (by walk_at "hp")
  | (refine' L2.Same.seq ?sq_s ?sq_h; (case sq_h => assumption); (case sq_s => walk_at "same")))
local macro_rules | `(tactic| walk_at "st") => `(tactic| first
  | assumption
  | exact L2.SqT.of L2.upd_same
  | exact L2.SqT.of (by walk_at "hp")
  | (refine' Mn.sqT_same ?sq_s ?sq_h; (case sq_h => assumption); (case sq_s => walk_at "same")))
local macro_rules | `(tactic| walk_at "cls") => `(tactic| first | assumption | exact Mn.ClsF.cl (by assumption))
local macro_rules | `(tactic| walk_at "noattr") => `(tactic| exact Mn.ClsF.no (by assumption) _ (by decide))
local macro_rules | `(tactic| walk_at "v2") => `(tactic| first
  | ((with_reducible refine' Mn.w_lenL ?h ?_); (case h => walk_at "sq"))
  | ((with_reducible refine' Mn.w_lenT ?h ?_); (case h => walk_at "st"))
  | ((with_reducible refine' Mn.w_lenS ?h ?_); (case h => walk_at "sz"))
  | ((with_reducible refine' Mn.w_addS ?h ?_); (case h => walk_at "sz"))
  | with_reducible refine Mn.w_intB ?_
  | with_reducible refine Mn.w_max ?_
  | with_reducible refine Mn.w_min ?_
  | with_reducible refine Mn.w_isN ?_
  | with_reducible refine Mn.w_notN ?_
  | with_reducible refine Mn.w_inS ?_
  | with_reducible refine Mn.w_ninS ?_
  | with_reducible refine Mn.w_bm ?_
  | with_reducible refine Mn.w_bm0 ?_
  | with_reducible refine Mn.w_tyS ?_
  | with_reducible refine Mn.w_tyI ?_
  | ((with_reducible refine' Mn.w_tyL ?h ?_); (case h => walk_at "sq"))
  | ((with_reducible refine' Mn.w_app ?h ?hs ?_); (case h => walk_at "hp"); (case hs => walk_at "sz"))
  | with_reducible refine Mn.w_lst ?_
  | with_reducible refine Mn.w_tup ?_
  | with_reducible refine Mn.w_sl ?_
  | with_reducible refine Mn.w_part ?_
  | with_reducible refine Mn.w_part1 ?_
  | with_reducible refine Mn.w_nopart ?_
  | with_reducible refine Mn.w_m1 ?_
  | with_reducible refine Mn.w_m0 ?_
  | with_reducible refine Mn.w_isS ?_
  | with_reducible refine Mn.w_fld ?_
  | ((with_reducible refine' Mn.w_fld1 ?h ?c ?n ?l ?_); (case h => walk_at "hp"); (case c => walk_at "cls"); (case n => walk_at "noattr"); (case l => rfl))
  | ((with_reducible refine' Mn.w_sfld1 ?h ?c ?n ?l ?_); (case h => walk_at "hp"); (case c => walk_at "cls"); (case n => walk_at "noattr"); (case l => exact Mn.ltb rfl))
  | with_reducible refine Mn.w_ma ?_
  | with_reducible refine Mn.w_isBl ?_
  | ((with_reducible refine' Mn.w_aug ?h ?_); (case h => rfl))
  | with_reducible refine Mn.w_ipI ?_
  | with_reducible refine Mn.w_sub ?_
  | with_reducible refine Mn.w_sfld ?_
  | with_reducible refine Mn.w_for ?_
  | with_reducible refine Mn.w_iList ?_
  | with_reducible refine Mn.w_iRng ?_
  | with_reducible refine Mn.w_lc ?_
  | with_reducible refine Mn.w_yes ?_
  | ((with_reducible refine' Mn.w_wip ?h ?_); (case h => rfl))
  | ((with_reducible refine' Mn.w_eqLI ?h1 ?h2 ?_); (case h1 => walk_at "sq"); (case h2 => walk_at "sq"))
  | ((with_reducible refine' Mn.w_neLI ?h1 ?h2 ?_); (case h1 => walk_at "sq"); (case h2 => walk_at "sq"))
  | with_reducible refine L2.iteT ?_
  | with_reducible refine L2.iteF ?_
  | ((with_reducible refine' Mn.w_I ?c ?_); (case c => first | (show (0 : Int) < _; decide) | exact ⟨by decide, by decide⟩ | exact ⟨by decide, by decide, by decide⟩)))
local macro_rules | `(tactic| walk_at "v1") => `(tactic| first
  | ((with_reducible refine' Mn.w_var ?hv ?_); (case hv => rfl))
  | with_reducible refine Mn.w_c ?_
  | with_reducible refine Mn.w_seq ?_
  | with_reducible refine Mn.w_asg ?_
  | ((with_reducible refine' Mn.w_name2 ?hn ?_); (case hn => first | (simp only [L2.start, L2.wipe, List.map_cons, List.map_nil, List.length_cons, List.length_nil, List.replicate_succ, List.replicate_zero, List.cons_append, List.nil_append, List.set_cons_succ, List.set_cons_zero, Nat.reduceSub, Nat.reduceAdd]; exact rfl) | exact rfl))
  | with_reducible refine Mn.w_op ?_
  | with_reducible refine Mn.w_I0 ?_
  | with_reducible refine Mn.w_cons ?_
  | with_reducible refine Mn.w_nil ?_
  | with_reducible refine Mn.w_cb ?_
  | with_reducible refine Mn.w_if ?_
  | with_reducible refine Mn.w_test ?_
  | with_reducible refine Mn.w_bl ?_
  | ((with_reducible refine' Mn.w_eq ?hs ?_); (case hs => rfl))
  | ((with_reducible refine' Mn.w_ne ?hs ?_); (case hs => rfl))
  | with_reducible refine Mn.w_drop ?_
  | with_reducible refine Mn.w_ret ?_
  | with_reducible refine Mn.w_and ?_
  | with_reducible refine Mn.w_or ?_
  | with_reducible refine Mn.w_not ?_
  | with_reducible refine Mn.w_B ?_
  | with_reducible refine Mn.w_un ?_
  | with_reducible refine Mn.w_U ?_
  | with_reducible refine Mn.w_andV ?_
  | with_reducible refine Mn.w_orV ?_
  | with_reducible refine Mn.w_notV ?_
  | with_reducible refine Mn.w_chain ?_
  | with_reducible refine Mn.w_next ?_
  | with_reducible refine Mn.w_retN ?_
  | with_reducible refine Mn.w_cont ?_
  | with_reducible refine Mn.w_nx ?_
  | with_reducible refine Mn.w_rt ?_
  | with_reducible refine Mn.w_ct ?_
  | with_reducible refine Mn.w_bk ?_)
local macro_rules | `(tactic| walk_at "if") => `(tactic| first
  | (refine' Mn.w_ite ?_ ?_ <;> (intro c))
  | (refine' Mn.w_iteN ?_ ?_ <;> (intro c))
  | (refine' Mn.w_iteB ?_ ?_ <;> (intro c)))
local macro_rules | `(tactic| walk_at "rd") => `(tactic| repeat (first | walk_at "v1" | walk_at "v2"))

namespace Mn
open PySem L2
section
variable {P : Program} {w : World} {K : PySem.W.Frag} {mg : Str → Option Value} {base : Heap}
abbrev FunS (K : PySem.W.Frag) (x qual : Str) (st : Stmt) (dvs : List V) (f : Addr) (fd : FuncData) : Prop := FunD K x qual (defArgs st) (defBody st) (defScope st) dvs [] f fd
/-! ### what shapes bear -/
def shF (n k : Str) : List (Str × V) := [("name", .str n), ("keep", .str k)]
def minF (n k : Str) (m s : Int) : List (Str × V) := [("name", .str n), ("keep", .str k), ("most", .int m), ("span", .int s)]
abbrev minN : List Str := ["name", "keep", "most", "span"]
def spShape : Sp := fun vs H Q _ => ∃ (p C dx : Addr) (n k : Str) (fl : List Str), vs = [.ref p, .str n, .str k] ∧ H p = some (.ins C dx []) ∧ Cls K C ∧ NoAttr K C "name" ∧ NoAttr K C "keep" ∧ Q .non (upd H p (.ins C dx (shF n k)))
theorem ok_Shape_init {f : Addr} {fd : FuncData} (F : Fun K "__init__" "Shape.__init__" s_Shape_init f fd) : FnOk P w K mg base CX0 1 f fd ["self", "name", "keep"] (spShape (K := K)) := by
  refine F.ok sc_Shape_init (fun vs H Q E h => ?_) (fun cdv A outer s H vs Q E hr h => ?_)
  · obtain ⟨p, C, dx, n, k, fl, rfl, _⟩ := h
    rfl
  obtain ⟨p, C, dx, n, k, fl, rfl, hp, c, n1, n2, q⟩ := h
  refine ⟨_, (pss_cons (kSFld (K := K) rfl (pv 0) (pv 1))
    (pss_one (kSFld (K := K) rfl (pv 0) (pv 2)))), ?_⟩
  walk_at "rd"
  refine w_sfld1 hp c n1 (ltb rfl) ?_
  walk_at "rd"
  refine w_sfld1 upd_same c n2 (ltb rfl) ?_
  rw [upd_upd]
  exact q
def spMinder (K : PySem.W.Frag) (C : Addr) : Sp := fun vs H Q _ => ∃ (p dx : Addr) (n k : Str) (m s : Int), vs = [.ref p, .str n, .str k, .int m, .int s] ∧ H p = some (.ins C dx []) ∧ Q .non (upd H p (.ins C dx (minF n k m s)))
theorem ok_Minder_init {C f : Addr} {fd : FuncData} (F : FunS K "__init__" "Minder.__init__" s_Minder_init [.int 1, .int 1] f fd) (cM : ClsF K C minN) (CS : CMt P w K mg base CX0 "Shape" "__init__" 1 ["self", "name", "keep"] [] (spShape (K := K))) :
    FnOk P w K mg base CX0 2 f fd ["self", "name", "keep", "most", "span"] (spMinder K C) := by
  refine F.ok sc_Minder_init (fun vs H Q E h => ?_) (fun cdv A outer s H vs Q E hr h => ?_)
  · obtain ⟨p, dx, n, k, m, s, rfl, _⟩ := h
    rfl
  obtain ⟨p, dx, n, k, m, s, rfl, hp, q⟩ := h
  refine ⟨_, (pss_cons (ps_expr (pe_cma (P := P) (w := w) (K := K) (mg := mg) (base := base) ⟨rfl, rfl, rfl, rfl, rfl⟩ hr rfl (pa_cons (pv 0) (pa_cons (pv 1) (pa_cons (pv 2) pa_nil)))))
    (pss_cons (kSFld (K := K) rfl (pv 0) (pv 3))
    (pss_one (kSFld (K := K) rfl (pv 0) (pv 4))))), ?_⟩
  walk_at "rd"
  refine w_cma CS (by decide) ?_
  walk_at "rd"
  refine ⟨p, C, dx, n, k, [], rfl, hp, cM.cl, cM.no _ (by decide), cM.no _ (by decide), ?_⟩
  walk_at "rd"
  rw [upd_upd, upd_upd]
  exact q
/-- a method that answers a written text | a truth value -/
def spSay (C : Addr) (wd : Str) : Sp := fun vs H Q _ => ∃ (p dx : Addr) (fs : List (Str × V)), vs = [.ref p] ∧ H p = some (.ins C dx fs) ∧ Q (.str wd) H
def spTruth (C : Addr) (b : Bool) : Sp := fun vs H Q _ => ∃ (p dx : Addr) (fs : List (Str × V)), vs = [.ref p] ∧ H p = some (.ins C dx fs) ∧ Q (.bl b) H
theorem ok_Shape_leaf {C f : Addr} {fd : FuncData} (F : Fun K "leaf" "Shape.leaf" s_Shape_leaf f fd) : FnOk P w K mg base CX0 1 f fd ["self"] (spTruth C false) := by
  refine F.ok sc_Shape_leaf (fun vs H Q E h => ?_) (fun cdv A outer s H vs Q E hr h => ?_)
  · obtain ⟨p, dx, fs, rfl, _⟩ := h
    rfl
  obtain ⟨p, dx, fs, rfl, hp, q⟩ := h
  refine ⟨_, (pss_one (ps_ret pe_bl)), ?_⟩
  walk_at "rd"
  exact q
theorem ok_Minder_way {C f : Addr} {fd : FuncData} (F : Fun K "way" "Minder.way" s_Minder_way f fd) : FnOk P w K mg base CX0 1 f fd ["self"] (spSay C "one") := by
  refine F.ok sc_Minder_way (fun vs H Q E h => ?_) (fun cdv A outer s H vs Q E hr h => ?_)
  · obtain ⟨p, dx, fs, rfl, _⟩ := h
    rfl
  obtain ⟨p, dx, fs, rfl, hp, q⟩ := h
  refine ⟨_, (pss_one (ps_ret pe_str)), ?_⟩
  walk_at "rd"
  exact q
/-- a number whose digits are fewer than 577 -/
def Smol (i : Int) : Prop := i.natAbs.log2 < 1920
theorem smol_of {i : Int} (h : i.natAbs < 2 ^ 64) : Smol i := by
  unfold Smol
  by_cases h0 : i.natAbs = 0
  · rw [h0]; decide
  · have := (Nat.log2_lt h0).mpr h
    omega
def minWords (k wd : Str) (m s : Int) : List Str := ["minder", k, wd, toString m, toString s]
def spMinWords (C : Addr) (wd : Str) : Sp := fun vs H Q _ => ∃ (p dx : Addr) (n k : Str) (m s : Int), vs = [.ref p] ∧ H p = some (.ins C dx (minF n k m s)) ∧ Smol m ∧ Smol s ∧
  ∀ r, H r = none → Q (.ref r) (upd H r (.lst ((minWords k wd m s).map V.str)))
theorem ok_Minder_words {C f : Addr} {fd : FuncData} {wd : Str} (F : Fun K "words" "Minder.words" s_Minder_words f fd) (T : Bt mg) (cM : ClsF K C minN) (MW : Mth P w K mg base CX0 C "way" 1 ["self"] [] (spSay C wd)) :
    FnOk P w K mg base CX0 2 f fd ["self"] (spMinWords C wd) := by
  refine F.ok sc_Minder_words (fun vs H Q E h => ?_) (fun cdv A outer s H vs Q E hr h => ?_)
  · obtain ⟨p, dx, n, k, m, s, rfl, _⟩ := h
    rfl
  obtain ⟨p, dx, n, k, m, s, rfl, hp, hm, hs, q⟩ := h
  refine ⟨_, (pss_one (ps_ret (pe_lst (pa_cons pe_str (pa_cons (kFld (K := K) rfl (pv 0)) (pa_cons (pe_ma0 (P := P) (w := w) (K := K) (mg := mg) (base := base) ⟨rfl, rfl, rfl, rfl, rfl⟩ hr (pv 0)) (pa_cons (pe_callTy call_strI (by rfl) T.str (by decide +kernel) (pa_cons (kFld (K := K) rfl (pv 0)) pa_nil)) (pa_cons (pe_callTy call_strI (by rfl) T.str (by decide +kernel) (pa_cons (kFld (K := K) rfl (pv 0)) pa_nil)) pa_nil)))))))), ?_⟩
  unfold minF at hp
  walk_at "rd"
  refine w_ma1 hp cM.cl (by rfl) MW (by decide) ?_
  walk_at "rd"
  refine ⟨p, dx, _, rfl, hp, ?_⟩
  walk_at "rd"
  refine w_strI hm ?_
  walk_at "rd"
  refine w_strI hs ?_
  walk_at "rd"
  exact ⟨by walk_at "sz", fun r hr => q r hr⟩
end
end Mn

namespace Mn
open PySem L2
section
variable {P : Program} {w : World} {K : PySem.W.Frag} {mg : Str → Option Value} {base : Heap}
theorem ClsF.sub {C : Addr} {fs gs : List Str} (c : ClsF K C fs) (h : ∀ f ∈ gs, f ∈ fs) : ClsF K C gs := ⟨c.cl, fun f hf => c.no f (h f hf)⟩
/-! ### what leaves bear -/
def leafF (n k : Str) (g s : Int) : List (Str × V) := [("name", .str n), ("keep", .str k), ("grace", .int g), ("slow", .int s)]
def manyF (n k : Str) (g s m : Int) : List (Str × V) := [("name", .str n), ("keep", .str k), ("grace", .int g), ("slow", .int s), ("many", .int m)]
abbrev leafN : List Str := ["name", "keep", "grace", "slow"]
abbrev manyN : List Str := ["name", "keep", "grace", "slow", "many"]
/-- the shape of a kind: 0 Leaf, 1 Steady, 2 Faller, 3 Minder -/
def fieldsOf (kind : Int) (n k : Str) (g s m : Int) : List (Str × V) := if kind = 0 then leafF n k g s else if kind = 3 then minF n k g s else manyF n k g s m
def workOf (kind m : Int) : List Str := if kind = 0 then ["idle"] else [if kind = 1 then "steady" else "falls", toString m]
def wordsOf (kind : Int) (k : Str) (g s m : Int) : List Str := if kind = 3 then ["minder", k, "one", toString g, toString s] else (["leaf", k, toString g, toString s] : List Str) ++ workOf kind m
def again (k x : Str) : Bool := decide (k = "always") || (decide (k = "fallen") && (decide (x = "fallen") || decide (x = "gave up")))
def endOf (kind m st : Int) : Str := if kind = 0 then "" else if st = m then (if kind = 1 then "done" else "fallen") else ""
def spLeaf (K : PySem.W.Frag) : Sp := fun vs H Q _ => ∃ (p C dx : Addr) (n k : Str) (g s : Int), vs = [.ref p, .str n, .str k, .int g, .int s] ∧ H p = some (.ins C dx []) ∧ ClsF K C leafN ∧ Q .non (upd H p (.ins C dx (leafF n k g s)))
theorem ok_Leaf_init {f : Addr} {fd : FuncData} (F : FunS K "__init__" "Leaf.__init__" s_Leaf_init [.int 0, .int 0] f fd) (CS : CMt P w K mg base CX0 "Shape" "__init__" 1 ["self", "name", "keep"] [] (spShape (K := K))) :
    FnOk P w K mg base CX0 2 f fd ["self", "name", "keep", "grace", "slow"] (spLeaf K) := by
  refine F.ok sc_Leaf_init (fun vs H Q E h => ?_) (fun cdv A outer s H vs Q E hr h => ?_)
  · obtain ⟨p, C, dx, n, k, g, sl, rfl, _⟩ := h
    rfl
  obtain ⟨p, C, dx, n, k, g, sl, rfl, hp, cL, q⟩ := h
  refine ⟨_, (pss_cons (ps_expr (pe_cma (P := P) (w := w) (K := K) (mg := mg) (base := base) ⟨rfl, rfl, rfl, rfl, rfl⟩ hr rfl (pa_cons (pv 0) (pa_cons (pv 1) (pa_cons (pv 2) pa_nil)))))
    (pss_cons (kSFld (K := K) rfl (pv 0) (pv 3))
    (pss_one (kSFld (K := K) rfl (pv 0) (pv 4))))), ?_⟩
  walk_at "rd"
  refine w_cma CS (by decide) ?_
  walk_at "rd"
  refine ⟨p, C, dx, n, k, [], rfl, hp, cL.cl, cL.no _ (by decide), cL.no _ (by decide), ?_⟩
  walk_at "rd"
  rw [upd_upd, upd_upd]
  exact q
def spMany (K : PySem.W.Frag) (C : Addr) : Sp := fun vs H Q _ => ∃ (p dx : Addr) (n k : Str) (m g s : Int), vs = [.ref p, .str n, .str k, .int m, .int g, .int s] ∧ H p = some (.ins C dx []) ∧ Q .non (upd H p (.ins C dx (manyF n k g s m)))
theorem ok_Steady_init {C f : Addr} {fd : FuncData} (F : FunS K "__init__" "Steady.__init__" s_Steady_init [.int 0, .int 0] f fd) (cM : ClsF K C manyN) (CS : CMt P w K mg base CX0 "Leaf" "__init__" 2 ["self", "name", "keep", "grace", "slow"] [] (spLeaf K)) :
    FnOk P w K mg base CX0 3 f fd ["self", "name", "keep", "many", "grace", "slow"] (spMany K C) := by
  refine F.ok sc_Steady_init (fun vs H Q E h => ?_) (fun cdv A outer s H vs Q E hr h => ?_)
  · obtain ⟨p, dx, n, k, m, g, sl, rfl, _⟩ := h
    rfl
  obtain ⟨p, dx, n, k, m, g, sl, rfl, hp, q⟩ := h
  refine ⟨_, (pss_cons (ps_expr (pe_cma (P := P) (w := w) (K := K) (mg := mg) (base := base) ⟨rfl, rfl, rfl, rfl, rfl⟩ hr rfl (pa_cons (pv 0) (pa_cons (pv 1) (pa_cons (pv 2) (pa_cons (pv 4) (pa_cons (pv 5) pa_nil)))))))
    (pss_one (kSFld (K := K) rfl (pv 0) (pv 3)))), ?_⟩
  walk_at "rd"
  refine w_cma CS (by decide) ?_
  walk_at "rd"
  refine ⟨p, C, dx, n, k, g, sl, rfl, hp, cM.sub (by decide), ?_⟩
  walk_at "rd"
  rw [upd_upd]
  exact q
theorem ok_Faller_init {C f : Addr} {fd : FuncData} (F : FunS K "__init__" "Faller.__init__" s_Faller_init [.int 0, .int 0] f fd) (cM : ClsF K C manyN) (CS : CMt P w K mg base CX0 "Leaf" "__init__" 2 ["self", "name", "keep", "grace", "slow"] [] (spLeaf K)) :
    FnOk P w K mg base CX0 3 f fd ["self", "name", "keep", "many", "grace", "slow"] (spMany K C) := by
  refine F.ok sc_Faller_init (fun vs H Q E h => ?_) (fun cdv A outer s H vs Q E hr h => ?_)
  · obtain ⟨p, dx, n, k, m, g, sl, rfl, _⟩ := h
    rfl
  obtain ⟨p, dx, n, k, m, g, sl, rfl, hp, q⟩ := h
  refine ⟨_, (pss_cons (ps_expr (pe_cma (P := P) (w := w) (K := K) (mg := mg) (base := base) ⟨rfl, rfl, rfl, rfl, rfl⟩ hr rfl (pa_cons (pv 0) (pa_cons (pv 1) (pa_cons (pv 2) (pa_cons (pv 4) (pa_cons (pv 5) pa_nil)))))))
    (pss_one (kSFld (K := K) rfl (pv 0) (pv 3)))), ?_⟩
  walk_at "rd"
  refine w_cma CS (by decide) ?_
  walk_at "rd"
  refine ⟨p, C, dx, n, k, g, sl, rfl, hp, cM.sub (by decide), ?_⟩
  walk_at "rd"
  rw [upd_upd]
  exact q
theorem ok_Leaf_leaf {C f : Addr} {fd : FuncData} (F : Fun K "leaf" "Leaf.leaf" s_Leaf_leaf f fd) : FnOk P w K mg base CX0 1 f fd ["self"] (spTruth C true) := by
  refine F.ok sc_Leaf_leaf (fun vs H Q E h => ?_) (fun cdv A outer s H vs Q E hr h => ?_)
  · obtain ⟨p, dx, fs, rfl, _⟩ := h
    rfl
  obtain ⟨p, dx, fs, rfl, hp, q⟩ := h
  refine ⟨_, (pss_one (ps_ret pe_bl)), ?_⟩
  walk_at "rd"
  exact q
/-! ### when they end -/
def spEnd (C : Addr) (kind : Int) : Sp := fun vs H Q _ => ∃ (p dx : Addr) (n k : Str) (g s m st : Int), vs = [.ref p, .int st] ∧ H p = some (.ins C dx (fieldsOf kind n k g s m)) ∧ Q (.str (endOf kind m st)) H
theorem ok_Leaf_end {C f : Addr} {fd : FuncData} (F : Fun K "end_at" "Leaf.end_at" s_Leaf_end_at f fd) : FnOk P w K mg base CX0 1 f fd ["self", "steps"] (spEnd C 0) := by
  refine F.ok sc_Leaf_end_at (fun vs H Q E h => ?_) (fun cdv A outer s H vs Q E hr h => ?_)
  · obtain ⟨p, dx, n, k, g, sl, m, st, rfl, _⟩ := h
    rfl
  obtain ⟨p, dx, n, k, g, sl, m, st, rfl, hp, q⟩ := h
  refine ⟨_, (pss_one (ps_ret pe_str)), ?_⟩
  walk_at "rd"
  exact q
theorem ok_Steady_end {C f : Addr} {fd : FuncData} (F : Fun K "end_at" "Steady.end_at" s_Steady_end_at f fd) (cM : ClsF K C manyN) : FnOk P w K mg base CX0 1 f fd ["self", "steps"] (spEnd C 1) := by
  refine F.ok sc_Steady_end_at (fun vs H Q E h => ?_) (fun cdv A outer s H vs Q E hr h => ?_)
  · obtain ⟨p, dx, n, k, g, sl, m, st, rfl, _⟩ := h
    rfl
  obtain ⟨p, dx, n, k, g, sl, m, st, rfl, hp, q⟩ := h
  refine ⟨_, (pss_cons (ps_if (pt_cmpR op_eq (pv 1) (kFld (K := K) rfl (pv 0)) (nomark _)) (pss_one (ps_ret pe_str)) pss_nil)
    (pss_one (ps_ret pe_str))), ?_⟩
  walk_at "rd"
  walk_at "if"
  all_goals rename_i c
  all_goals walk_at "rd"
  · have c := V.int.inj c
    subst c
    have e : endOf 1 st st = "done" := by unfold endOf; rw [if_neg (by decide), if_pos rfl, if_pos rfl]
    rw [e] at q
    exact q
  · have c : ¬ st = m := fun e => c (congrArg V.int e)
    have e : endOf 1 m st = "" := by unfold endOf; rw [if_neg (by decide), if_neg c]
    rw [e] at q
    exact q
theorem ok_Faller_end {C f : Addr} {fd : FuncData} (F : Fun K "end_at" "Faller.end_at" s_Faller_end_at f fd) (cM : ClsF K C manyN) : FnOk P w K mg base CX0 1 f fd ["self", "steps"] (spEnd C 2) := by
  refine F.ok sc_Faller_end_at (fun vs H Q E h => ?_) (fun cdv A outer s H vs Q E hr h => ?_)
  · obtain ⟨p, dx, n, k, g, sl, m, st, rfl, _⟩ := h
    rfl
  obtain ⟨p, dx, n, k, g, sl, m, st, rfl, hp, q⟩ := h
  refine ⟨_, (pss_cons (ps_if (pt_cmpR op_eq (pv 1) (kFld (K := K) rfl (pv 0)) (nomark _)) (pss_one (ps_ret pe_str)) pss_nil)
    (pss_one (ps_ret pe_str))), ?_⟩
  walk_at "rd"
  walk_at "if"
  all_goals rename_i c
  all_goals walk_at "rd"
  · have c := V.int.inj c
    subst c
    have e : endOf 2 st st = "fallen" := by unfold endOf; rw [if_neg (by decide), if_pos rfl, if_neg (by decide)]
    rw [e] at q
    exact q
  · have c : ¬ st = m := fun e => c (congrArg V.int e)
    have e : endOf 2 m st = "" := by unfold endOf; rw [if_neg (by decide), if_neg c]
    rw [e] at q
    exact q
/-! ### begun again -/
def spAgain (C : Addr) : Sp := fun vs H Q _ => ∃ (p dx : Addr) (fs : List (Str × V)) (k x : Str), vs = [.ref p, .str x] ∧ H p = some (.ins C dx fs) ∧ fs.lookup ("keep" : Str) = some (.str k) ∧ Q (.bl (again k x)) H
theorem ok_again {C f T : Addr} {fd : FuncData} (F : Fun K "begun_again" "Shape.begun_again" s_Shape_begun_again f fd) (c : Cls K C) (nk : NoAttr K C "keep") (hg : mg "FALLS" = some (.ref T)) (hT : ∀ H, SqT K H T [.str "fallen", .str "gave up"]) : FnOk P w K mg base CX0 1 f fd ["self", "word"] (spAgain C) := by
  refine F.ok sc_Shape_begun_again (fun vs H Q E h => ?_) (fun cdv A outer s H vs Q E hr h => ?_)
  · obtain ⟨p, dx, fs, k, x, rfl, _⟩ := h
    rfl
  obtain ⟨p, dx, fs, k, x, rfl, hp, hk, q⟩ := h
  refine ⟨_, (pss_cons (ps_if (pt_cmpR op_eq (kFld (K := K) rfl (pv 0)) pe_str (nomark _)) (pss_one (ps_ret pe_bl)) pss_nil)
    (pss_one (ps_ret (pe_and (pe_cmpR op_eq (kFld (K := K) rfl (pv 0)) pe_str (nomark _)) (pe_one (pe_cmpR (kIn (K := K) rfl) (pv 1) (pe_gv (mg := mg) rfl rfl) rfl)))))), ?_⟩
  walk_at "rd"
  refine w_fld1 hp c nk hk ?_
  walk_at "rd"
  walk_at "if"
  all_goals rename_i k1
  all_goals walk_at "rd"
  · have k1 := V.str.inj k1
    subst k1
    exact q
  have k1 : ¬ k = "always" := fun e => k1 (congrArg V.str e)
  refine w_fld1 hp c nk hk ?_
  walk_at "rd"
  walk_at "if"
  all_goals rename_i k2
  all_goals walk_at "rd"
  · have k2 := V.str.inj k2
    subst k2
    refine w_gv (v := .ref T) hg rfl ?_
    refine w_inT (hT _) rfl rfl ?_
    rw [inV2]
    exact q
  · have k2 : ¬ k = "fallen" := fun e => k2 (congrArg V.str e)
    have e : again k x = false := by unfold again; rw [decide_eq_false k1, decide_eq_false k2]; rfl
    rw [e] at q
    exact q
/-! ### their words -/
def spWork (C : Addr) (kind : Int) : Sp := fun vs H Q _ => ∃ (p dx : Addr) (n k : Str) (g s m : Int), vs = [.ref p] ∧ H p = some (.ins C dx (fieldsOf kind n k g s m)) ∧ Smol m ∧ ∀ r, H r = none → Q (.ref r) (upd H r (.lst ((workOf kind m).map V.str)))
theorem ok_Leaf_work {C f : Addr} {fd : FuncData} (F : Fun K "work" "Leaf.work" s_Leaf_work f fd) : FnOk P w K mg base CX0 1 f fd ["self"] (spWork C 0) := by
  refine F.ok sc_Leaf_work (fun vs H Q E h => ?_) (fun cdv A outer s H vs Q E hr h => ?_)
  · obtain ⟨p, dx, n, k, g, sl, m, rfl, _⟩ := h
    rfl
  obtain ⟨p, dx, n, k, g, sl, m, rfl, hp, hm, q⟩ := h
  refine ⟨_, (pss_one (ps_ret (pe_lst (pa_cons pe_str pa_nil)))), ?_⟩
  walk_at "rd"
  exact ⟨by walk_at "sz", fun r hr => q r hr⟩
theorem ok_Steady_work {C f : Addr} {fd : FuncData} (F : Fun K "work" "Steady.work" s_Steady_work f fd) (T : Bt mg) (cM : ClsF K C manyN) : FnOk P w K mg base CX0 1 f fd ["self"] (spWork C 1) := by
  refine F.ok sc_Steady_work (fun vs H Q E h => ?_) (fun cdv A outer s H vs Q E hr h => ?_)
  · obtain ⟨p, dx, n, k, g, sl, m, rfl, _⟩ := h
    rfl
  obtain ⟨p, dx, n, k, g, sl, m, rfl, hp, hm, q⟩ := h
  refine ⟨_, (pss_one (ps_ret (pe_lst (pa_cons pe_str (pa_cons (pe_callTy call_strI (by rfl) T.str (by decide +kernel) (pa_cons (kFld (K := K) rfl (pv 0)) pa_nil)) pa_nil))))), ?_⟩
  walk_at "rd"
  refine w_strI hm ?_
  walk_at "rd"
  exact ⟨by walk_at "sz", fun r hr => q r hr⟩
theorem ok_Faller_work {C f : Addr} {fd : FuncData} (F : Fun K "work" "Faller.work" s_Faller_work f fd) (T : Bt mg) (cM : ClsF K C manyN) : FnOk P w K mg base CX0 1 f fd ["self"] (spWork C 2) := by
  refine F.ok sc_Faller_work (fun vs H Q E h => ?_) (fun cdv A outer s H vs Q E hr h => ?_)
  · obtain ⟨p, dx, n, k, g, sl, m, rfl, _⟩ := h
    rfl
  obtain ⟨p, dx, n, k, g, sl, m, rfl, hp, hm, q⟩ := h
  refine ⟨_, (pss_one (ps_ret (pe_lst (pa_cons pe_str (pa_cons (pe_callTy call_strI (by rfl) T.str (by decide +kernel) (pa_cons (kFld (K := K) rfl (pv 0)) pa_nil)) pa_nil))))), ?_⟩
  walk_at "rd"
  refine w_strI hm ?_
  walk_at "rd"
  exact ⟨by walk_at "sz", fun r hr => q r hr⟩
def spWords (C : Addr) (kind : Int) : Sp := fun vs H Q _ => ∃ (p dx : Addr) (n k : Str) (g s m : Int), vs = [.ref p] ∧ H p = some (.ins C dx (fieldsOf kind n k g s m)) ∧ Smol g ∧ Smol s ∧ Smol m ∧
  ∀ r H', H r = none → Same H H' → H' r = some (.lst ((wordsOf kind k g s m).map V.str)) → Q (.ref r) H'
theorem leafLook {kind : Int} (h : ¬ kind = 3) (n k : Str) (g s m : Int) : (fieldsOf kind n k g s m).lookup ("keep" : Str) = some (.str k) ∧ (fieldsOf kind n k g s m).lookup ("grace" : Str) = some (.int g) ∧ (fieldsOf kind n k g s m).lookup ("slow" : Str) = some (.int s) ∧ (fieldsOf kind n k g s m).lookup ("work" : Str) = none := by
  unfold fieldsOf
  rw [if_neg h]
  split
  · exact ⟨rfl, rfl, rfl, rfl⟩
  · exact ⟨rfl, rfl, rfl, rfl⟩
theorem ok_Leaf_words {C f : Addr} {fd : FuncData} {kind : Int} (F : Fun K "words" "Leaf.words" s_Leaf_words f fd) (T : Bt mg) (cM : ClsF K C leafN) (hk : ¬ kind = 3) (MW : Mth P w K mg base CX0 C "work" 1 ["self"] [] (spWork C kind)) : FnOk P w K mg base CX0 2 f fd ["self"] (spWords C kind) := by
  refine F.ok sc_Leaf_words (fun vs H Q E h => ?_) (fun cdv A outer s H vs Q E hr h => ?_)
  · obtain ⟨p, dx, n, k, g, sl, m, rfl, _⟩ := h
    rfl
  obtain ⟨p, dx, n, k, g, sl, m, rfl, hp, hg, hs, hm, q⟩ := h
  obtain ⟨l1, l2, l3, l4⟩ := leafLook hk n k g sl m
  refine ⟨_, (pss_one (ps_ret (pe_op op_cat (pe_lst (pa_cons pe_str (pa_cons (kFld (K := K) rfl (pv 0)) (pa_cons (pe_callTy call_strI (by rfl) T.str (by decide +kernel) (pa_cons (kFld (K := K) rfl (pv 0)) pa_nil)) (pa_cons (pe_callTy call_strI (by rfl) T.str (by decide +kernel) (pa_cons (kFld (K := K) rfl (pv 0)) pa_nil)) pa_nil))))) (pe_ma0 (P := P) (w := w) (K := K) (mg := mg) (base := base) ⟨rfl, rfl, rfl, rfl, rfl⟩ hr (pv 0))))), ?_⟩
  walk_at "rd"
  refine w_fld1 hp cM.cl (cM.no _ (by decide)) l1 ?_
  walk_at "rd"
  refine w_fld1 hp cM.cl (cM.no _ (by decide)) l2 ?_
  walk_at "rd"
  refine w_strI hg ?_
  walk_at "rd"
  refine w_fld1 hp cM.cl (cM.no _ (by decide)) l3 ?_
  walk_at "rd"
  refine w_strI hs ?_
  walk_at "rd"
  refine ⟨by walk_at "sz", fun a ha => ?_⟩
  walk_at "rd"
  have s1 : Same H (upd H a (.lst [V.str "leaf", .str k, .str (Str.ofString (toString g)), .str (Str.ofString (toString sl))])) := same_upd (Same.refl _) ha
  have e1 : upd H a (.lst [V.str "leaf", .str k, .str (Str.ofString (toString g)), .str (Str.ofString (toString sl))]) a = _ := upd_same
  generalize upd H a (.lst [V.str "leaf", .str k, .str (Str.ofString (toString g)), .str (Str.ofString (toString sl))]) = H1 at s1 e1
  refine w_ma1 (s1 _ _ hp) cM.cl l4 MW (by decide) ?_
  walk_at "rd"
  refine ⟨p, dx, n, k, g, sl, m, rfl, s1 _ _ hp, hm, fun b hb => ?_⟩
  walk_at "rd"
  have e2 : upd H1 b (.lst ((workOf kind m).map V.str)) a = _ := (upd_ne (ne_of_none e1 hb)).trans e1
  have s2 := same_upd (o := .lst ((workOf kind m).map V.str)) s1 hb
  have lw : (workOf kind m).length ≤ 2 := by
    unfold workOf
    split
    · exact Nat.le_succ 1
    · exact Nat.le_refl 2
  refine w_cat e2 upd_same (by have := sizeLine_eq; rw [List.length_map]; simp only [List.length_cons, List.length_nil]; omega) fun r hr' => ?_
  walk_at "rd"
  refine q r _ (s2.free hr') (same_upd s2 hr') ?_
  rw [upd_same, wordsOf, if_neg hk, List.map_append]
  rfl
theorem ok_Minder_words4 {C f : Addr} {fd : FuncData} (F : Fun K "words" "Minder.words" s_Minder_words f fd) (T : Bt mg) (cM : ClsF K C minN) (MW : Mth P w K mg base CX0 C "way" 1 ["self"] [] (spSay C "one")) :
    FnOk P w K mg base CX0 2 f fd ["self"] (spWords C 3) := by
  refine F.ok sc_Minder_words (fun vs H Q E h => ?_) (fun cdv A outer s H vs Q E hr h => ?_)
  · obtain ⟨p, dx, n, k, g, sl, m, rfl, _⟩ := h
    rfl
  obtain ⟨p, dx, n, k, g, sl, m, rfl, hp, hg, hs, hm, q⟩ := h
  refine ⟨_, (pss_one (ps_ret (pe_lst (pa_cons pe_str (pa_cons (kFld (K := K) rfl (pv 0)) (pa_cons (pe_ma0 (P := P) (w := w) (K := K) (mg := mg) (base := base) ⟨rfl, rfl, rfl, rfl, rfl⟩ hr (pv 0)) (pa_cons (pe_callTy call_strI (by rfl) T.str (by decide +kernel) (pa_cons (kFld (K := K) rfl (pv 0)) pa_nil)) (pa_cons (pe_callTy call_strI (by rfl) T.str (by decide +kernel) (pa_cons (kFld (K := K) rfl (pv 0)) pa_nil)) pa_nil)))))))), ?_⟩
  walk_at "rd"
  refine w_ma1 hp cM.cl (by rfl) MW (by decide) ?_
  walk_at "rd"
  refine ⟨p, dx, _, rfl, hp, ?_⟩
  walk_at "rd"
  refine w_strI hg ?_
  walk_at "rd"
  refine w_strI hs ?_
  walk_at "rd"
  refine ⟨by walk_at "sz", fun r hr => q r _ hr (same_upd (Same.refl _) hr) ?_⟩
  rw [upd_same]
  rfl
end
end Mn

namespace Mn
open PySem L2
section
variable {P : Program} {w : World} {K : PySem.W.Frag} {mg : Str → Option Value} {base : Heap}
def cellAt (ns : List Int) (k : Nat) : Int := ns.getD k 0
def spCell (K : PySem.W.Frag) : Sp := fun vs H Q _ => ∃ (a : Addr) (ns : List Int) (k : Nat), vs = [.ref a, .int (k : Int)] ∧ SqL K H a (ns.map V.int) ∧ ns.length ≤ 1000 ∧ Q (.int (cellAt ns k)) H
theorem ok_cell {f : Addr} {fd : FuncData} (F : Fun K "_law_cell_at" "_law_cell_at" s_law_cell_at f fd) (T : Bt mg) : FnOk P w K mg base CX0 1 f fd ["_law_script", "_law_k"] (spCell K) := by
  refine F.ok sc_law_cell_at (fun vs H Q E h => ?_) (fun cdv A outer s H vs Q E hr h => ?_)
  · obtain ⟨a, ns, k, rfl, _⟩ := h
    rfl
  obtain ⟨a, ns, k, rfl, hS, h1, q⟩ := h
  unfold cellAt at q
  refine ⟨_, (pss_cons (ps_if (pt_cmpR op_lt (pv 1) (pe_callB (kLenL (K := K) rfl) (by rfl) T.len (by decide +kernel) (pa_cons (pv 0) pa_nil)) (nomark _)) (pss_one (ps_ret (pe_ix (kIxL (K := K) rfl) (pv 0) (pv 1) (fun _ _ => rfl)))) pss_nil)
    (pss_one (ps_ret pe_int))), ?_⟩
  walk_at "rd"
  walk_at "if"
  all_goals rename_i c
  all_goals rw [List.length_map] at c
  all_goals walk_at "rd"
  · have e := at_ints (ns := ns) (k := (k : Int)) (by omega) c
    rw [Int.toNat_natCast] at e
    exact w_ixL hS e q
  · have e : ns.getD k 0 = 0 := by simp [List.getD, List.getElem?_eq_none (show ns.length ≤ k by omega)]
    rw [e] at q
    exact q
end
end Mn

namespace Mn
open PySem L2
section
variable {P : Program} {w : World} {K : PySem.W.Frag} {mg : Str → Option Value} {base : Heap}
def clsOf (CL CS CF CM : Addr) (kind : Int) : Addr := if kind = 0 then CL else if kind = 1 then CS else if kind = 2 then CF else CM
def spMade (CL CS CF CM : Addr) : Sp := fun vs H Q _ => ∃ (kind : Int) (keep : Str) (m g s told : Int), vs = [.int kind, .str keep, .int m, .int g, .int s, .int told] ∧ 0 ≤ kind ∧ kind < 4 ∧ 0 ≤ told ∧ told < 3 ∧
  (kind < 3 → told = 0 → g = 0) ∧ (kind < 3 → told < 2 → s = 0) ∧ ∀ p dx H', H p = none → Same H H' → H' p = some (.ins (clsOf CL CS CF CM kind) dx (fieldsOf kind "qa" keep g s m)) → Q (.ref p) H'
theorem same_make {H : Hp} {x dx : Addr} {o o' o'' : HO} (nx : H x = none) (nd : H dx = none) (hne : dx ≠ x) : Same H (upd (upd (upd H dx o) x o') x o'') := fun b u e => by
  rw [upd_ne (ne_of_none e nx), upd_ne (ne_of_none e nx), upd_ne (ne_of_none e nd)]
  exact e

theorem ok_made {CL CS CF CM f : Addr} {fd : FuncData} (F : Fun K "_law_made" "_law_made" s_law_made f fd) (cL : ClsF K CL leafN)
    (L0 : Mak P w K mg base CX0 "Leaf" CL 2 ["self", "name", "keep", "grace", "slow"] [.int 0, .int 0] (spLeaf K))
    (L1 : Mak P w K mg base CX0 "Leaf" CL 2 ["self", "name", "keep", "grace", "slow"] [.int 0] (spLeaf K))
    (L2 : Mak P w K mg base CX0 "Leaf" CL 2 ["self", "name", "keep", "grace", "slow"] [] (spLeaf K))
    (S0 : Mak P w K mg base CX0 "Steady" CS 3 ["self", "name", "keep", "many", "grace", "slow"] [.int 0, .int 0] (spMany K CS))
    (S1 : Mak P w K mg base CX0 "Steady" CS 3 ["self", "name", "keep", "many", "grace", "slow"] [.int 0] (spMany K CS))
    (S2 : Mak P w K mg base CX0 "Steady" CS 3 ["self", "name", "keep", "many", "grace", "slow"] [] (spMany K CS))
    (F0 : Mak P w K mg base CX0 "Faller" CF 3 ["self", "name", "keep", "many", "grace", "slow"] [.int 0, .int 0] (spMany K CF))
    (F1 : Mak P w K mg base CX0 "Faller" CF 3 ["self", "name", "keep", "many", "grace", "slow"] [.int 0] (spMany K CF))
    (F2 : Mak P w K mg base CX0 "Faller" CF 3 ["self", "name", "keep", "many", "grace", "slow"] [] (spMany K CF))
    (M2 : Mak P w K mg base CX0 "Minder" CM 2 ["self", "name", "keep", "most", "span"] [] (spMinder K CM)) :
    FnOk P w K mg base CX0 5 f fd ["_law_kind", "_law_keep", "_law_many", "_law_grace", "_law_slow", "_law_told"] (spMade CL CS CF CM) := by
  refine F.ok sc_law_made (fun vs H Q E h => ?_) (fun cdv A outer s H vs Q E hr h => ?_)
  · obtain ⟨kind, keep, m, g, sl, told, rfl, _⟩ := h
    rfl
  obtain ⟨kind, keep, m, g, sl, told, rfl, k0, k4, t0', t3, hg, hs, q⟩ := h
  refine ⟨_, (pss_cons (ps_if (pt_cmpR op_eq (pv 0) pe_int (nomark _)) (pss_cons (ps_if (pt_cmpR op_eq (pv 5) pe_int (nomark _)) (pss_one (ps_ret (pe_mka (P := P) (w := w) (K := K) (mg := mg) (base := base) ⟨rfl, rfl, rfl, rfl, rfl⟩ hr rfl (pa_cons pe_str (pa_cons (pv 1) pa_nil))))) pss_nil)
    (pss_cons (ps_if (pt_cmpR op_eq (pv 5) pe_int (nomark _)) (pss_one (ps_ret (pe_mka (P := P) (w := w) (K := K) (mg := mg) (base := base) ⟨rfl, rfl, rfl, rfl, rfl⟩ hr rfl (pa_cons pe_str (pa_cons (pv 1) (pa_cons (pv 3) pa_nil)))))) pss_nil)
    (pss_one (ps_ret (pe_mka (P := P) (w := w) (K := K) (mg := mg) (base := base) ⟨rfl, rfl, rfl, rfl, rfl⟩ hr rfl (pa_cons pe_str (pa_cons (pv 1) (pa_cons (pv 3) (pa_cons (pv 4) pa_nil))))))))) pss_nil)
    (pss_cons (ps_if (pt_cmpR op_eq (pv 0) pe_int (nomark _)) (pss_cons (ps_if (pt_cmpR op_eq (pv 5) pe_int (nomark _)) (pss_one (ps_ret (pe_mka (P := P) (w := w) (K := K) (mg := mg) (base := base) ⟨rfl, rfl, rfl, rfl, rfl⟩ hr rfl (pa_cons pe_str (pa_cons (pv 1) (pa_cons (pv 2) pa_nil)))))) pss_nil)
    (pss_cons (ps_if (pt_cmpR op_eq (pv 5) pe_int (nomark _)) (pss_one (ps_ret (pe_mka (P := P) (w := w) (K := K) (mg := mg) (base := base) ⟨rfl, rfl, rfl, rfl, rfl⟩ hr rfl (pa_cons pe_str (pa_cons (pv 1) (pa_cons (pv 2) (pa_cons (pv 3) pa_nil))))))) pss_nil)
    (pss_one (ps_ret (pe_mka (P := P) (w := w) (K := K) (mg := mg) (base := base) ⟨rfl, rfl, rfl, rfl, rfl⟩ hr rfl (pa_cons pe_str (pa_cons (pv 1) (pa_cons (pv 2) (pa_cons (pv 3) (pa_cons (pv 4) pa_nil)))))))))) pss_nil)
    (pss_cons (ps_if (pt_cmpR op_eq (pv 0) pe_int (nomark _)) (pss_cons (ps_if (pt_cmpR op_eq (pv 5) pe_int (nomark _)) (pss_one (ps_ret (pe_mka (P := P) (w := w) (K := K) (mg := mg) (base := base) ⟨rfl, rfl, rfl, rfl, rfl⟩ hr rfl (pa_cons pe_str (pa_cons (pv 1) (pa_cons (pv 2) pa_nil)))))) pss_nil)
    (pss_cons (ps_if (pt_cmpR op_eq (pv 5) pe_int (nomark _)) (pss_one (ps_ret (pe_mka (P := P) (w := w) (K := K) (mg := mg) (base := base) ⟨rfl, rfl, rfl, rfl, rfl⟩ hr rfl (pa_cons pe_str (pa_cons (pv 1) (pa_cons (pv 2) (pa_cons (pv 3) pa_nil))))))) pss_nil)
    (pss_one (ps_ret (pe_mka (P := P) (w := w) (K := K) (mg := mg) (base := base) ⟨rfl, rfl, rfl, rfl, rfl⟩ hr rfl (pa_cons pe_str (pa_cons (pv 1) (pa_cons (pv 2) (pa_cons (pv 3) (pa_cons (pv 4) pa_nil)))))))))) pss_nil)
    (pss_one (ps_ret (pe_mka (P := P) (w := w) (K := K) (mg := mg) (base := base) ⟨rfl, rfl, rfl, rfl, rfl⟩ hr rfl (pa_cons pe_str (pa_cons (pv 1) (pa_cons (pv 3) (pa_cons (pv 4) pa_nil)))))))))), ?_⟩
  have fin : ∀ {C x dx : Addr} {fs : List (Str × V)}, H x = none → H dx = none → dx ≠ x → C = clsOf CL CS CF CM kind → fs = fieldsOf kind "qa" keep g sl m →
      Q (.ref x) (upd (upd (upd H dx (.own x)) x (.ins C dx [])) x (.ins C dx fs)) := fun {C x dx fs} nx nd hne e1 e2 => by
    subst e1 e2
    exact q x dx _ nx (same_make nx nd hne) upd_same
  walk_at "rd"
  walk_at "if"
  · rename_i w0
    have w0 := V.int.inj w0
    walk_at "rd"
    walk_at "if"
    · rename_i t0
      have t0 := V.int.inj t0
      walk_at "rd"
      refine w_mka L0 (by decide) ?_
      walk_at "rd"
      intro x dx nx nd hne
      exact ⟨x, CL, dx, _, _, _, _, rfl, upd_same, cL, rfl, fin nx nd hne (by rw [w0]; rfl) (by rw [hg (by omega) t0, hs (by omega) (by omega), w0]; rfl)⟩
    rename_i t0
    have t0 : ¬ told = 0 := fun e => t0 (congrArg V.int e)
    walk_at "rd"
    walk_at "if"
    · rename_i t1
      have t1 := V.int.inj t1
      walk_at "rd"
      refine w_mka L1 (by decide) ?_
      walk_at "rd"
      intro x dx nx nd hne
      exact ⟨x, CL, dx, _, _, _, _, rfl, upd_same, cL, rfl, fin nx nd hne (by rw [w0]; rfl) (by rw [hs (by omega) (by omega), w0]; rfl)⟩
    rename_i t1
    have t1 : ¬ told = 1 := fun e => t1 (congrArg V.int e)
    walk_at "rd"
    walk_at "rd"
    refine w_mka L2 (by decide) ?_
    walk_at "rd"
    intro x dx nx nd hne
    exact ⟨x, CL, dx, _, _, _, _, rfl, upd_same, cL, rfl, fin nx nd hne (by rw [w0]; rfl) (by rw [w0]; rfl)⟩
  rename_i u0
  have u0 : ¬ kind = 0 := fun e => u0 (congrArg V.int e)
  walk_at "rd"
  walk_at "if"
  · rename_i w0
    have w0 := V.int.inj w0
    walk_at "rd"
    walk_at "if"
    · rename_i t0
      have t0 := V.int.inj t0
      walk_at "rd"
      refine w_mka S0 (by decide) ?_
      walk_at "rd"
      intro x dx nx nd hne
      exact ⟨x, dx, _, _, _, _, _, rfl, upd_same, rfl, fin nx nd hne (by rw [w0]; rfl) (by rw [hg (by omega) t0, hs (by omega) (by omega), w0]; rfl)⟩
    rename_i t0
    have t0 : ¬ told = 0 := fun e => t0 (congrArg V.int e)
    walk_at "rd"
    walk_at "if"
    · rename_i t1
      have t1 := V.int.inj t1
      walk_at "rd"
      refine w_mka S1 (by decide) ?_
      walk_at "rd"
      intro x dx nx nd hne
      exact ⟨x, dx, _, _, _, _, _, rfl, upd_same, rfl, fin nx nd hne (by rw [w0]; rfl) (by rw [hs (by omega) (by omega), w0]; rfl)⟩
    rename_i t1
    have t1 : ¬ told = 1 := fun e => t1 (congrArg V.int e)
    walk_at "rd"
    walk_at "rd"
    refine w_mka S2 (by decide) ?_
    walk_at "rd"
    intro x dx nx nd hne
    exact ⟨x, dx, _, _, _, _, _, rfl, upd_same, rfl, fin nx nd hne (by rw [w0]; rfl) (by rw [w0]; rfl)⟩
  rename_i u1
  have u1 : ¬ kind = 1 := fun e => u1 (congrArg V.int e)
  walk_at "rd"
  walk_at "if"
  · rename_i w0
    have w0 := V.int.inj w0
    walk_at "rd"
    walk_at "if"
    · rename_i t0
      have t0 := V.int.inj t0
      walk_at "rd"
      refine w_mka F0 (by decide) ?_
      walk_at "rd"
      intro x dx nx nd hne
      exact ⟨x, dx, _, _, _, _, _, rfl, upd_same, rfl, fin nx nd hne (by rw [w0]; rfl) (by rw [hg (by omega) t0, hs (by omega) (by omega), w0]; rfl)⟩
    rename_i t0
    have t0 : ¬ told = 0 := fun e => t0 (congrArg V.int e)
    walk_at "rd"
    walk_at "if"
    · rename_i t1
      have t1 := V.int.inj t1
      walk_at "rd"
      refine w_mka F1 (by decide) ?_
      walk_at "rd"
      intro x dx nx nd hne
      exact ⟨x, dx, _, _, _, _, _, rfl, upd_same, rfl, fin nx nd hne (by rw [w0]; rfl) (by rw [hs (by omega) (by omega), w0]; rfl)⟩
    rename_i t1
    have t1 : ¬ told = 1 := fun e => t1 (congrArg V.int e)
    walk_at "rd"
    walk_at "rd"
    refine w_mka F2 (by decide) ?_
    walk_at "rd"
    intro x dx nx nd hne
    exact ⟨x, dx, _, _, _, _, _, rfl, upd_same, rfl, fin nx nd hne (by rw [w0]; rfl) (by rw [w0]; rfl)⟩
  rename_i u2
  have u2 : ¬ kind = 2 := fun e => u2 (congrArg V.int e)
  walk_at "rd"
  have w0 : kind = 3 := by omega
  walk_at "rd"
  refine w_mka M2 (by decide) ?_
  walk_at "rd"
  intro x dx nx nd hne
  exact ⟨x, dx, _, _, _, _, rfl, upd_same, rfl, fin nx nd hne (by rw [w0]; rfl) (by rw [w0]; rfl)⟩

def spDue : Sp := fun vs H Q _ => ∃ (kind : Int) (keep : Str) (m g s : Int), vs = [.int kind, .str keep, .int m, .int g, .int s] ∧ 0 ≤ kind ∧ kind < 4 ∧ Smol m ∧ Smol g ∧ Smol s ∧
  ∀ r H', H r = none → Same H H' → H' r = some (.lst ((wordsOf kind keep g s m).map V.str)) → Q (.ref r) H'
theorem ok_due {f : Addr} {fd : FuncData} (F : Fun K "_law_words_due" "_law_words_due" s_law_words_due f fd) (T : Bt mg) : FnOk P w K mg base CX0 1 f fd ["_law_kind", "_law_keep", "_law_many", "_law_grace", "_law_slow"] spDue := by
  refine F.ok sc_law_words_due (fun vs H Q E h => ?_) (fun cdv A outer s H vs Q E hr h => ?_)
  · obtain ⟨kind, keep, m, g, sl, rfl, _⟩ := h
    rfl
  obtain ⟨kind, keep, m, g, sl, rfl, k0, k4, hm, hg, hs, q⟩ := h
  refine ⟨_, (pss_cons (ps_if (pt_cmpR op_eq (pv 0) pe_int (nomark _)) (pss_one (ps_ret (pe_lst (pa_cons pe_str (pa_cons (pv 1) (pa_cons pe_str (pa_cons (pe_callTy call_strI (by rfl) T.str (by decide +kernel) (pa_cons (pv 3) pa_nil)) (pa_cons (pe_callTy call_strI (by rfl) T.str (by decide +kernel) (pa_cons (pv 4) pa_nil)) pa_nil)))))))) pss_nil)
    (pss_cons (ps_set (i := 5) sc_law_words_due.nd rfl (Or.inl rfl) (pe_lst (pa_cons pe_str (pa_cons (pv 1) (pa_cons (pe_callTy call_strI (by rfl) T.str (by decide +kernel) (pa_cons (pv 3) pa_nil)) (pa_cons (pe_callTy call_strI (by rfl) T.str (by decide +kernel) (pa_cons (pv 4) pa_nil)) pa_nil))))))
    (pss_cons (ps_if (pt_cmpR op_eq (pv 0) pe_int (nomark _)) (pss_one (ps_ret (pe_op op_cat (pv 5) (pe_lst (pa_cons pe_str pa_nil))))) pss_nil)
    (pss_one (ps_ret (pe_op op_cat (pv 5) (pe_lst (pa_cons (pe_ix (kIxL (K := K) rfl) (pe_lst (pa_cons pe_str (pa_cons pe_str pa_nil))) (pe_op op_sub (pv 0) pe_int) (fun _ _ => rfl)) (pa_cons (pe_callTy call_strI (by rfl) T.str (by decide +kernel) (pa_cons (pv 2) pa_nil)) pa_nil))))))))), ?_⟩
  walk_at "rd"
  walk_at "if"
  · rename_i w3
    have w3 := V.int.inj w3
    subst w3
    walk_at "rd"
    refine w_strI hg ?_
    walk_at "rd"
    refine w_strI hs ?_
    walk_at "rd"
    refine ⟨by walk_at "sz", fun r hr' => q r _ hr' (same_upd (Same.refl _) hr') ?_⟩
    rw [upd_same]
    rfl
  rename_i w3
  have w3 : ¬ kind = 3 := fun e => w3 (congrArg V.int e)
  walk_at "rd"
  refine w_strI hg ?_
  walk_at "rd"
  refine w_strI hs ?_
  walk_at "rd"
  refine ⟨by walk_at "sz", fun a ha => ?_⟩
  have s1 : Same H (upd H a (.lst [V.str "leaf", .str keep, .str (Str.ofString (toString g)), .str (Str.ofString (toString sl))])) := same_upd (Same.refl _) ha
  have e1 : upd H a (.lst [V.str "leaf", .str keep, .str (Str.ofString (toString g)), .str (Str.ofString (toString sl))]) a = _ := upd_same
  generalize upd H a (.lst [V.str "leaf", .str keep, .str (Str.ofString (toString g)), .str (Str.ofString (toString sl))]) = H1 at s1 e1
  walk_at "rd"
  walk_at "if"
  · rename_i w0
    have w0 := V.int.inj w0
    subst w0
    walk_at "rd"
    refine ⟨by walk_at "sz", fun b hb => ?_⟩
    walk_at "rd"
    refine w_cat ((upd_ne (ne_of_none e1 hb)).trans e1) upd_same (by have := sizeLine_eq; simp only [List.length_cons, List.length_nil]; omega) fun r hr' => ?_
    walk_at "rd"
    refine q r _ ((same_upd s1 hb).free hr') (same_upd (same_upd s1 hb) hr') ?_
    rw [upd_same]
    rfl
  rename_i w0
  have w0 : ¬ kind = 0 := fun e => w0 (congrArg V.int e)
  walk_at "rd"
  refine ⟨by walk_at "sz", fun b hb => ?_⟩
  walk_at "rd"
  have hk : ∃ k : Nat, kind - 1 = (k : Int) ∧ ([V.str "steady", .str "falls"])[k]? = some (V.str (if kind = 1 then "steady" else "falls")) := by
    have : kind = 1 ∨ kind = 2 := by omega
    rcases this with rfl | rfl
    · exact ⟨0, rfl, rfl⟩
    · exact ⟨1, rfl, rfl⟩
  obtain ⟨k, ek, el⟩ := hk
  refine w_ixL (SqL.of upd_same) (at_nat ek el) ?_
  have s2 : Same H (upd H1 b (.lst [V.str "steady", .str "falls"])) := same_upd s1 hb
  have e2 := (upd_ne (o := .lst [V.str "steady", .str "falls"]) (ne_of_none e1 hb)).trans e1
  generalize upd H1 b (.lst [V.str "steady", .str "falls"]) = H2 at s2 e2
  walk_at "rd"
  refine w_strI hm ?_
  walk_at "rd"
  refine ⟨by walk_at "sz", fun c hc => ?_⟩
  walk_at "rd"
  refine w_cat ((upd_ne (ne_of_none e2 hc)).trans e2) upd_same (by have := sizeLine_eq; simp only [List.length_cons, List.length_nil]; omega) fun r hr' => ?_
  walk_at "rd"
  refine q r _ ((same_upd s2 hc).free hr') (same_upd (same_upd s2 hc) hr') ?_
  rw [upd_same, wordsOf, if_neg w3, workOf, if_neg w0]
  rfl
end
/-- what the walk asks of a kind's class -/
structure ShK (P : Program) (w : World) (K : PySem.W.Frag) (mg : Str → Option Value) (base : Heap) (kind : Int) (C : Addr) : Prop where
  cl : Cls K C
  wd : Mth P w K mg base CX0 C "words" 2 ["self"] [] (spWords C kind)
  lf : Mth P w K mg base CX0 C "leaf" 1 ["self"] [] (spTruth C (decide (kind < 3)))
  ag : Mth P w K mg base CX0 C "begun_again" 1 ["self", "word"] [] (spAgain C)
  en : kind < 3 → Mth P w K mg base CX0 C "end_at" 1 ["self", "steps"] [] (spEnd C kind)
theorem fields_no {kind : Int} (h0 : 0 ≤ kind) (h4 : kind < 4) (n k : Str) (g s m : Int) : (fieldsOf kind n k g s m).lookup ("words" : Str) = none ∧ (fieldsOf kind n k g s m).lookup ("leaf" : Str) = none ∧ (fieldsOf kind n k g s m).lookup ("begun_again" : Str) = none ∧
    (fieldsOf kind n k g s m).lookup ("end_at" : Str) = none ∧ (fieldsOf kind n k g s m).lookup ("keep" : Str) = some (.str k) := by
  have : kind = 0 ∨ kind = 1 ∨ kind = 2 ∨ kind = 3 := by omega
  rcases this with rfl | rfl | rfl | rfl
  · exact ⟨rfl, rfl, rfl, rfl, rfl⟩
  · exact ⟨rfl, rfl, rfl, rfl, rfl⟩
  · exact ⟨rfl, rfl, rfl, rfl, rfl⟩
  · exact ⟨rfl, rfl, rfl, rfl, rfl⟩
theorem okStrs_app {a b : List Str} (h : okStrs a = true) (t : okStrs b = true) : okStrs (a ++ b) = true := by
  simp only [okStrs, List.all_append, Bool.and_eq_true] at h t ⊢
  exact ⟨h, t⟩
theorem okWords {kind : Int} {k : Str} {g s m : Int} (hk : PyData.strOk k = true) : okStrs (wordsOf kind k g s m) = true := by
  unfold wordsOf
  split
  · exact okStrs_cons (strOk_of _) (okStrs_cons hk (okStrs_cons (strOk_of _) (okStrs_cons (strOk_of _) (okStrs_cons (strOk_of _) rfl))))
  · refine okStrs_app (okStrs_cons (strOk_of _) (okStrs_cons hk (okStrs_cons (strOk_of _) (okStrs_cons (strOk_of _) rfl)))) ?_
    unfold workOf
    split
    · exact okStrs_cons (strOk_of _) rfl
    · refine okStrs_cons ?_ (okStrs_cons (strOk_of _) rfl)
      split <;> exact strOk_of _
theorem lenWords {kind : Int} {k : Str} {g s m : Int} : (wordsOf kind k g s m).length ≤ 6 := by
  unfold wordsOf
  split
  · exact Nat.le_succ 5
  · rw [List.length_append]
    have lw : (workOf kind m).length ≤ 2 := by
      unfold workOf
      split
      · exact Nat.le_succ 1
      · exact Nat.le_refl 2
    show 4 + _ ≤ 6
    omega
section
variable {P : Program} {w : World} {K : PySem.W.Frag} {mg : Str → Option Value} {base : Heap}
def spSays (K : PySem.W.Frag) (CL CS CF CM : Addr) : Sp := fun vs H Q _ => ∃ (r dx a : Addr) (kind : Int) (n k : Str) (g s m : Int), vs = [.ref r, .ref a] ∧ 0 ≤ kind ∧ kind < 4 ∧ H r = some (.ins (clsOf CL CS CF CM kind) dx (fieldsOf kind n k g s m)) ∧
  SqL K H a ((wordsOf kind k g s m).map V.str) ∧ PyData.strOk k = true ∧ Smol g ∧ Smol s ∧ Smol m ∧ ∀ H', Same H H' → Q (.bl true) H'
theorem ok_says {CL CS CF CM f : Addr} {fd : FuncData} (F : Fun K "_law_says" "_law_says" s_law_says f fd) (T : Bt mg) (SK : ∀ kind : Int, 0 ≤ kind → kind < 4 → ShK P w K mg base kind (clsOf CL CS CF CM kind)) :
    FnOk P w K mg base CX0 3 f fd ["_law_shape", "_law_due"] (spSays K CL CS CF CM) := by
  refine F.ok sc_law_says (fun vs H Q E h => ?_) (fun cdv A outer s H vs Q E hr h => ?_)
  · obtain ⟨r, dx, a, kind, n, k, g, sl, m, rfl, _⟩ := h
    rfl
  obtain ⟨r, dx, a, kind, n, k, g, sl, m, rfl, k0, k4, hp, hA, ok, hg, hs, hm, q⟩ := h
  have sk := SK kind k0 k4
  obtain ⟨l1, l2, l3, l4, l5⟩ := fields_no k0 k4 n k g sl m
  have okw : okStrs (wordsOf kind k g sl m) = true := okWords ok
  have len : (wordsOf kind k g sl m).length ≤ 6 := lenWords
  refine ⟨_, (pss_cons (ps_set (i := 2) sc_law_says.nd rfl (Or.inl rfl) (pe_ma0 (P := P) (w := w) (K := K) (mg := mg) (base := base) ⟨rfl, rfl, rfl, rfl, rfl⟩ hr (pv 0)))
    (pss_cons (ps_if (PW.pt (pw_or (pt_not (pt_val (pe_callB (kIsi (K := K) rfl) (by rfl) T.isinstance (by decide +kernel) (pa_cons (pv 2) (pa_cons (pe_bltn (v := .ty "list") (u := .type "list") rfl T.list (by decide +kernel) rfl) pa_nil))))) (pw_or1 (pt_cmpR (kNeS (K := K) rfl hr.units) (pv 2) (pv 1) (nomark _))))) (pss_one (ps_ret pe_bl)) pss_nil)
    (pss_cons (ps_expr (kBm (K := K) rfl PySem.F.plainAttrs_list PySem.F.slot_list_append PySem.F.type_list_append mt_append (pv 2) (pa_cons pe_str pa_nil)))
    (pss_one (ps_ret (pe_cmpR (kEqS (K := K) rfl hr.units) (pe_ma0 (P := P) (w := w) (K := K) (mg := mg) (base := base) ⟨rfl, rfl, rfl, rfl, rfl⟩ hr (pv 0)) (pv 1) (nomark _))))))), ?_⟩
  walk_at "rd"
  refine w_ma1 hp sk.cl l1 sk.wd (by decide) ?_
  walk_at "rd"
  refine ⟨r, dx, n, k, g, sl, m, rfl, hp, hg, hs, hm, fun f1 H1 nf1 s1 ef1 => ?_⟩
  walk_at "rd"
  refine w_isi (TyX.base (TyOf.lst ef1)) kit_ll ?_
  walk_at "rd"
  walk_at "if"
  · rename_i z; cases z
  rename_i z; clear z
  walk_at "rd"
  refine w_neLS (SqL.of ef1) (s1.seq hA) okw okw ?_
  walk_at "rd"
  walk_at "if"
  · rename_i z; exact absurd rfl z
  rename_i z; clear z
  walk_at "rd"
  have s2 : Same H (upd H1 f1 (.lst ((wordsOf kind k g sl m).map V.str ++ [V.str ""]))) := same_mut s1 nf1
  generalize upd H1 f1 (.lst ((wordsOf kind k g sl m).map V.str ++ [V.str ""])) = H2 at s2
  refine w_ma1 (s2 _ _ hp) sk.cl l1 sk.wd (by decide) ?_
  walk_at "rd"
  refine ⟨r, dx, n, k, g, sl, m, rfl, s2 _ _ hp, hg, hs, hm, fun f2 H3 nf2 s3 ef2 => ?_⟩
  walk_at "rd"
  refine w_eqLS (SqL.of ef2) ((s2.trans s3).seq hA) okw okw ?_
  rw [decide_eq_true rfl]
  exact q _ (s2.trans s3)
end
end Mn

namespace Mn
open PySem L2
section
variable {P : Program} {w : World} {K : PySem.W.Frag} {mg : Str → Option Value} {base : Heap}
def spLaw (K : PySem.W.Frag) : Sp := fun vs H Q _ => ∃ (a : Addr) (ns : List Int), vs = [.ref a] ∧ SqL K H a (ns.map V.int) ∧ ns.length ≤ 63 ∧ ∀ H', Q (.bl true) H'
def keepOf (i : Int) : Str := if i = 0 then "always" else if i = 1 then "fallen" else "never"
theorem strOk_keep (i : Int) : PyData.strOk (keepOf i) = true := by
  unfold keepOf
  split
  · exact strOk_of _
  · split <;> exact strOk_of _
theorem smol_mod (c : Int) {n : Int} (h0 : 0 < n) (h : n ≤ 2000000) : Smol (c % n) := smol_of (by
  have h1 := Int.emod_nonneg c (show n ≠ 0 by omega)
  have h2 := Int.emod_lt_of_pos c h0
  omega)
theorem ok_law {CL CS CF CM f : Addr} {fd : FuncData} (F : Fun K "law" "law" s_law f fd) (T : Bt mg) (SK : ∀ kind : Int, 0 ≤ kind → kind < 4 → ShK P w K mg base kind (clsOf CL CS CF CM kind)) (C0 : Cal P w K mg base CX0 "_law_cell_at" 1 ["_law_script", "_law_k"] [] (spCell K))
    (CMd : Cal P w K mg base CX0 "_law_made" 5 ["_law_kind", "_law_keep", "_law_many", "_law_grace", "_law_slow", "_law_told"] [] (spMade CL CS CF CM)) (CD : Cal P w K mg base CX0 "_law_words_due" 1 ["_law_kind", "_law_keep", "_law_many", "_law_grace", "_law_slow"] [] spDue)
    (CY : Cal P w K mg base CX0 "_law_says" 3 ["_law_shape", "_law_due"] [] (spSays K CL CS CF CM)) :
    FnOk P w K mg base CX0 6 f fd ["_law_script"] (spLaw K) := by
  refine F.ok sc_law (fun vs H Q E h => ?_) (fun cdv A outer s H vs Q E hr h => ?_)
  · obtain ⟨a, ns, rfl, _⟩ := h
    rfl
  obtain ⟨a, ns, rfl, hS, hz, q⟩ := h
  refine ⟨_, (pss_cons (ps_set (i := 1) sc_law.nd rfl (Or.inl rfl) (pe_ca (P := P) (w := w) (K := K) (mg := mg) (base := base) ⟨rfl, rfl, rfl, rfl, rfl⟩ hr rfl (pa_cons (pv 0) (pa_cons pe_int pa_nil))))
    (pss_cons (ps_set (i := 2) sc_law.nd rfl (Or.inl rfl) (pe_op op_mod (pv 1) pe_int))
    (pss_cons (ps_set (i := 3) sc_law.nd rfl (Or.inl rfl) (pe_ix (kIxL (K := K) rfl) (pe_lst (pa_cons pe_str (pa_cons pe_str (pa_cons pe_str pa_nil)))) (pe_op op_mod (pe_op op_fdiv (pv 1) pe_int) pe_int) (fun _ _ => rfl)))
    (pss_cons (ps_set (i := 4) sc_law.nd rfl (Or.inl rfl) (pe_op op_mod (pe_op op_fdiv (pv 1) pe_int) pe_int))
    (pss_cons (ps_set (i := 5) sc_law.nd rfl (Or.inl rfl) (pe_op op_mod (pe_ca (P := P) (w := w) (K := K) (mg := mg) (base := base) ⟨rfl, rfl, rfl, rfl, rfl⟩ hr rfl (pa_cons (pv 0) (pa_cons pe_int pa_nil))) pe_int))
    (pss_cons (ps_set (i := 6) sc_law.nd rfl (Or.inl rfl) (pe_op op_mod (pe_ca (P := P) (w := w) (K := K) (mg := mg) (base := base) ⟨rfl, rfl, rfl, rfl, rfl⟩ hr rfl (pa_cons (pv 0) (pa_cons pe_int pa_nil))) pe_int))
    (pss_cons (ps_set (i := 7) sc_law.nd rfl (Or.inl rfl) (pe_op op_mod (pe_ca (P := P) (w := w) (K := K) (mg := mg) (base := base) ⟨rfl, rfl, rfl, rfl, rfl⟩ hr rfl (pa_cons (pv 0) (pa_cons pe_int pa_nil))) pe_int))
    (C8.pss_cut (ps_if (pt_cmpR op_eq (pv 2) pe_int (nomark _)) (pss_one (ps_set (i := 7) sc_law.nd rfl (Or.inl rfl) (pe_op op_add pe_int (pe_op op_mod (pe_ca (P := P) (w := w) (K := K) (mg := mg) (base := base) ⟨rfl, rfl, rfl, rfl, rfl⟩ hr rfl (pa_cons (pv 0) (pa_cons pe_int pa_nil))) pe_int)))) pss_nil)
    (C8.pss_cut (ps_if (PW.pt (pw_and (pt_cmpR op_lt (pv 2) pe_int (nomark _)) (pw_and1 (pt_cmpR op_eq (pv 4) pe_int (nomark _))))) (pss_one (ps_set (i := 6) sc_law.nd rfl (Or.inl rfl) pe_int)) pss_nil)
    (C8.pss_cut (ps_if (PW.pt (pw_and (pt_cmpR op_lt (pv 2) pe_int (nomark _)) (pw_and1 (pt_cmpR op_lt (pv 4) pe_int (nomark _))))) (pss_one (ps_set (i := 7) sc_law.nd rfl (Or.inl rfl) pe_int)) pss_nil)
    (pss_cons (ps_set (i := 8) sc_law.nd rfl (Or.inl rfl) (pe_ca (P := P) (w := w) (K := K) (mg := mg) (base := base) ⟨rfl, rfl, rfl, rfl, rfl⟩ hr rfl (pa_cons (pv 2) (pa_cons (pv 3) (pa_cons (pv 5) (pa_cons (pv 6) (pa_cons (pv 7) (pa_cons (pv 4) pa_nil))))))))
    (pss_cons (ps_for PassesOwn.never rfl (kPiL (K := K) rfl (pe_lst (pa_cons pe_str (pa_cons pe_str (pa_cons pe_str (pa_cons pe_str (pa_cons pe_str pa_nil))))))) (pg_name (i := 9) sc_law.nd rfl (Or.inl rfl)) (pss_cons (ps_set (i := 10) sc_law.nd rfl (Or.inl rfl) (pe_or (pe_cmpR op_eq (pv 3) pe_str (nomark _)) (pe_one (pe_and (pe_cmpR op_eq (pv 3) pe_str (nomark _)) (pe_one (pe_cmpR (kIn (K := K) rfl) (pv 9) (pe_tup (pa_cons pe_str (pa_cons pe_str pa_nil))) rfl))))))
    (pss_cons (ps_set (i := 11) sc_law.nd rfl (Or.inl rfl) (pe_ma (P := P) (w := w) (K := K) (mg := mg) (base := base) ⟨rfl, rfl, rfl, rfl, rfl⟩ hr (pv 8) (pa_cons (pv 9) pa_nil)))
    (pss_one (ps_if (PW.pt (pw_or (pt_not (pt_val (pe_callB (kIsi (K := K) rfl) (by rfl) T.isinstance (by decide +kernel) (pa_cons (pv 11) (pa_cons (pe_bltn (v := .ty "bool") (u := .type "bool") rfl T.bool (by decide +kernel) rfl) pa_nil))))) (pw_or1 (pt_cmpR op_ne (pv 11) (pv 10) (nomark _))))) (pss_one (ps_ret pe_bl)) pss_nil)))))
    (pss_cons (ps_set (i := 11) sc_law.nd rfl (Or.inl rfl) (pe_ma0 (P := P) (w := w) (K := K) (mg := mg) (base := base) ⟨rfl, rfl, rfl, rfl, rfl⟩ hr (pv 8)))
    (pss_cons (ps_if (PW.pt (pw_or (pt_not (pt_val (pe_callB (kIsi (K := K) rfl) (by rfl) T.isinstance (by decide +kernel) (pa_cons (pv 11) (pa_cons (pe_bltn (v := .ty "bool") (u := .type "bool") rfl T.bool (by decide +kernel) rfl) pa_nil))))) (pw_or1 (pt_cmpR op_ne (pv 11) (pe_cmpR op_lt (pv 2) pe_int (nomark _)) (nomark _))))) (pss_one (ps_ret pe_bl)) pss_nil)
    (pss_cons (ps_if (pt_not (pt_val (pe_ca (P := P) (w := w) (K := K) (mg := mg) (base := base) ⟨rfl, rfl, rfl, rfl, rfl⟩ hr rfl (pa_cons (pv 8) (pa_cons (pe_ca (P := P) (w := w) (K := K) (mg := mg) (base := base) ⟨rfl, rfl, rfl, rfl, rfl⟩ hr rfl (pa_cons (pv 2) (pa_cons (pv 3) (pa_cons (pv 5) (pa_cons (pv 6) (pa_cons (pv 7) pa_nil)))))) pa_nil))))) (pss_one (ps_ret pe_bl)) pss_nil)
    (pss_cons (ps_if (pt_cmpR op_eq (pv 2) pe_int (nomark _)) (pss_one (ps_ret pe_bl)) pss_nil)
    (pss_cons (ps_set (i := 12) sc_law.nd rfl (Or.inl rfl) (pv 5))
    (C8.pss_cut (ps_if (pt_cmpR op_eq (pv 2) pe_int (nomark _)) (pss_one (ps_set (i := 12) sc_law.nd rfl (Or.inl rfl) pe_int)) pss_nil)
    (pss_cons (ps_for PassesOwn.never rfl (kPiL (K := K) rfl (pe_lst (pa_cons (pv 5) (pa_cons (pe_callB (call_maxI rfl) (by rfl) T.max (by decide +kernel) (pa_cons pe_int (pa_cons (pe_op op_sub (pv 5) (pe_op op_mod (pe_ca (P := P) (w := w) (K := K) (mg := mg) (base := base) ⟨rfl, rfl, rfl, rfl, rfl⟩ hr rfl (pa_cons (pv 0) (pa_cons pe_int pa_nil))) pe_int)) pa_nil))) (pa_cons (pe_op op_mod (pe_ca (P := P) (w := w) (K := K) (mg := mg) (base := base) ⟨rfl, rfl, rfl, rfl, rfl⟩ hr rfl (pa_cons (pv 0) (pa_cons pe_int pa_nil))) (pe_op op_add (pv 12) pe_int)) pa_nil))))) (pg_name (i := 13) sc_law.nd rfl (Or.inl rfl)) (pss_cons (ps_set (i := 10) sc_law.nd rfl (Or.inl rfl) pe_str)
    (C8.pss_cut (ps_if (PW.pt (pw_and (pt_cmpR op_eq (pv 13) (pv 5) (nomark _)) (pw_and1 (pt_cmpR op_gt (pv 2) pe_int (nomark _))))) (pss_one (ps_set (i := 10) sc_law.nd rfl (Or.inl rfl) (pe_ix (kIxL (K := K) rfl) (pe_lst (pa_cons pe_str (pa_cons pe_str pa_nil))) (pe_op op_sub (pv 2) pe_int) (fun _ _ => rfl)))) pss_nil)
    (pss_cons (ps_set (i := 11) sc_law.nd rfl (Or.inl rfl) (pe_ma (P := P) (w := w) (K := K) (mg := mg) (base := base) ⟨rfl, rfl, rfl, rfl, rfl⟩ hr (pv 8) (pa_cons (pv 13) pa_nil)))
    (pss_one (ps_if (PW.pt (pw_or (pt_not (pt_val (pe_callB (kIsi (K := K) rfl) (by rfl) T.isinstance (by decide +kernel) (pa_cons (pv 11) (pa_cons (pe_bltn (v := .ty "str") (u := .type "str") rfl T.str (by decide +kernel) rfl) pa_nil))))) (pw_or1 (pt_cmpR op_ne (pv 11) (pv 10) (nomark _))))) (pss_one (ps_ret pe_bl)) pss_nil))))))
    (pss_one (ps_ret pe_bl))))))))))))))))))))), ?_⟩
  have hz2 : ns.length ≤ 1000 := by omega
  walk_at "rd"
  refine w_ca C0 (by decide) ?_
  walk_at "rd"
  refine ⟨a, ns, 0, rfl, hS, hz2, ?_⟩
  walk_at "rd"
  have k0 : 0 ≤ cellAt ns 0 % 4 := Int.emod_nonneg _ (by decide)
  have k4 : cellAt ns 0 % 4 < 4 := Int.emod_lt_of_pos _ (by decide)
  generalize cellAt ns 0 % 4 = kind at k0 k4
  have ii0 : 0 ≤ cellAt ns 0 / 4 % 3 := Int.emod_nonneg _ (by decide)
  have ii3 : cellAt ns 0 / 4 % 3 < 3 := Int.emod_lt_of_pos _ (by decide)
  have hk : ∃ k : Nat, cellAt ns 0 / 4 % 3 = (k : Int) ∧ ([V.str "always", .str "fallen", .str "never"])[k]? = some (V.str (keepOf (cellAt ns 0 / 4 % 3))) := by
    generalize cellAt ns 0 / 4 % 3 = i at ii0 ii3
    have : i = 0 ∨ i = 1 ∨ i = 2 := by omega
    rcases this with rfl | rfl | rfl
    · exact ⟨0, rfl, rfl⟩
    · exact ⟨1, rfl, rfl⟩
    · exact ⟨2, rfl, rfl⟩
  obtain ⟨ik, eik, el⟩ := hk
  refine ⟨by walk_at "sz", fun r0 n0 => ?_⟩
  walk_at "rd"
  refine w_ixL (SqL.of upd_same) (at_nat eik el) ?_
  have okk := strOk_keep (cellAt ns 0 / 4 % 3)
  generalize keepOf (cellAt ns 0 / 4 % 3) = keep at okk
  have s0 : Same H (upd H r0 (.lst [V.str "always", .str "fallen", .str "never"])) := same_upd (Same.refl _) n0
  generalize upd H r0 (.lst [V.str "always", .str "fallen", .str "never"]) = H0 at s0
  walk_at "rd"
  have t0 : 0 ≤ cellAt ns 0 / 12 % 3 := Int.emod_nonneg _ (by decide)
  have t3 : cellAt ns 0 / 12 % 3 < 3 := Int.emod_lt_of_pos _ (by decide)
  refine w_ca C0 (by decide) ?_
  walk_at "rd"
  refine ⟨a, ns, 1, rfl, s0.seq hS, hz2, ?_⟩
  walk_at "rd"
  refine w_ca C0 (by decide) ?_
  walk_at "rd"
  refine ⟨a, ns, 2, rfl, s0.seq hS, hz2, ?_⟩
  walk_at "rd"
  refine w_ca C0 (by decide) ?_
  walk_at "rd"
  refine ⟨a, ns, 3, rfl, s0.seq hS, hz2, ?_⟩
  walk_at "rd"
  have hm : Smol (cellAt ns 1 % 1000001) := smol_mod _ (by decide) (by decide)
  have m0 : 0 ≤ cellAt ns 1 % 1000001 := Int.emod_nonneg _ (by decide)
  have hg : Smol (cellAt ns 2 % 1000001) := smol_mod _ (by decide) (by decide)
  have hs : Smol (cellAt ns 3 % 1000001) := smol_mod _ (by decide) (by decide)
  generalize cellAt ns 1 % 1000001 = many at hm m0
  generalize cellAt ns 2 % 1000001 = g at hg
  generalize cellAt ns 3 % 1000001 = sl at hs
  generalize cellAt ns 0 / 12 % 3 = told at t0 t3
  -- slow of a minder
  refine w_cut (fun σ H' => ∃ sl' : Int, σ = [some (.ref a), some (.int (cellAt ns 0)), some (.int kind), some (.str keep), some (.int told), some (.int many), some (.int g), some (.int sl'), none, none, none, none, none, none] ∧ H0 = H' ∧ Smol sl') ?_ (fun σ H' hm' => ?_)
  · walk_at "rd"
    walk_at "if"
    all_goals rename_i c
    all_goals walk_at "rd"
    · refine w_ca C0 (by decide) ?_
      walk_at "rd"
      refine ⟨a, ns, 3, rfl, s0.seq hS, hz2, ?_⟩
      walk_at "rd"
      refine ⟨_, rfl, rfl, smol_of ?_⟩
      have h1 := Int.emod_nonneg (cellAt ns 3) (show (1000000 : Int) ≠ 0 by decide)
      have h2 := Int.emod_lt_of_pos (cellAt ns 3) (show (0 : Int) < 1000000 by decide)
      omega
    · exact ⟨_, rfl, rfl, hs⟩
  clear hs
  obtain ⟨sl', rfl, rfl, hs⟩ := hm'
  clear sl
  -- grace not told
  refine w_cut (fun σ H' => ∃ g' : Int, σ = [some (.ref a), some (.int (cellAt ns 0)), some (.int kind), some (.str keep), some (.int told), some (.int many), some (.int g'), some (.int sl'), none, none, none, none, none, none] ∧ H0 = H' ∧ Smol g' ∧ (kind < 3 → told = 0 → g' = 0)) ?_ (fun σ H' hm' => ?_)
  · walk_at "rd"
    walk_at "if"
    all_goals rename_i c
    all_goals walk_at "rd"
    · walk_at "if"
      all_goals rename_i c2
      all_goals walk_at "rd"
      · exact ⟨0, rfl, rfl, smol_of (by decide), fun _ _ => rfl⟩
      · exact ⟨_, rfl, rfl, hg, fun _ e => absurd (congrArg V.int e) c2⟩
    · exact ⟨_, rfl, rfl, hg, fun e _ => absurd e c⟩
  clear hg
  obtain ⟨g', rfl, rfl, hg, eg⟩ := hm'
  refine w_cut (fun σ H' => ∃ sl : Int, σ = [some (.ref a), some (.int (cellAt ns 0)), some (.int kind), some (.str keep), some (.int told), some (.int many), some (.int g'), some (.int sl), none, none, none, none, none, none] ∧ H0 = H' ∧ Smol sl ∧ (kind < 3 → told < 2 → sl = 0)) ?_ (fun σ H' hm' => ?_)
  · walk_at "rd"
    walk_at "if"
    all_goals rename_i c
    all_goals walk_at "rd"
    · walk_at "if"
      all_goals rename_i c2
      all_goals walk_at "rd"
      · exact ⟨0, rfl, rfl, smol_of (by decide), fun _ _ => rfl⟩
      · exact ⟨_, rfl, rfl, hs, fun _ e => absurd e c2⟩
    · exact ⟨_, rfl, rfl, hs, fun e _ => absurd e c⟩
  clear hs
  obtain ⟨sl, rfl, rfl, hs, es⟩ := hm'
  clear sl' g
  walk_at "rd"
  refine w_ca CMd (by decide) ?_
  walk_at "rd"
  refine ⟨kind, keep, many, g', sl, told, rfl, k0, k4, t0, t3, eg, es, fun p dx H1 np s1 ep => ?_⟩
  walk_at "rd"
  have sk := SK kind k0 k4
  obtain ⟨l1, l2, l3, l4, l5⟩ := fields_no k0 k4 "qa" keep g' sl many
  have s01 := s0.trans s1
  refine ⟨by walk_at "sz", fun r1 n1 => ?_⟩
  have s2 : Same H (upd H1 r1 (.lst [V.str "done", .str "fallen", .str "gave up", .str "ended", .str "cut"])) := same_upd s01 n1
  have er1 : upd H1 r1 (.lst [V.str "done", .str "fallen", .str "gave up", .str "ended", .str "cut"]) r1 = _ := upd_same
  have ep2 := (upd_ne (o := .lst [V.str "done", .str "fallen", .str "gave up", .str "ended", .str "cut"]) (ne_of_none ep n1)).trans ep
  generalize upd H1 r1 (.lst [V.str "done", .str "fallen", .str "gave up", .str "ended", .str "cut"]) = H2 at s2 er1 ep2
  refine w_forL (fun i σ H' => ∃ v9 v10 v11, σ = [some (.ref a), some (.int (cellAt ns 0)), some (.int kind), some (.str keep), some (.int told), some (.int many), some (.int g'), some (.int sl), some (.ref p), v9, v10, v11, none, none] ∧ Same H2 H') (SqL.of er1) ⟨none, none, none, rfl, Same.refl _⟩ (fun i σ H' _ pv => ?_) (fun i x σ H' hx pv => ?_) (fun σ H' pv => ?_)
  · obtain ⟨_, _, _, _, s3⟩ := pv
    exact SqL.of (s3 _ _ er1)
  · obtain ⟨v9, v10, v11, rfl, s3⟩ := pv
    have ex : ∃ wd, x = V.str wd := by
      have := List.mem_of_getElem? hx
      simp only [List.mem_cons, List.not_mem_nil, or_false] at this
      rcases this with rfl | rfl | rfl | rfl | rfl <;> exact ⟨_, rfl⟩
    obtain ⟨wd, rfl⟩ := ex
    walk_at "rd"
    walk_at "if"
    all_goals rename_i c
    all_goals walk_at "rd"
    · have hb : again keep wd = true := by unfold again; rw [decide_eq_true (V.str.inj c)]; rfl
      refine w_ma1 (s3 _ _ ep2) sk.cl l3 sk.ag (by decide) ?_
      walk_at "rd"
      refine ⟨p, dx, _, keep, wd, rfl, s3 _ _ ep2, l5, ?_⟩
      rw [hb]
      walk_at "rd"
      refine w_isi (TyX.base (TyOf.bl _)) kit_bb ?_
      walk_at "rd"
      walk_at "if"
      · rename_i z; cases z
      rename_i z; clear z
      walk_at "rd"
      walk_at "if"
      · rename_i z; exact absurd rfl z
      walk_at "rd"
      exact ⟨_, _, _, rfl, s3⟩
    · have c : ¬ keep = "always" := fun e => c (congrArg V.str e)
      walk_at "if"
      all_goals rename_i c2
      all_goals walk_at "rd"
      · have c2 := V.str.inj c2
        have hb : again keep wd = (decide (wd = "fallen") || decide (wd = "gave up")) := by unfold again; rw [decide_eq_false c, decide_eq_true c2]; rfl
        refine ⟨by walk_at "sz", fun tt nt => ?_⟩
        refine w_inT (SqT.of upd_same) rfl rfl ?_
        rw [inV2]
        have s4 := same_upd (o := .tup [V.str "fallen", .str "gave up"]) s3 nt
        generalize upd H' tt (.tup [V.str "fallen", .str "gave up"]) = H3 at s4
        walk_at "rd"
        refine w_ma1 (s4 _ _ ep2) sk.cl l3 sk.ag (by decide) ?_
        walk_at "rd"
        refine ⟨p, dx, _, keep, wd, rfl, s4 _ _ ep2, l5, ?_⟩
        rw [hb]
        walk_at "rd"
        refine w_isi (TyX.base (TyOf.bl _)) kit_bb ?_
        walk_at "rd"
        walk_at "if"
        · rename_i z; cases z
        rename_i z; clear z
        walk_at "rd"
        walk_at "if"
        · rename_i z; exact absurd rfl z
        walk_at "rd"
        exact ⟨_, _, _, rfl, s4⟩
      · have c2 : ¬ keep = "fallen" := fun e => c2 (congrArg V.str e)
        have hb : again keep wd = false := by unfold again; rw [decide_eq_false c, decide_eq_false c2]; rfl
        refine w_ma1 (s3 _ _ ep2) sk.cl l3 sk.ag (by decide) ?_
        walk_at "rd"
        refine ⟨p, dx, _, keep, wd, rfl, s3 _ _ ep2, l5, ?_⟩
        rw [hb]
        walk_at "rd"
        refine w_isi (TyX.base (TyOf.bl _)) kit_bb ?_
        walk_at "rd"
        walk_at "if"
        · rename_i z; cases z
        rename_i z; clear z
        walk_at "rd"
        walk_at "if"
        · rename_i z; exact absurd rfl z
        walk_at "rd"
        exact ⟨_, _, _, rfl, s3⟩
  obtain ⟨v9, v10, v11, rfl, s3⟩ := pv
  have ep3 := s3 _ _ ep2
  have s03 := s2.trans s3
  generalize H' = H3 at ep3 s03
  walk_at "rd"
  refine w_ma1 ep3 sk.cl l2 sk.lf (by decide) ?_
  walk_at "rd"
  refine ⟨p, dx, _, rfl, ep3, ?_⟩
  walk_at "rd"
  refine w_isi (TyX.base (TyOf.bl _)) kit_bb ?_
  walk_at "rd"
  walk_at "if"
  · rename_i z; cases z
  rename_i z; clear z
  walk_at "rd"
  walk_at "if"
  · rename_i z; exact absurd rfl z
  rename_i z; clear z
  walk_at "rd"
  refine w_ca CY (by decide) ?_
  walk_at "rd"
  refine w_ca CD (by decide) ?_
  walk_at "rd"
  refine ⟨kind, keep, many, g', sl, rfl, k0, k4, hm, hg, hs, fun d H4 nd s4 ed => ?_⟩
  walk_at "rd"
  refine ⟨p, dx, d, kind, "qa", keep, g', sl, many, rfl, k0, k4, s4 _ _ ep3, SqL.of ed, okk, hg, hs, hm, fun H5 s5 => ?_⟩
  have s45 := s4.trans s5
  have ep5 := s45 _ _ ep3
  have s05 := s03.trans s45
  walk_at "rd"
  walk_at "if"
  · rename_i z; cases z
  rename_i z; clear z
  walk_at "rd"
  walk_at "if"
  · walk_at "rd"
    exact q _
  rename_i w3
  have w3 : ¬ kind = 3 := fun e => w3 (congrArg V.int e)
  have k3 : kind < 3 := by omega
  have se := sk.en k3
  walk_at "rd"
  generalize some (V.bl (decide (kind < 3))) = v11
  refine w_cut (fun σ H' => ∃ mo : Int, σ = [some (.ref a), some (.int (cellAt ns 0)), some (.int kind), some (.str keep), some (.int told), some (.int many), some (.int g'), some (.int sl), some (.ref p), v9, v10, v11, some (.int mo), none] ∧ H5 = H' ∧ 0 ≤ mo) ?_ (fun σ H' hm' => ?_)
  · walk_at "rd"
    walk_at "if"
    all_goals walk_at "rd"
    · exact ⟨_, rfl, rfl, by decide⟩
    · exact ⟨_, rfl, rfl, m0⟩
  obtain ⟨mo, rfl, rfl, hmo⟩ := hm'
  walk_at "rd"
  refine w_ca C0 (by decide) ?_
  walk_at "rd"
  refine ⟨a, ns, 4, rfl, s05.seq hS, hz2, ?_⟩
  walk_at "rd"
  refine w_ca C0 (by decide) ?_
  walk_at "rd"
  refine ⟨a, ns, 5, rfl, s05.seq hS, hz2, ?_⟩
  walk_at "rd"
  refine w_I (show (0 : Int) < mo + 1 by omega) ?_
  walk_at "rd"
  generalize cellAt ns 5 % (mo + 1) = x3
  generalize max 0 (many - cellAt ns 4 % 3) = x2
  refine ⟨by walk_at "sz", fun r6 n6 => ?_⟩
  have er6 : upd H5 r6 (.lst [V.int many, .int x2, .int x3]) r6 = _ := upd_same
  have ep6 := (upd_ne (o := .lst [V.int many, .int x2, .int x3]) (ne_of_none ep5 n6)).trans ep5
  generalize upd H5 r6 (.lst [V.int many, .int x2, .int x3]) = H6 at er6 ep6
  refine w_forL (fun i σ H' => ∃ v10 v11 v13, σ = [some (.ref a), some (.int (cellAt ns 0)), some (.int kind), some (.str keep), some (.int told), some (.int many), some (.int g'), some (.int sl), some (.ref p), v9, v10, v11, some (.int mo), v13] ∧ Same H6 H') (SqL.of er6) ⟨v10, v11, none, rfl, Same.refl _⟩ (fun i σ H' _ pv => ?_) (fun i x σ H' hx pv => ?_) (fun σ H' pv => ?_)
  · obtain ⟨_, _, _, _, s7⟩ := pv
    exact SqL.of (s7 _ _ er6)
  · obtain ⟨v10, v11, v13, rfl, s7⟩ := pv
    have ex : ∃ st, x = V.int st := by
      have := List.mem_of_getElem? hx
      simp only [List.mem_cons, List.not_mem_nil, or_false] at this
      rcases this with rfl | rfl | rfl <;> exact ⟨_, rfl⟩
    obtain ⟨st, rfl⟩ := ex
    walk_at "rd"
    refine w_cut (fun σ H8 => σ = [some (.ref a), some (.int (cellAt ns 0)), some (.int kind), some (.str keep), some (.int told), some (.int many), some (.int g'), some (.int sl), some (.ref p), v9, some (.str (endOf kind many st)), v11, some (.int mo), some (.int st)] ∧ Same H6 H8) ?_ (fun σ H8 hm' => ?_)
    · walk_at "rd"
      walk_at "if"
      all_goals rename_i c
      all_goals walk_at "rd"
      · have c := V.int.inj c
        subst c
        walk_at "if"
        all_goals rename_i c2
        all_goals walk_at "rd"
        · have hk : ∃ k : Nat, kind - 1 = (k : Int) ∧ ([V.str "done", .str "fallen"])[k]? = some (V.str (endOf kind st st)) := by
            have : kind = 1 ∨ kind = 2 := by omega
            rcases this with rfl | rfl
            · exact ⟨0, rfl, by unfold endOf; rw [if_neg (by decide), if_pos rfl, if_pos rfl]; rfl⟩
            · exact ⟨1, rfl, by unfold endOf; rw [if_neg (by decide), if_pos rfl, if_neg (by decide)]; rfl⟩
          obtain ⟨k, ek, el⟩ := hk
          refine ⟨by walk_at "sz", fun r8 n8 => ?_⟩
          walk_at "rd"
          refine w_ixL (SqL.of upd_same) (at_nat ek el) ?_
          walk_at "rd"
          exact ⟨rfl, same_upd s7 n8⟩
        · have e : endOf kind st st = "" := by unfold endOf; rw [if_pos (by omega)]
          rw [e]
          exact ⟨rfl, s7⟩
      · have c : ¬ st = many := fun e => c (congrArg V.int e)
        have e : endOf kind many st = "" := by unfold endOf; rw [if_neg c]; split <;> rfl
        rw [e]
        exact ⟨rfl, s7⟩
    obtain ⟨rfl, s8⟩ := hm'
    walk_at "rd"
    refine w_ma1 (s8 _ _ ep6) sk.cl l4 se (by decide) ?_
    walk_at "rd"
    refine ⟨p, dx, "qa", keep, g', sl, many, st, rfl, s8 _ _ ep6, ?_⟩
    walk_at "rd"
    refine w_isi (TyX.base (TyOf.str _)) kit_ss ?_
    walk_at "rd"
    walk_at "if"
    · rename_i z; cases z
    rename_i z; clear z
    walk_at "rd"
    walk_at "if"
    · rename_i z; exact absurd rfl z
    walk_at "rd"
    exact ⟨_, _, _, rfl, s8⟩
  obtain ⟨v10, v11, v13, rfl, s7⟩ := pv
  walk_at "rd"
  exact q _
end
end Mn

namespace Mn
open PySem L2
theorem shK_of {P : Program} {w : World} {K : PySem.W.Frag} {mg : Str → Option Value} {base : Heap} {CL CS CF CM : Addr} (l : ShK P w K mg base 0 CL) (s : ShK P w K mg base 1 CS) (f : ShK P w K mg base 2 CF) (m : ShK P w K mg base 3 CM) (kind : Int) (h0 : 0 ≤ kind) (h4 : kind < 4) :
    ShK P w K mg base kind (clsOf CL CS CF CM kind) := by
  have h : kind = 0 ∨ kind = 1 ∨ kind = 2 ∨ kind = 3 := by omega
  rcases h with rfl | rfl | rfl | rfl
  · exact l
  · exact s
  · exact f
  · exact m
end Mn

namespace Mn
open PySem L2
theorem clsF_nil {K : PySem.W.Frag} {C : Addr} : ∀ f ∈ ([] : List Str), NoAttr K C f := fun _ h => absurd h List.not_mem_nil
theorem clsF_cons {K : PySem.W.Frag} {C : Addr} {g : Str} {r : List Str} (a : PySem.W.findIn K (.ref C) g = some none) (b : ∀ f ∈ r, NoAttr K C f) : ∀ f ∈ g :: r, NoAttr K C f := fun f h => by
  rcases List.mem_cons.mp h with e | e
  · subst e
    exact a
  · exact b f e
theorem all_mk {l : PySem.W.OpenLaw} {w : World} {K : PySem.W.Frag} {h : Heap} {mg : Str → Option Value} {fa c_Shape c_Leaf c_Steady c_Faller c_Minder t_FALLS f_Shape_init f_Shape_leaf f_Shape_begun_again f_Leaf_init T_Leaf_init f_Leaf_leaf f_Leaf_end_at f_Leaf_work f_Leaf_words f_Steady_init T_Steady_init f_Steady_end_at f_Steady_work f_Faller_init T_Faller_init f_Faller_end_at f_Faller_work f_Minder_init T_Minder_init f_Minder_way f_Minder_words f_law_cell_at f_law_made f_law_words_due f_law_says f_law : Addr} (X : K.In h) (G : h.Ns mainGlobals mg) (hfa : mg "law" = some (.ref fa))
    {odt_FALLS od_Shape_init an_Shape_init od_Shape_leaf an_Shape_leaf od_Shape_begun_again an_Shape_begun_again od_Leaf_init an_Leaf_init odT_Leaf_init od_Leaf_leaf an_Leaf_leaf od_Leaf_end_at an_Leaf_end_at od_Leaf_work an_Leaf_work od_Leaf_words an_Leaf_words od_Steady_init an_Steady_init odT_Steady_init od_Steady_end_at an_Steady_end_at od_Steady_work an_Steady_work od_Faller_init an_Faller_init odT_Faller_init od_Faller_end_at an_Faller_end_at od_Faller_work an_Faller_work od_Minder_init an_Minder_init odT_Minder_init od_Minder_way an_Minder_way od_Minder_words an_Minder_words od_law_cell_at an_law_cell_at od_law_made an_law_made od_law_words_due an_law_words_due od_law_says an_law_says od_law an_law : Option Addr} {slt_FALLS sl_Shape_init sl_Shape_leaf sl_Shape_begun_again sl_Leaf_init slT_Leaf_init sl_Leaf_leaf sl_Leaf_end_at sl_Leaf_work sl_Leaf_words sl_Steady_init slT_Steady_init sl_Steady_end_at sl_Steady_work sl_Faller_init slT_Faller_init sl_Faller_end_at sl_Faller_work sl_Minder_init slT_Minder_init sl_Minder_way sl_Minder_words sl_law_cell_at sl_law_made sl_law_words_due sl_law_says sl_law : Array (Option Value)} {oc_Shape_init kV_Shape_init dc_Shape_init pm_Shape_init cd_Shape_init ct_Shape_init oc_Shape_leaf kV_Shape_leaf dc_Shape_leaf pm_Shape_leaf cd_Shape_leaf ct_Shape_leaf oc_Shape_begun_again kV_Shape_begun_again dc_Shape_begun_again pm_Shape_begun_again cd_Shape_begun_again ct_Shape_begun_again oc_Leaf_init kV_Leaf_init dc_Leaf_init pm_Leaf_init cd_Leaf_init ct_Leaf_init ocT_Leaf_init oc_Leaf_leaf kV_Leaf_leaf dc_Leaf_leaf pm_Leaf_leaf cd_Leaf_leaf ct_Leaf_leaf oc_Leaf_end_at kV_Leaf_end_at dc_Leaf_end_at pm_Leaf_end_at cd_Leaf_end_at ct_Leaf_end_at oc_Leaf_work kV_Leaf_work dc_Leaf_work pm_Leaf_work cd_Leaf_work ct_Leaf_work oc_Leaf_words kV_Leaf_words dc_Leaf_words pm_Leaf_words cd_Leaf_words ct_Leaf_words oc_Steady_init kV_Steady_init dc_Steady_init pm_Steady_init cd_Steady_init ct_Steady_init ocT_Steady_init oc_Steady_end_at kV_Steady_end_at dc_Steady_end_at pm_Steady_end_at cd_Steady_end_at ct_Steady_end_at oc_Steady_work kV_Steady_work dc_Steady_work pm_Steady_work cd_Steady_work ct_Steady_work oc_Faller_init kV_Faller_init dc_Faller_init pm_Faller_init cd_Faller_init ct_Faller_init ocT_Faller_init oc_Faller_end_at kV_Faller_end_at dc_Faller_end_at pm_Faller_end_at cd_Faller_end_at ct_Faller_end_at oc_Faller_work kV_Faller_work dc_Faller_work pm_Faller_work cd_Faller_work ct_Faller_work oc_Minder_init kV_Minder_init dc_Minder_init pm_Minder_init cd_Minder_init ct_Minder_init ocT_Minder_init oc_Minder_way kV_Minder_way dc_Minder_way pm_Minder_way cd_Minder_way ct_Minder_way oc_Minder_words kV_Minder_words dc_Minder_words pm_Minder_words cd_Minder_words ct_Minder_words oc_law_cell_at kV_law_cell_at dc_law_cell_at pm_law_cell_at cd_law_cell_at ct_law_cell_at oc_law_made kV_law_made dc_law_made pm_law_made cd_law_made ct_law_made oc_law_words_due kV_law_words_due dc_law_words_due pm_law_words_due cd_law_words_due ct_law_words_due oc_law_says kV_law_says dc_law_says pm_law_says cd_law_says ct_law_says oc_law kV_law dc_law pm_law cd_law ct_law : Value} {nt_FALLS tk_FALLS_0 tk_FALLS_1 nT_Leaf_init tk_Leaf_init_0 tk_Leaf_init_1 nT_Steady_init tk_Steady_init_0 tk_Steady_init_1 nT_Faller_init tk_Faller_init_0 tk_Faller_init_1 nT_Minder_init tk_Minder_init_0 tk_Minder_init_1 : Nat}
    (z_len : PySem.W.nsIn K mainGlobals "len" = some none)
    (z_int : PySem.W.nsIn K mainGlobals "int" = some none)
    (z_bool : PySem.W.nsIn K mainGlobals "bool" = some none)
    (z_list : PySem.W.nsIn K mainGlobals "list" = some none)
    (z_max : PySem.W.nsIn K mainGlobals "max" = some none)
    (z_str : PySem.W.nsIn K mainGlobals "str" = some none)
    (z_range : PySem.W.nsIn K mainGlobals "range" = some none)
    (z_isinstance : PySem.W.nsIn K mainGlobals "isinstance" = some none)
    (a_Shape : PySem.W.nsIn K mainGlobals "Shape" = some (some (.ref c_Shape)))
    (pg_Shape : PySem.W.plainGet K c_Shape Str.empty = true)
    (hd_Shape : PySem.W.hasDictIn K c_Shape = true)
    (po_Shape : PySem.W.plainOver K c_Shape = true)
    (sa_Shape : PySem.W.findIn K (.ref c_Shape) "__setattr__" = some (some (.builtin "object.__setattr__")))
    (a_Leaf : PySem.W.nsIn K mainGlobals "Leaf" = some (some (.ref c_Leaf)))
    (pg_Leaf : PySem.W.plainGet K c_Leaf Str.empty = true)
    (hd_Leaf : PySem.W.hasDictIn K c_Leaf = true)
    (po_Leaf : PySem.W.plainOver K c_Leaf = true)
    (sa_Leaf : PySem.W.findIn K (.ref c_Leaf) "__setattr__" = some (some (.builtin "object.__setattr__")))
    (n_Leaf_name : PySem.W.findIn K (.ref c_Leaf) "name" = some none)
    (n_Leaf_keep : PySem.W.findIn K (.ref c_Leaf) "keep" = some none)
    (n_Leaf_grace : PySem.W.findIn K (.ref c_Leaf) "grace" = some none)
    (n_Leaf_slow : PySem.W.findIn K (.ref c_Leaf) "slow" = some none)
    (mk_Leaf : PySem.W.makesIn K c_Leaf = true)
    (kc_Leaf : PySem.W.keepIn K (.ref c_Leaf) = true)
    (a_Steady : PySem.W.nsIn K mainGlobals "Steady" = some (some (.ref c_Steady)))
    (pg_Steady : PySem.W.plainGet K c_Steady Str.empty = true)
    (hd_Steady : PySem.W.hasDictIn K c_Steady = true)
    (po_Steady : PySem.W.plainOver K c_Steady = true)
    (sa_Steady : PySem.W.findIn K (.ref c_Steady) "__setattr__" = some (some (.builtin "object.__setattr__")))
    (n_Steady_name : PySem.W.findIn K (.ref c_Steady) "name" = some none)
    (n_Steady_keep : PySem.W.findIn K (.ref c_Steady) "keep" = some none)
    (n_Steady_grace : PySem.W.findIn K (.ref c_Steady) "grace" = some none)
    (n_Steady_slow : PySem.W.findIn K (.ref c_Steady) "slow" = some none)
    (n_Steady_many : PySem.W.findIn K (.ref c_Steady) "many" = some none)
    (mk_Steady : PySem.W.makesIn K c_Steady = true)
    (kc_Steady : PySem.W.keepIn K (.ref c_Steady) = true)
    (a_Faller : PySem.W.nsIn K mainGlobals "Faller" = some (some (.ref c_Faller)))
    (pg_Faller : PySem.W.plainGet K c_Faller Str.empty = true)
    (hd_Faller : PySem.W.hasDictIn K c_Faller = true)
    (po_Faller : PySem.W.plainOver K c_Faller = true)
    (sa_Faller : PySem.W.findIn K (.ref c_Faller) "__setattr__" = some (some (.builtin "object.__setattr__")))
    (n_Faller_name : PySem.W.findIn K (.ref c_Faller) "name" = some none)
    (n_Faller_keep : PySem.W.findIn K (.ref c_Faller) "keep" = some none)
    (n_Faller_grace : PySem.W.findIn K (.ref c_Faller) "grace" = some none)
    (n_Faller_slow : PySem.W.findIn K (.ref c_Faller) "slow" = some none)
    (n_Faller_many : PySem.W.findIn K (.ref c_Faller) "many" = some none)
    (mk_Faller : PySem.W.makesIn K c_Faller = true)
    (kc_Faller : PySem.W.keepIn K (.ref c_Faller) = true)
    (a_Minder : PySem.W.nsIn K mainGlobals "Minder" = some (some (.ref c_Minder)))
    (pg_Minder : PySem.W.plainGet K c_Minder Str.empty = true)
    (hd_Minder : PySem.W.hasDictIn K c_Minder = true)
    (po_Minder : PySem.W.plainOver K c_Minder = true)
    (sa_Minder : PySem.W.findIn K (.ref c_Minder) "__setattr__" = some (some (.builtin "object.__setattr__")))
    (n_Minder_name : PySem.W.findIn K (.ref c_Minder) "name" = some none)
    (n_Minder_keep : PySem.W.findIn K (.ref c_Minder) "keep" = some none)
    (n_Minder_most : PySem.W.findIn K (.ref c_Minder) "most" = some none)
    (n_Minder_span : PySem.W.findIn K (.ref c_Minder) "span" = some none)
    (mk_Minder : PySem.W.makesIn K c_Minder = true)
    (kc_Minder : PySem.W.keepIn K (.ref c_Minder) = true)
    (a_FALLS : PySem.W.nsIn K mainGlobals "FALLS" = some (some (.ref t_FALLS)))
    (l_FALLS : K.lookup t_FALLS = some ⟨.type "tuple", odt_FALLS, .seq #[(.str "fallen" tk_FALLS_0 : Value), (.str "gave up" tk_FALLS_1 : Value)] nt_FALLS, slt_FALLS⟩)
    (a_Shape___init__ : PySem.W.findIn K (.ref c_Shape) "__init__" = some (some (.ref f_Shape_init)))
    (i_Shape_init : PySem.W.isFn K (.ref f_Shape_init) = true)
    (l_Shape_init : K.lookup f_Shape_init = some ⟨oc_Shape_init, od_Shape_init, .func (PySem.W.fnOf "__init__" "Shape.__init__" (defArgs s_Shape_init) (defBody s_Shape_init) (defScope s_Shape_init) .none kV_Shape_init dc_Shape_init pm_Shape_init an_Shape_init cd_Shape_init ct_Shape_init), sl_Shape_init⟩)
    (co_Shape_init : PySem.W.codeIn K cd_Shape_init "Shape.__init__" = true)
    (k_Shape_init : PySem.W.keepIn K (.ref f_Shape_init) = true)
    (a_Shape_leaf : PySem.W.findIn K (.ref c_Shape) "leaf" = some (some (.ref f_Shape_leaf)))
    (i_Shape_leaf : PySem.W.isFn K (.ref f_Shape_leaf) = true)
    (l_Shape_leaf : K.lookup f_Shape_leaf = some ⟨oc_Shape_leaf, od_Shape_leaf, .func (PySem.W.fnOf "leaf" "Shape.leaf" (defArgs s_Shape_leaf) (defBody s_Shape_leaf) (defScope s_Shape_leaf) .none kV_Shape_leaf dc_Shape_leaf pm_Shape_leaf an_Shape_leaf cd_Shape_leaf ct_Shape_leaf), sl_Shape_leaf⟩)
    (co_Shape_leaf : PySem.W.codeIn K cd_Shape_leaf "Shape.leaf" = true)
    (k_Shape_leaf : PySem.W.keepIn K (.ref f_Shape_leaf) = true)
    (a_Shape_begun_again : PySem.W.findIn K (.ref c_Shape) "begun_again" = some (some (.ref f_Shape_begun_again)))
    (i_Shape_begun_again : PySem.W.isFn K (.ref f_Shape_begun_again) = true)
    (l_Shape_begun_again : K.lookup f_Shape_begun_again = some ⟨oc_Shape_begun_again, od_Shape_begun_again, .func (PySem.W.fnOf "begun_again" "Shape.begun_again" (defArgs s_Shape_begun_again) (defBody s_Shape_begun_again) (defScope s_Shape_begun_again) .none kV_Shape_begun_again dc_Shape_begun_again pm_Shape_begun_again an_Shape_begun_again cd_Shape_begun_again ct_Shape_begun_again), sl_Shape_begun_again⟩)
    (co_Shape_begun_again : PySem.W.codeIn K cd_Shape_begun_again "Shape.begun_again" = true)
    (k_Shape_begun_again : PySem.W.keepIn K (.ref f_Shape_begun_again) = true)
    (a_Leaf___init__ : PySem.W.findIn K (.ref c_Leaf) "__init__" = some (some (.ref f_Leaf_init)))
    (i_Leaf_init : PySem.W.isFn K (.ref f_Leaf_init) = true)
    (l_Leaf_init : K.lookup f_Leaf_init = some ⟨oc_Leaf_init, od_Leaf_init, .func (PySem.W.fnOf "__init__" "Leaf.__init__" (defArgs s_Leaf_init) (defBody s_Leaf_init) (defScope s_Leaf_init) (.ref T_Leaf_init) kV_Leaf_init dc_Leaf_init pm_Leaf_init an_Leaf_init cd_Leaf_init ct_Leaf_init), sl_Leaf_init⟩)
    (co_Leaf_init : PySem.W.codeIn K cd_Leaf_init "Leaf.__init__" = true)
    (k_Leaf_init : PySem.W.keepIn K (.ref f_Leaf_init) = true)
    (lT_Leaf_init : K.lookup T_Leaf_init = some ⟨ocT_Leaf_init, odT_Leaf_init, .seq #[(.int 0 tk_Leaf_init_0 : Value), (.int 0 tk_Leaf_init_1 : Value)] nT_Leaf_init, slT_Leaf_init⟩)
    (a_Leaf_leaf : PySem.W.findIn K (.ref c_Leaf) "leaf" = some (some (.ref f_Leaf_leaf)))
    (i_Leaf_leaf : PySem.W.isFn K (.ref f_Leaf_leaf) = true)
    (l_Leaf_leaf : K.lookup f_Leaf_leaf = some ⟨oc_Leaf_leaf, od_Leaf_leaf, .func (PySem.W.fnOf "leaf" "Leaf.leaf" (defArgs s_Leaf_leaf) (defBody s_Leaf_leaf) (defScope s_Leaf_leaf) .none kV_Leaf_leaf dc_Leaf_leaf pm_Leaf_leaf an_Leaf_leaf cd_Leaf_leaf ct_Leaf_leaf), sl_Leaf_leaf⟩)
    (co_Leaf_leaf : PySem.W.codeIn K cd_Leaf_leaf "Leaf.leaf" = true)
    (k_Leaf_leaf : PySem.W.keepIn K (.ref f_Leaf_leaf) = true)
    (a_Leaf_end_at : PySem.W.findIn K (.ref c_Leaf) "end_at" = some (some (.ref f_Leaf_end_at)))
    (i_Leaf_end_at : PySem.W.isFn K (.ref f_Leaf_end_at) = true)
    (l_Leaf_end_at : K.lookup f_Leaf_end_at = some ⟨oc_Leaf_end_at, od_Leaf_end_at, .func (PySem.W.fnOf "end_at" "Leaf.end_at" (defArgs s_Leaf_end_at) (defBody s_Leaf_end_at) (defScope s_Leaf_end_at) .none kV_Leaf_end_at dc_Leaf_end_at pm_Leaf_end_at an_Leaf_end_at cd_Leaf_end_at ct_Leaf_end_at), sl_Leaf_end_at⟩)
    (co_Leaf_end_at : PySem.W.codeIn K cd_Leaf_end_at "Leaf.end_at" = true)
    (k_Leaf_end_at : PySem.W.keepIn K (.ref f_Leaf_end_at) = true)
    (a_Leaf_work : PySem.W.findIn K (.ref c_Leaf) "work" = some (some (.ref f_Leaf_work)))
    (i_Leaf_work : PySem.W.isFn K (.ref f_Leaf_work) = true)
    (l_Leaf_work : K.lookup f_Leaf_work = some ⟨oc_Leaf_work, od_Leaf_work, .func (PySem.W.fnOf "work" "Leaf.work" (defArgs s_Leaf_work) (defBody s_Leaf_work) (defScope s_Leaf_work) .none kV_Leaf_work dc_Leaf_work pm_Leaf_work an_Leaf_work cd_Leaf_work ct_Leaf_work), sl_Leaf_work⟩)
    (co_Leaf_work : PySem.W.codeIn K cd_Leaf_work "Leaf.work" = true)
    (k_Leaf_work : PySem.W.keepIn K (.ref f_Leaf_work) = true)
    (a_Leaf_words : PySem.W.findIn K (.ref c_Leaf) "words" = some (some (.ref f_Leaf_words)))
    (i_Leaf_words : PySem.W.isFn K (.ref f_Leaf_words) = true)
    (l_Leaf_words : K.lookup f_Leaf_words = some ⟨oc_Leaf_words, od_Leaf_words, .func (PySem.W.fnOf "words" "Leaf.words" (defArgs s_Leaf_words) (defBody s_Leaf_words) (defScope s_Leaf_words) .none kV_Leaf_words dc_Leaf_words pm_Leaf_words an_Leaf_words cd_Leaf_words ct_Leaf_words), sl_Leaf_words⟩)
    (co_Leaf_words : PySem.W.codeIn K cd_Leaf_words "Leaf.words" = true)
    (k_Leaf_words : PySem.W.keepIn K (.ref f_Leaf_words) = true)
    (a_Steady___init__ : PySem.W.findIn K (.ref c_Steady) "__init__" = some (some (.ref f_Steady_init)))
    (i_Steady_init : PySem.W.isFn K (.ref f_Steady_init) = true)
    (l_Steady_init : K.lookup f_Steady_init = some ⟨oc_Steady_init, od_Steady_init, .func (PySem.W.fnOf "__init__" "Steady.__init__" (defArgs s_Steady_init) (defBody s_Steady_init) (defScope s_Steady_init) (.ref T_Steady_init) kV_Steady_init dc_Steady_init pm_Steady_init an_Steady_init cd_Steady_init ct_Steady_init), sl_Steady_init⟩)
    (co_Steady_init : PySem.W.codeIn K cd_Steady_init "Steady.__init__" = true)
    (k_Steady_init : PySem.W.keepIn K (.ref f_Steady_init) = true)
    (lT_Steady_init : K.lookup T_Steady_init = some ⟨ocT_Steady_init, odT_Steady_init, .seq #[(.int 0 tk_Steady_init_0 : Value), (.int 0 tk_Steady_init_1 : Value)] nT_Steady_init, slT_Steady_init⟩)
    (a_Steady_end_at : PySem.W.findIn K (.ref c_Steady) "end_at" = some (some (.ref f_Steady_end_at)))
    (i_Steady_end_at : PySem.W.isFn K (.ref f_Steady_end_at) = true)
    (l_Steady_end_at : K.lookup f_Steady_end_at = some ⟨oc_Steady_end_at, od_Steady_end_at, .func (PySem.W.fnOf "end_at" "Steady.end_at" (defArgs s_Steady_end_at) (defBody s_Steady_end_at) (defScope s_Steady_end_at) .none kV_Steady_end_at dc_Steady_end_at pm_Steady_end_at an_Steady_end_at cd_Steady_end_at ct_Steady_end_at), sl_Steady_end_at⟩)
    (co_Steady_end_at : PySem.W.codeIn K cd_Steady_end_at "Steady.end_at" = true)
    (k_Steady_end_at : PySem.W.keepIn K (.ref f_Steady_end_at) = true)
    (a_Steady_work : PySem.W.findIn K (.ref c_Steady) "work" = some (some (.ref f_Steady_work)))
    (i_Steady_work : PySem.W.isFn K (.ref f_Steady_work) = true)
    (l_Steady_work : K.lookup f_Steady_work = some ⟨oc_Steady_work, od_Steady_work, .func (PySem.W.fnOf "work" "Steady.work" (defArgs s_Steady_work) (defBody s_Steady_work) (defScope s_Steady_work) .none kV_Steady_work dc_Steady_work pm_Steady_work an_Steady_work cd_Steady_work ct_Steady_work), sl_Steady_work⟩)
    (co_Steady_work : PySem.W.codeIn K cd_Steady_work "Steady.work" = true)
    (k_Steady_work : PySem.W.keepIn K (.ref f_Steady_work) = true)
    (a_Faller___init__ : PySem.W.findIn K (.ref c_Faller) "__init__" = some (some (.ref f_Faller_init)))
    (i_Faller_init : PySem.W.isFn K (.ref f_Faller_init) = true)
    (l_Faller_init : K.lookup f_Faller_init = some ⟨oc_Faller_init, od_Faller_init, .func (PySem.W.fnOf "__init__" "Faller.__init__" (defArgs s_Faller_init) (defBody s_Faller_init) (defScope s_Faller_init) (.ref T_Faller_init) kV_Faller_init dc_Faller_init pm_Faller_init an_Faller_init cd_Faller_init ct_Faller_init), sl_Faller_init⟩)
    (co_Faller_init : PySem.W.codeIn K cd_Faller_init "Faller.__init__" = true)
    (k_Faller_init : PySem.W.keepIn K (.ref f_Faller_init) = true)
    (lT_Faller_init : K.lookup T_Faller_init = some ⟨ocT_Faller_init, odT_Faller_init, .seq #[(.int 0 tk_Faller_init_0 : Value), (.int 0 tk_Faller_init_1 : Value)] nT_Faller_init, slT_Faller_init⟩)
    (a_Faller_end_at : PySem.W.findIn K (.ref c_Faller) "end_at" = some (some (.ref f_Faller_end_at)))
    (i_Faller_end_at : PySem.W.isFn K (.ref f_Faller_end_at) = true)
    (l_Faller_end_at : K.lookup f_Faller_end_at = some ⟨oc_Faller_end_at, od_Faller_end_at, .func (PySem.W.fnOf "end_at" "Faller.end_at" (defArgs s_Faller_end_at) (defBody s_Faller_end_at) (defScope s_Faller_end_at) .none kV_Faller_end_at dc_Faller_end_at pm_Faller_end_at an_Faller_end_at cd_Faller_end_at ct_Faller_end_at), sl_Faller_end_at⟩)
    (co_Faller_end_at : PySem.W.codeIn K cd_Faller_end_at "Faller.end_at" = true)
    (k_Faller_end_at : PySem.W.keepIn K (.ref f_Faller_end_at) = true)
    (a_Faller_work : PySem.W.findIn K (.ref c_Faller) "work" = some (some (.ref f_Faller_work)))
    (i_Faller_work : PySem.W.isFn K (.ref f_Faller_work) = true)
    (l_Faller_work : K.lookup f_Faller_work = some ⟨oc_Faller_work, od_Faller_work, .func (PySem.W.fnOf "work" "Faller.work" (defArgs s_Faller_work) (defBody s_Faller_work) (defScope s_Faller_work) .none kV_Faller_work dc_Faller_work pm_Faller_work an_Faller_work cd_Faller_work ct_Faller_work), sl_Faller_work⟩)
    (co_Faller_work : PySem.W.codeIn K cd_Faller_work "Faller.work" = true)
    (k_Faller_work : PySem.W.keepIn K (.ref f_Faller_work) = true)
    (a_Minder___init__ : PySem.W.findIn K (.ref c_Minder) "__init__" = some (some (.ref f_Minder_init)))
    (i_Minder_init : PySem.W.isFn K (.ref f_Minder_init) = true)
    (l_Minder_init : K.lookup f_Minder_init = some ⟨oc_Minder_init, od_Minder_init, .func (PySem.W.fnOf "__init__" "Minder.__init__" (defArgs s_Minder_init) (defBody s_Minder_init) (defScope s_Minder_init) (.ref T_Minder_init) kV_Minder_init dc_Minder_init pm_Minder_init an_Minder_init cd_Minder_init ct_Minder_init), sl_Minder_init⟩)
    (co_Minder_init : PySem.W.codeIn K cd_Minder_init "Minder.__init__" = true)
    (k_Minder_init : PySem.W.keepIn K (.ref f_Minder_init) = true)
    (lT_Minder_init : K.lookup T_Minder_init = some ⟨ocT_Minder_init, odT_Minder_init, .seq #[(.int 1 tk_Minder_init_0 : Value), (.int 1 tk_Minder_init_1 : Value)] nT_Minder_init, slT_Minder_init⟩)
    (a_Minder_way : PySem.W.findIn K (.ref c_Minder) "way" = some (some (.ref f_Minder_way)))
    (i_Minder_way : PySem.W.isFn K (.ref f_Minder_way) = true)
    (l_Minder_way : K.lookup f_Minder_way = some ⟨oc_Minder_way, od_Minder_way, .func (PySem.W.fnOf "way" "Minder.way" (defArgs s_Minder_way) (defBody s_Minder_way) (defScope s_Minder_way) .none kV_Minder_way dc_Minder_way pm_Minder_way an_Minder_way cd_Minder_way ct_Minder_way), sl_Minder_way⟩)
    (co_Minder_way : PySem.W.codeIn K cd_Minder_way "Minder.way" = true)
    (k_Minder_way : PySem.W.keepIn K (.ref f_Minder_way) = true)
    (a_Minder_words : PySem.W.findIn K (.ref c_Minder) "words" = some (some (.ref f_Minder_words)))
    (i_Minder_words : PySem.W.isFn K (.ref f_Minder_words) = true)
    (l_Minder_words : K.lookup f_Minder_words = some ⟨oc_Minder_words, od_Minder_words, .func (PySem.W.fnOf "words" "Minder.words" (defArgs s_Minder_words) (defBody s_Minder_words) (defScope s_Minder_words) .none kV_Minder_words dc_Minder_words pm_Minder_words an_Minder_words cd_Minder_words ct_Minder_words), sl_Minder_words⟩)
    (co_Minder_words : PySem.W.codeIn K cd_Minder_words "Minder.words" = true)
    (k_Minder_words : PySem.W.keepIn K (.ref f_Minder_words) = true)
    (a_law_cell_at : PySem.W.nsIn K mainGlobals "_law_cell_at" = some (some (.ref f_law_cell_at)))
    (l_law_cell_at : K.lookup f_law_cell_at = some ⟨oc_law_cell_at, od_law_cell_at, .func (PySem.W.fnOf "_law_cell_at" "_law_cell_at" (defArgs s_law_cell_at) (defBody s_law_cell_at) (defScope s_law_cell_at) .none kV_law_cell_at dc_law_cell_at pm_law_cell_at an_law_cell_at cd_law_cell_at ct_law_cell_at), sl_law_cell_at⟩)
    (co_law_cell_at : PySem.W.codeIn K cd_law_cell_at "_law_cell_at" = true)
    (k_law_cell_at : PySem.W.keepIn K (.ref f_law_cell_at) = true)
    (a_law_made : PySem.W.nsIn K mainGlobals "_law_made" = some (some (.ref f_law_made)))
    (l_law_made : K.lookup f_law_made = some ⟨oc_law_made, od_law_made, .func (PySem.W.fnOf "_law_made" "_law_made" (defArgs s_law_made) (defBody s_law_made) (defScope s_law_made) .none kV_law_made dc_law_made pm_law_made an_law_made cd_law_made ct_law_made), sl_law_made⟩)
    (co_law_made : PySem.W.codeIn K cd_law_made "_law_made" = true)
    (k_law_made : PySem.W.keepIn K (.ref f_law_made) = true)
    (a_law_words_due : PySem.W.nsIn K mainGlobals "_law_words_due" = some (some (.ref f_law_words_due)))
    (l_law_words_due : K.lookup f_law_words_due = some ⟨oc_law_words_due, od_law_words_due, .func (PySem.W.fnOf "_law_words_due" "_law_words_due" (defArgs s_law_words_due) (defBody s_law_words_due) (defScope s_law_words_due) .none kV_law_words_due dc_law_words_due pm_law_words_due an_law_words_due cd_law_words_due ct_law_words_due), sl_law_words_due⟩)
    (co_law_words_due : PySem.W.codeIn K cd_law_words_due "_law_words_due" = true)
    (k_law_words_due : PySem.W.keepIn K (.ref f_law_words_due) = true)
    (a_law_says : PySem.W.nsIn K mainGlobals "_law_says" = some (some (.ref f_law_says)))
    (l_law_says : K.lookup f_law_says = some ⟨oc_law_says, od_law_says, .func (PySem.W.fnOf "_law_says" "_law_says" (defArgs s_law_says) (defBody s_law_says) (defScope s_law_says) .none kV_law_says dc_law_says pm_law_says an_law_says cd_law_says ct_law_says), sl_law_says⟩)
    (co_law_says : PySem.W.codeIn K cd_law_says "_law_says" = true)
    (k_law_says : PySem.W.keepIn K (.ref f_law_says) = true)
    (a_law : PySem.W.nsIn K mainGlobals "law" = some (some (.ref f_law)))
    (l_law : K.lookup f_law = some ⟨oc_law, od_law, .func (PySem.W.fnOf "law" "law" (defArgs s_law) (defBody s_law) (defScope s_law) .none kV_law dc_law pm_law an_law cd_law ct_law), sl_law⟩)
    (co_law : PySem.W.codeIn K cd_law "law" = true)
    (k_law : PySem.W.keepIn K (.ref f_law) = true)
    (rd_Shape : PySem.W.readsIn K c_Shape (.type "type") = true)
    (ga_Shape : PySem.W.specialIn K (.ref c_Shape) "__getattribute__" = some (some (.builtin "type.__getattribute__")))
    (fc_Shape___init__ : PySem.W.findCls K (.ref c_Shape) (.type "type") "__init__" = some (.val (.ref f_Shape_init)))
    (rd_Leaf : PySem.W.readsIn K c_Leaf (.type "type") = true)
    (ga_Leaf : PySem.W.specialIn K (.ref c_Leaf) "__getattribute__" = some (some (.builtin "type.__getattribute__")))
    (fc_Leaf___init__ : PySem.W.findCls K (.ref c_Leaf) (.type "type") "__init__" = some (.val (.ref f_Leaf_init)))
    (a_Leaf_begun_again : PySem.W.findIn K (.ref c_Leaf) "begun_again" = some (some (.ref f_Shape_begun_again)))
    (a_Steady_begun_again : PySem.W.findIn K (.ref c_Steady) "begun_again" = some (some (.ref f_Shape_begun_again)))
    (a_Faller_begun_again : PySem.W.findIn K (.ref c_Faller) "begun_again" = some (some (.ref f_Shape_begun_again)))
    (a_Minder_begun_again : PySem.W.findIn K (.ref c_Minder) "begun_again" = some (some (.ref f_Shape_begun_again)))
    (a_Steady_leaf : PySem.W.findIn K (.ref c_Steady) "leaf" = some (some (.ref f_Leaf_leaf)))
    (a_Faller_leaf : PySem.W.findIn K (.ref c_Faller) "leaf" = some (some (.ref f_Leaf_leaf)))
    (a_Minder_leaf : PySem.W.findIn K (.ref c_Minder) "leaf" = some (some (.ref f_Shape_leaf)))
    (a_Steady_words : PySem.W.findIn K (.ref c_Steady) "words" = some (some (.ref f_Leaf_words)))
    (a_Faller_words : PySem.W.findIn K (.ref c_Faller) "words" = some (some (.ref f_Leaf_words))) :
    ∃ fd : FuncData, (∀ (s : Shared) (v : Value), BindsTo s fd ⟨[v], []⟩ [("_law_script", v)]) ∧ ∀ base : Heap, K.In base → base.Ns mainGlobals mg → FnOk l.prog w K mg base CX0 6 fa fd ["_law_script"] (spLaw K) := by
  have e := hfa.symm.trans (PySem.W.mg_of X G a_law)
  cases e
  have T : Bt mg := ⟨PySem.W.mg_none_of X G z_len, PySem.W.mg_none_of X G z_int, PySem.W.mg_none_of X G z_bool, PySem.W.mg_none_of X G z_list, PySem.W.mg_none_of X G z_max, PySem.W.mg_none_of X G z_str, PySem.W.mg_none_of X G z_range, PySem.W.mg_none_of X G z_isinstance⟩
  have mg_Shape := PySem.W.mg_of X G a_Shape
  have cf_Shape : ClsF K c_Shape [] := ⟨⟨pg_Shape, hd_Shape, po_Shape, sa_Shape⟩, clsF_nil⟩
  have mg_Leaf := PySem.W.mg_of X G a_Leaf
  have cf_Leaf : ClsF K c_Leaf ["name", "keep", "grace", "slow"] := ⟨⟨pg_Leaf, hd_Leaf, po_Leaf, sa_Leaf⟩, (clsF_cons n_Leaf_name <| (clsF_cons n_Leaf_keep <| (clsF_cons n_Leaf_grace <| (clsF_cons n_Leaf_slow <| clsF_nil))))⟩
  have mg_Steady := PySem.W.mg_of X G a_Steady
  have cf_Steady : ClsF K c_Steady ["name", "keep", "grace", "slow", "many"] := ⟨⟨pg_Steady, hd_Steady, po_Steady, sa_Steady⟩, (clsF_cons n_Steady_name <| (clsF_cons n_Steady_keep <| (clsF_cons n_Steady_grace <| (clsF_cons n_Steady_slow <| (clsF_cons n_Steady_many <| clsF_nil)))))⟩
  have mg_Faller := PySem.W.mg_of X G a_Faller
  have cf_Faller : ClsF K c_Faller ["name", "keep", "grace", "slow", "many"] := ⟨⟨pg_Faller, hd_Faller, po_Faller, sa_Faller⟩, (clsF_cons n_Faller_name <| (clsF_cons n_Faller_keep <| (clsF_cons n_Faller_grace <| (clsF_cons n_Faller_slow <| (clsF_cons n_Faller_many <| clsF_nil)))))⟩
  have mg_Minder := PySem.W.mg_of X G a_Minder
  have cf_Minder : ClsF K c_Minder ["name", "keep", "most", "span"] := ⟨⟨pg_Minder, hd_Minder, po_Minder, sa_Minder⟩, (clsF_cons n_Minder_name <| (clsF_cons n_Minder_keep <| (clsF_cons n_Minder_most <| (clsF_cons n_Minder_span <| clsF_nil))))⟩
  have mg_FALLS := PySem.W.mg_of X G a_FALLS
  have sq_FALLS : ∀ H : Hp, SqT K H t_FALLS [.str "fallen", .str "gave up"] := fun H => .inr ⟨_, _, _, l_FALLS, rfl, rfl, (by show 2 ≤ sizeLine; rw [sizeLine_eq]; decide), .cons ⟨_, rfl⟩ (.cons ⟨_, rfl⟩ (.nil))⟩
  have F_Shape_init := fun_mk (st := s_Shape_init) l_Shape_init co_Shape_init k_Shape_init
  have b_Shape_init := F_Shape_init.binds (ps := ["self", "name", "keep"]) fun _ _ _ _ _ _ us hl => match us, hl with | [_, _, _], _ => rfl
  have F_Shape_leaf := fun_mk (st := s_Shape_leaf) l_Shape_leaf co_Shape_leaf k_Shape_leaf
  have b_Shape_leaf := F_Shape_leaf.binds (ps := ["self"]) fun _ _ _ _ _ _ us hl => match us, hl with | [_], _ => rfl
  have F_Shape_begun_again := fun_mk (st := s_Shape_begun_again) l_Shape_begun_again co_Shape_begun_again k_Shape_begun_again
  have b_Shape_begun_again := F_Shape_begun_again.binds (ps := ["self", "word"]) fun _ _ _ _ _ _ us hl => match us, hl with | [_, _], _ => rfl
  have F_Leaf_init : FunS K "__init__" "Leaf.__init__" s_Leaf_init [.int 0, .int 0] f_Leaf_init _ := ⟨⟨_, _, _, _, _, _, _, _, _, _, rfl, l_Leaf_init, co_Leaf_init, .inr ⟨List.cons_ne_nil _ _, _, _, _, _, rfl, lT_Leaf_init, rfl, .cons ⟨_, rfl⟩ (.cons ⟨_, rfl⟩ (.nil))⟩, .inl rfl⟩, k_Leaf_init⟩
  have F_Leaf_leaf := fun_mk (st := s_Leaf_leaf) l_Leaf_leaf co_Leaf_leaf k_Leaf_leaf
  have b_Leaf_leaf := F_Leaf_leaf.binds (ps := ["self"]) fun _ _ _ _ _ _ us hl => match us, hl with | [_], _ => rfl
  have F_Leaf_end_at := fun_mk (st := s_Leaf_end_at) l_Leaf_end_at co_Leaf_end_at k_Leaf_end_at
  have b_Leaf_end_at := F_Leaf_end_at.binds (ps := ["self", "steps"]) fun _ _ _ _ _ _ us hl => match us, hl with | [_, _], _ => rfl
  have F_Leaf_work := fun_mk (st := s_Leaf_work) l_Leaf_work co_Leaf_work k_Leaf_work
  have b_Leaf_work := F_Leaf_work.binds (ps := ["self"]) fun _ _ _ _ _ _ us hl => match us, hl with | [_], _ => rfl
  have F_Leaf_words := fun_mk (st := s_Leaf_words) l_Leaf_words co_Leaf_words k_Leaf_words
  have b_Leaf_words := F_Leaf_words.binds (ps := ["self"]) fun _ _ _ _ _ _ us hl => match us, hl with | [_], _ => rfl
  have F_Steady_init : FunS K "__init__" "Steady.__init__" s_Steady_init [.int 0, .int 0] f_Steady_init _ := ⟨⟨_, _, _, _, _, _, _, _, _, _, rfl, l_Steady_init, co_Steady_init, .inr ⟨List.cons_ne_nil _ _, _, _, _, _, rfl, lT_Steady_init, rfl, .cons ⟨_, rfl⟩ (.cons ⟨_, rfl⟩ (.nil))⟩, .inl rfl⟩, k_Steady_init⟩
  have F_Steady_end_at := fun_mk (st := s_Steady_end_at) l_Steady_end_at co_Steady_end_at k_Steady_end_at
  have b_Steady_end_at := F_Steady_end_at.binds (ps := ["self", "steps"]) fun _ _ _ _ _ _ us hl => match us, hl with | [_, _], _ => rfl
  have F_Steady_work := fun_mk (st := s_Steady_work) l_Steady_work co_Steady_work k_Steady_work
  have b_Steady_work := F_Steady_work.binds (ps := ["self"]) fun _ _ _ _ _ _ us hl => match us, hl with | [_], _ => rfl
  have F_Faller_init : FunS K "__init__" "Faller.__init__" s_Faller_init [.int 0, .int 0] f_Faller_init _ := ⟨⟨_, _, _, _, _, _, _, _, _, _, rfl, l_Faller_init, co_Faller_init, .inr ⟨List.cons_ne_nil _ _, _, _, _, _, rfl, lT_Faller_init, rfl, .cons ⟨_, rfl⟩ (.cons ⟨_, rfl⟩ (.nil))⟩, .inl rfl⟩, k_Faller_init⟩
  have F_Faller_end_at := fun_mk (st := s_Faller_end_at) l_Faller_end_at co_Faller_end_at k_Faller_end_at
  have b_Faller_end_at := F_Faller_end_at.binds (ps := ["self", "steps"]) fun _ _ _ _ _ _ us hl => match us, hl with | [_, _], _ => rfl
  have F_Faller_work := fun_mk (st := s_Faller_work) l_Faller_work co_Faller_work k_Faller_work
  have b_Faller_work := F_Faller_work.binds (ps := ["self"]) fun _ _ _ _ _ _ us hl => match us, hl with | [_], _ => rfl
  have F_Minder_init : FunS K "__init__" "Minder.__init__" s_Minder_init [.int 1, .int 1] f_Minder_init _ := ⟨⟨_, _, _, _, _, _, _, _, _, _, rfl, l_Minder_init, co_Minder_init, .inr ⟨List.cons_ne_nil _ _, _, _, _, _, rfl, lT_Minder_init, rfl, .cons ⟨_, rfl⟩ (.cons ⟨_, rfl⟩ (.nil))⟩, .inl rfl⟩, k_Minder_init⟩
  have F_Minder_way := fun_mk (st := s_Minder_way) l_Minder_way co_Minder_way k_Minder_way
  have b_Minder_way := F_Minder_way.binds (ps := ["self"]) fun _ _ _ _ _ _ us hl => match us, hl with | [_], _ => rfl
  have F_Minder_words := fun_mk (st := s_Minder_words) l_Minder_words co_Minder_words k_Minder_words
  have b_Minder_words := F_Minder_words.binds (ps := ["self"]) fun _ _ _ _ _ _ us hl => match us, hl with | [_], _ => rfl
  have F_law_cell_at := fun_mk (st := s_law_cell_at) l_law_cell_at co_law_cell_at k_law_cell_at
  have b_law_cell_at := F_law_cell_at.binds (ps := ["_law_script", "_law_k"]) fun _ _ _ _ _ _ us hl => match us, hl with | [_, _], _ => rfl
  have F_law_made := fun_mk (st := s_law_made) l_law_made co_law_made k_law_made
  have b_law_made := F_law_made.binds (ps := ["_law_kind", "_law_keep", "_law_many", "_law_grace", "_law_slow", "_law_told"]) fun _ _ _ _ _ _ us hl => match us, hl with | [_, _, _, _, _, _], _ => rfl
  have F_law_words_due := fun_mk (st := s_law_words_due) l_law_words_due co_law_words_due k_law_words_due
  have b_law_words_due := F_law_words_due.binds (ps := ["_law_kind", "_law_keep", "_law_many", "_law_grace", "_law_slow"]) fun _ _ _ _ _ _ us hl => match us, hl with | [_, _, _, _, _], _ => rfl
  have F_law_says := fun_mk (st := s_law_says) l_law_says co_law_says k_law_says
  have b_law_says := F_law_says.binds (ps := ["_law_shape", "_law_due"]) fun _ _ _ _ _ _ us hl => match us, hl with | [_, _], _ => rfl
  have F_law := fun_mk (st := s_law) l_law co_law k_law
  have b_law := F_law.binds (ps := ["_law_script"]) fun _ _ _ _ _ _ us hl => match us, hl with | [_], _ => rfl
  refine ⟨PySem.W.fnOf "law" "law" (defArgs s_law) (defBody s_law) (defScope s_law) .none kV_law dc_law pm_law an_law cd_law ct_law, fun s v => .of_eq rfl, fun base _ _ => ?_⟩
  have S_Shape___init__ : CMt l.prog w K mg base CX0 "Shape" "__init__" 1 ["self", "name", "keep"] [] (spShape (K := K)) := ⟨⟨_, _, _, _, [], mg_Shape, ⟨rd_Shape, ga_Shape⟩, fc_Shape___init__, (ok_Shape_init F_Shape_init), k_Shape_init, b_Shape_init, .nil⟩⟩
  obtain ⟨dt_Leaf___init__, ht_Leaf___init__, hu_Leaf___init__⟩ := F_Leaf_init.binds1 (ps := ["self", "name", "keep", "grace", "slow"]) 5 2 (List.cons_ne_nil _ _) rfl fun _ _ _ _ _ _ _ us its hu hi => match us, hu, its, hi with | [_, _, _, _, _], _, [_, _], _ => ⟨_, rfl, rfl⟩
  have S_Leaf___init__ : CMt l.prog w K mg base CX0 "Leaf" "__init__" 2 ["self", "name", "keep", "grace", "slow"] [] (spLeaf K) := ⟨⟨_, _, _, _, dt_Leaf___init__, mg_Leaf, ⟨rd_Leaf, ga_Leaf⟩, fc_Leaf___init__, (ok_Leaf_init F_Leaf_init S_Shape___init__), k_Leaf_init, hu_Leaf___init__, ht_Leaf___init__⟩⟩
  obtain ⟨ds_Leaf_2, hd_Leaf_2, hb_Leaf_2⟩ := F_Leaf_init.binds1 (ps := ["self", "name", "keep", "grace", "slow"]) 3 0 (List.cons_ne_nil _ _) rfl fun _ _ _ _ _ _ _ us its hu hi => match us, hu, its, hi with | [_, _, _], _, [_, _], _ => ⟨_, rfl, rfl⟩
  have K_Leaf_2 : Mak l.prog w K mg base CX0 "Leaf" c_Leaf 2 ["self", "name", "keep", "grace", "slow"] [.int 0, .int 0] (spLeaf K) := ⟨⟨_, _, ds_Leaf_2, (ok_Leaf_init F_Leaf_init S_Shape___init__), mg_Leaf, ⟨mk_Leaf, a_Leaf___init__, i_Leaf_init, kc_Leaf⟩, hb_Leaf_2, hd_Leaf_2⟩⟩
  obtain ⟨ds_Leaf_3, hd_Leaf_3, hb_Leaf_3⟩ := F_Leaf_init.binds1 (ps := ["self", "name", "keep", "grace", "slow"]) 4 1 (List.cons_ne_nil _ _) rfl fun _ _ _ _ _ _ _ us its hu hi => match us, hu, its, hi with | [_, _, _, _], _, [_, _], _ => ⟨_, rfl, rfl⟩
  have K_Leaf_3 : Mak l.prog w K mg base CX0 "Leaf" c_Leaf 2 ["self", "name", "keep", "grace", "slow"] [.int 0] (spLeaf K) := ⟨⟨_, _, ds_Leaf_3, (ok_Leaf_init F_Leaf_init S_Shape___init__), mg_Leaf, ⟨mk_Leaf, a_Leaf___init__, i_Leaf_init, kc_Leaf⟩, hb_Leaf_3, hd_Leaf_3⟩⟩
  obtain ⟨ds_Leaf_4, hd_Leaf_4, hb_Leaf_4⟩ := F_Leaf_init.binds1 (ps := ["self", "name", "keep", "grace", "slow"]) 5 2 (List.cons_ne_nil _ _) rfl fun _ _ _ _ _ _ _ us its hu hi => match us, hu, its, hi with | [_, _, _, _, _], _, [_, _], _ => ⟨_, rfl, rfl⟩
  have K_Leaf_4 : Mak l.prog w K mg base CX0 "Leaf" c_Leaf 2 ["self", "name", "keep", "grace", "slow"] [] (spLeaf K) := ⟨⟨_, _, ds_Leaf_4, (ok_Leaf_init F_Leaf_init S_Shape___init__), mg_Leaf, ⟨mk_Leaf, a_Leaf___init__, i_Leaf_init, kc_Leaf⟩, hb_Leaf_4, hd_Leaf_4⟩⟩
  obtain ⟨ds_Steady_3, hd_Steady_3, hb_Steady_3⟩ := F_Steady_init.binds1 (ps := ["self", "name", "keep", "many", "grace", "slow"]) 4 0 (List.cons_ne_nil _ _) rfl fun _ _ _ _ _ _ _ us its hu hi => match us, hu, its, hi with | [_, _, _, _], _, [_, _], _ => ⟨_, rfl, rfl⟩
  have K_Steady_3 : Mak l.prog w K mg base CX0 "Steady" c_Steady 3 ["self", "name", "keep", "many", "grace", "slow"] [.int 0, .int 0] (spMany K c_Steady) := ⟨⟨_, _, ds_Steady_3, (ok_Steady_init F_Steady_init cf_Steady S_Leaf___init__), mg_Steady, ⟨mk_Steady, a_Steady___init__, i_Steady_init, kc_Steady⟩, hb_Steady_3, hd_Steady_3⟩⟩
  obtain ⟨ds_Steady_4, hd_Steady_4, hb_Steady_4⟩ := F_Steady_init.binds1 (ps := ["self", "name", "keep", "many", "grace", "slow"]) 5 1 (List.cons_ne_nil _ _) rfl fun _ _ _ _ _ _ _ us its hu hi => match us, hu, its, hi with | [_, _, _, _, _], _, [_, _], _ => ⟨_, rfl, rfl⟩
  have K_Steady_4 : Mak l.prog w K mg base CX0 "Steady" c_Steady 3 ["self", "name", "keep", "many", "grace", "slow"] [.int 0] (spMany K c_Steady) := ⟨⟨_, _, ds_Steady_4, (ok_Steady_init F_Steady_init cf_Steady S_Leaf___init__), mg_Steady, ⟨mk_Steady, a_Steady___init__, i_Steady_init, kc_Steady⟩, hb_Steady_4, hd_Steady_4⟩⟩
  obtain ⟨ds_Steady_5, hd_Steady_5, hb_Steady_5⟩ := F_Steady_init.binds1 (ps := ["self", "name", "keep", "many", "grace", "slow"]) 6 2 (List.cons_ne_nil _ _) rfl fun _ _ _ _ _ _ _ us its hu hi => match us, hu, its, hi with | [_, _, _, _, _, _], _, [_, _], _ => ⟨_, rfl, rfl⟩
  have K_Steady_5 : Mak l.prog w K mg base CX0 "Steady" c_Steady 3 ["self", "name", "keep", "many", "grace", "slow"] [] (spMany K c_Steady) := ⟨⟨_, _, ds_Steady_5, (ok_Steady_init F_Steady_init cf_Steady S_Leaf___init__), mg_Steady, ⟨mk_Steady, a_Steady___init__, i_Steady_init, kc_Steady⟩, hb_Steady_5, hd_Steady_5⟩⟩
  obtain ⟨ds_Faller_3, hd_Faller_3, hb_Faller_3⟩ := F_Faller_init.binds1 (ps := ["self", "name", "keep", "many", "grace", "slow"]) 4 0 (List.cons_ne_nil _ _) rfl fun _ _ _ _ _ _ _ us its hu hi => match us, hu, its, hi with | [_, _, _, _], _, [_, _], _ => ⟨_, rfl, rfl⟩
  have K_Faller_3 : Mak l.prog w K mg base CX0 "Faller" c_Faller 3 ["self", "name", "keep", "many", "grace", "slow"] [.int 0, .int 0] (spMany K c_Faller) := ⟨⟨_, _, ds_Faller_3, (ok_Faller_init F_Faller_init cf_Faller S_Leaf___init__), mg_Faller, ⟨mk_Faller, a_Faller___init__, i_Faller_init, kc_Faller⟩, hb_Faller_3, hd_Faller_3⟩⟩
  obtain ⟨ds_Faller_4, hd_Faller_4, hb_Faller_4⟩ := F_Faller_init.binds1 (ps := ["self", "name", "keep", "many", "grace", "slow"]) 5 1 (List.cons_ne_nil _ _) rfl fun _ _ _ _ _ _ _ us its hu hi => match us, hu, its, hi with | [_, _, _, _, _], _, [_, _], _ => ⟨_, rfl, rfl⟩
  have K_Faller_4 : Mak l.prog w K mg base CX0 "Faller" c_Faller 3 ["self", "name", "keep", "many", "grace", "slow"] [.int 0] (spMany K c_Faller) := ⟨⟨_, _, ds_Faller_4, (ok_Faller_init F_Faller_init cf_Faller S_Leaf___init__), mg_Faller, ⟨mk_Faller, a_Faller___init__, i_Faller_init, kc_Faller⟩, hb_Faller_4, hd_Faller_4⟩⟩
  obtain ⟨ds_Faller_5, hd_Faller_5, hb_Faller_5⟩ := F_Faller_init.binds1 (ps := ["self", "name", "keep", "many", "grace", "slow"]) 6 2 (List.cons_ne_nil _ _) rfl fun _ _ _ _ _ _ _ us its hu hi => match us, hu, its, hi with | [_, _, _, _, _, _], _, [_, _], _ => ⟨_, rfl, rfl⟩
  have K_Faller_5 : Mak l.prog w K mg base CX0 "Faller" c_Faller 3 ["self", "name", "keep", "many", "grace", "slow"] [] (spMany K c_Faller) := ⟨⟨_, _, ds_Faller_5, (ok_Faller_init F_Faller_init cf_Faller S_Leaf___init__), mg_Faller, ⟨mk_Faller, a_Faller___init__, i_Faller_init, kc_Faller⟩, hb_Faller_5, hd_Faller_5⟩⟩
  obtain ⟨ds_Minder_4, hd_Minder_4, hb_Minder_4⟩ := F_Minder_init.binds1 (ps := ["self", "name", "keep", "most", "span"]) 5 2 (List.cons_ne_nil _ _) rfl fun _ _ _ _ _ _ _ us its hu hi => match us, hu, its, hi with | [_, _, _, _, _], _, [_, _], _ => ⟨_, rfl, rfl⟩
  have K_Minder_4 : Mak l.prog w K mg base CX0 "Minder" c_Minder 2 ["self", "name", "keep", "most", "span"] [] (spMinder K c_Minder) := ⟨⟨_, _, ds_Minder_4, (ok_Minder_init F_Minder_init cf_Minder S_Shape___init__), mg_Minder, ⟨mk_Minder, a_Minder___init__, i_Minder_init, kc_Minder⟩, hb_Minder_4, hd_Minder_4⟩⟩
  have M_Leaf_leaf : Mth l.prog w K mg base CX0 c_Leaf "leaf" 1 ["self"] [] (spTruth c_Leaf true) := ⟨⟨_, _, [], (ok_Leaf_leaf F_Leaf_leaf), ⟨a_Leaf_leaf, i_Leaf_leaf, k_Leaf_leaf⟩, b_Leaf_leaf, .nil⟩⟩
  have M_Steady_leaf : Mth l.prog w K mg base CX0 c_Steady "leaf" 1 ["self"] [] (spTruth c_Steady true) := ⟨⟨_, _, [], (ok_Leaf_leaf F_Leaf_leaf), ⟨a_Steady_leaf, i_Leaf_leaf, k_Leaf_leaf⟩, b_Leaf_leaf, .nil⟩⟩
  have M_Faller_leaf : Mth l.prog w K mg base CX0 c_Faller "leaf" 1 ["self"] [] (spTruth c_Faller true) := ⟨⟨_, _, [], (ok_Leaf_leaf F_Leaf_leaf), ⟨a_Faller_leaf, i_Leaf_leaf, k_Leaf_leaf⟩, b_Leaf_leaf, .nil⟩⟩
  have M_Minder_leaf : Mth l.prog w K mg base CX0 c_Minder "leaf" 1 ["self"] [] (spTruth c_Minder false) := ⟨⟨_, _, [], (ok_Shape_leaf F_Shape_leaf), ⟨a_Minder_leaf, i_Shape_leaf, k_Shape_leaf⟩, b_Shape_leaf, .nil⟩⟩
  have M_Leaf_begun_again : Mth l.prog w K mg base CX0 c_Leaf "begun_again" 1 ["self", "word"] [] (spAgain c_Leaf) := ⟨⟨_, _, [], (ok_again F_Shape_begun_again cf_Leaf.cl n_Leaf_keep mg_FALLS sq_FALLS), ⟨a_Leaf_begun_again, i_Shape_begun_again, k_Shape_begun_again⟩, b_Shape_begun_again, .nil⟩⟩
  have M_Steady_begun_again : Mth l.prog w K mg base CX0 c_Steady "begun_again" 1 ["self", "word"] [] (spAgain c_Steady) := ⟨⟨_, _, [], (ok_again F_Shape_begun_again cf_Steady.cl n_Steady_keep mg_FALLS sq_FALLS), ⟨a_Steady_begun_again, i_Shape_begun_again, k_Shape_begun_again⟩, b_Shape_begun_again, .nil⟩⟩
  have M_Faller_begun_again : Mth l.prog w K mg base CX0 c_Faller "begun_again" 1 ["self", "word"] [] (spAgain c_Faller) := ⟨⟨_, _, [], (ok_again F_Shape_begun_again cf_Faller.cl n_Faller_keep mg_FALLS sq_FALLS), ⟨a_Faller_begun_again, i_Shape_begun_again, k_Shape_begun_again⟩, b_Shape_begun_again, .nil⟩⟩
  have M_Minder_begun_again : Mth l.prog w K mg base CX0 c_Minder "begun_again" 1 ["self", "word"] [] (spAgain c_Minder) := ⟨⟨_, _, [], (ok_again F_Shape_begun_again cf_Minder.cl n_Minder_keep mg_FALLS sq_FALLS), ⟨a_Minder_begun_again, i_Shape_begun_again, k_Shape_begun_again⟩, b_Shape_begun_again, .nil⟩⟩
  have M_Leaf_work : Mth l.prog w K mg base CX0 c_Leaf "work" 1 ["self"] [] (spWork c_Leaf 0) := ⟨⟨_, _, [], (ok_Leaf_work F_Leaf_work), ⟨a_Leaf_work, i_Leaf_work, k_Leaf_work⟩, b_Leaf_work, .nil⟩⟩
  have M_Steady_work : Mth l.prog w K mg base CX0 c_Steady "work" 1 ["self"] [] (spWork c_Steady 1) := ⟨⟨_, _, [], (ok_Steady_work F_Steady_work T cf_Steady), ⟨a_Steady_work, i_Steady_work, k_Steady_work⟩, b_Steady_work, .nil⟩⟩
  have M_Faller_work : Mth l.prog w K mg base CX0 c_Faller "work" 1 ["self"] [] (spWork c_Faller 2) := ⟨⟨_, _, [], (ok_Faller_work F_Faller_work T cf_Faller), ⟨a_Faller_work, i_Faller_work, k_Faller_work⟩, b_Faller_work, .nil⟩⟩
  have M_Leaf_words : Mth l.prog w K mg base CX0 c_Leaf "words" 2 ["self"] [] (spWords c_Leaf 0) := ⟨⟨_, _, [], (ok_Leaf_words F_Leaf_words T cf_Leaf (by decide) M_Leaf_work), ⟨a_Leaf_words, i_Leaf_words, k_Leaf_words⟩, b_Leaf_words, .nil⟩⟩
  have M_Steady_words : Mth l.prog w K mg base CX0 c_Steady "words" 2 ["self"] [] (spWords c_Steady 1) := ⟨⟨_, _, [], (ok_Leaf_words F_Leaf_words T (cf_Steady.sub (by decide)) (by decide) M_Steady_work), ⟨a_Steady_words, i_Leaf_words, k_Leaf_words⟩, b_Leaf_words, .nil⟩⟩
  have M_Faller_words : Mth l.prog w K mg base CX0 c_Faller "words" 2 ["self"] [] (spWords c_Faller 2) := ⟨⟨_, _, [], (ok_Leaf_words F_Leaf_words T (cf_Faller.sub (by decide)) (by decide) M_Faller_work), ⟨a_Faller_words, i_Leaf_words, k_Leaf_words⟩, b_Leaf_words, .nil⟩⟩
  have M_Minder_way : Mth l.prog w K mg base CX0 c_Minder "way" 1 ["self"] [] (spSay c_Minder "one") := ⟨⟨_, _, [], (ok_Minder_way F_Minder_way), ⟨a_Minder_way, i_Minder_way, k_Minder_way⟩, b_Minder_way, .nil⟩⟩
  have M_Minder_words : Mth l.prog w K mg base CX0 c_Minder "words" 2 ["self"] [] (spWords c_Minder 3) := ⟨⟨_, _, [], (ok_Minder_words4 F_Minder_words T cf_Minder M_Minder_way), ⟨a_Minder_words, i_Minder_words, k_Minder_words⟩, b_Minder_words, .nil⟩⟩
  have M_Leaf_end_at : Mth l.prog w K mg base CX0 c_Leaf "end_at" 1 ["self", "steps"] [] (spEnd c_Leaf 0) := ⟨⟨_, _, [], (ok_Leaf_end F_Leaf_end_at), ⟨a_Leaf_end_at, i_Leaf_end_at, k_Leaf_end_at⟩, b_Leaf_end_at, .nil⟩⟩
  have M_Steady_end_at : Mth l.prog w K mg base CX0 c_Steady "end_at" 1 ["self", "steps"] [] (spEnd c_Steady 1) := ⟨⟨_, _, [], (ok_Steady_end F_Steady_end_at cf_Steady), ⟨a_Steady_end_at, i_Steady_end_at, k_Steady_end_at⟩, b_Steady_end_at, .nil⟩⟩
  have M_Faller_end_at : Mth l.prog w K mg base CX0 c_Faller "end_at" 1 ["self", "steps"] [] (spEnd c_Faller 2) := ⟨⟨_, _, [], (ok_Faller_end F_Faller_end_at cf_Faller), ⟨a_Faller_end_at, i_Faller_end_at, k_Faller_end_at⟩, b_Faller_end_at, .nil⟩⟩
  have SK : ∀ kind : Int, 0 ≤ kind → kind < 4 → ShK l.prog w K mg base kind (clsOf c_Leaf c_Steady c_Faller c_Minder kind) := shK_of ⟨cf_Leaf.cl, M_Leaf_words, M_Leaf_leaf, M_Leaf_begun_again, fun _ => M_Leaf_end_at⟩ ⟨cf_Steady.cl, M_Steady_words, M_Steady_leaf, M_Steady_begun_again, fun _ => M_Steady_end_at⟩ ⟨cf_Faller.cl, M_Faller_words, M_Faller_leaf, M_Faller_begun_again, fun _ => M_Faller_end_at⟩ ⟨cf_Minder.cl, M_Minder_words, M_Minder_leaf, M_Minder_begun_again, fun h => absurd h (by decide)⟩
  have C_law_cell_at : Cal l.prog w K mg base CX0 "_law_cell_at" 1 ["_law_script", "_law_k"] [] (spCell K) := ⟨⟨_, _, [], (ok_cell F_law_cell_at T), PySem.W.mg_of X G a_law_cell_at, k_law_cell_at, b_law_cell_at, .nil⟩⟩
  have C_law_made : Cal l.prog w K mg base CX0 "_law_made" 5 ["_law_kind", "_law_keep", "_law_many", "_law_grace", "_law_slow", "_law_told"] [] (spMade c_Leaf c_Steady c_Faller c_Minder) := ⟨⟨_, _, [], (ok_made F_law_made cf_Leaf K_Leaf_2 K_Leaf_3 K_Leaf_4 K_Steady_3 K_Steady_4 K_Steady_5 K_Faller_3 K_Faller_4 K_Faller_5 K_Minder_4), PySem.W.mg_of X G a_law_made, k_law_made, b_law_made, .nil⟩⟩
  have C_law_words_due : Cal l.prog w K mg base CX0 "_law_words_due" 1 ["_law_kind", "_law_keep", "_law_many", "_law_grace", "_law_slow"] [] spDue := ⟨⟨_, _, [], (ok_due F_law_words_due T), PySem.W.mg_of X G a_law_words_due, k_law_words_due, b_law_words_due, .nil⟩⟩
  have C_law_says : Cal l.prog w K mg base CX0 "_law_says" 3 ["_law_shape", "_law_due"] [] (spSays K c_Leaf c_Steady c_Faller c_Minder) := ⟨⟨_, _, [], (ok_says F_law_says T SK), PySem.W.mg_of X G a_law_says, k_law_says, b_law_says, .nil⟩⟩
  exact (ok_law F_law T SK C_law_cell_at C_law_made C_law_words_due C_law_says)
theorem walk {l : PySem.W.OpenLaw} {q : Program} {loose : List Str} {XP : (Str → Option Value) → Heap → Prop} {YP : World → Heap → Prop} {d : DefRec} {K : Params → PySem.W.Frag} (hn : l.most = some 63) (hdf : d.params.defaults = [])
    (hY : ∀ (w : World) (h : Heap), YP w h → (K w.params).In h)
    (F : ∀ (w : World) (mg : Str → Option Value) (fa : Addr) (h : Heap), (K w.params).In h → h.Ns mainGlobals mg → mg d.name = some (.ref fa) →
      ∃ fd : FuncData, (∀ (s : Shared) (u : Value), BindsTo s fd ⟨[u], []⟩ [("_law_script", u)]) ∧ ∀ base : Heap, (K w.params).In base → base.Ns mainGlobals mg → FnOk l.prog w (K w.params) mg base CX0 6 fa fd ["_law_script"] (spLaw (K w.params))) :
    PySem.W.WalkO q loose XP YP l.row.toRowW d [] (fun f vs => PySem.call f vs) :=
  L2.walk_of (n := 63) (k := 6) (x := "_law_script") (CX := fun _ => CX0) (sp := fun w => spLaw (K w.params)) hn (by decide) hdf ⟨rfl, by decide, by decide⟩ hY F (fun _ _ a ns hl _ hS => ⟨a, ns, rfl, hS, hl, fun _ => rfl⟩) fun _ _ _ _ _ z => z
end Mn
open PySem PySem.W PyProof.Rows
set_option maxRecDepth 100000 in
set_option maxHeartbeats 0 in
theorem PySem.Challenge.cw_minders_k04_when_a_child_ends_holds : PySem.Challenge.rw_minders_k04_when_a_child_ends.Holds := by
  w_on; o_law; k_head; (case hw => w_witness2)
  k_fill
  refine Mn.walk (l := PySem.Challenge.rw_minders_k04_when_a_child_ends) rfl rfl (fun w h Y => PySem.W.kIn_of Y) ?F
  case F =>
    intro w mg fa h KX G hmg
    refine' Mn.all_mk KX G hmg ?z_len ?z_int ?z_bool ?z_list ?z_max ?z_str ?z_range ?z_isinstance ?a_Shape ?pg_Shape ?hd_Shape ?po_Shape ?sa_Shape ?a_Leaf ?pg_Leaf ?hd_Leaf ?po_Leaf ?sa_Leaf ?n_Leaf_name ?n_Leaf_keep ?n_Leaf_grace ?n_Leaf_slow ?mk_Leaf ?kc_Leaf ?a_Steady ?pg_Steady ?hd_Steady ?po_Steady ?sa_Steady ?n_Steady_name ?n_Steady_keep ?n_Steady_grace ?n_Steady_slow ?n_Steady_many ?mk_Steady ?kc_Steady ?a_Faller ?pg_Faller ?hd_Faller ?po_Faller ?sa_Faller ?n_Faller_name ?n_Faller_keep ?n_Faller_grace ?n_Faller_slow ?n_Faller_many ?mk_Faller ?kc_Faller ?a_Minder ?pg_Minder ?hd_Minder ?po_Minder ?sa_Minder ?n_Minder_name ?n_Minder_keep ?n_Minder_most ?n_Minder_span ?mk_Minder ?kc_Minder ?a_FALLS ?l_FALLS ?a_Shape___init__ ?i_Shape_init ?l_Shape_init ?co_Shape_init ?k_Shape_init ?a_Shape_leaf ?i_Shape_leaf ?l_Shape_leaf ?co_Shape_leaf ?k_Shape_leaf ?a_Shape_begun_again ?i_Shape_begun_again ?l_Shape_begun_again ?co_Shape_begun_again ?k_Shape_begun_again ?a_Leaf___init__ ?i_Leaf_init ?l_Leaf_init ?co_Leaf_init ?k_Leaf_init ?lT_Leaf_init ?a_Leaf_leaf ?i_Leaf_leaf ?l_Leaf_leaf ?co_Leaf_leaf ?k_Leaf_leaf ?a_Leaf_end_at ?i_Leaf_end_at ?l_Leaf_end_at ?co_Leaf_end_at ?k_Leaf_end_at ?a_Leaf_work ?i_Leaf_work ?l_Leaf_work ?co_Leaf_work ?k_Leaf_work ?a_Leaf_words ?i_Leaf_words ?l_Leaf_words ?co_Leaf_words ?k_Leaf_words ?a_Steady___init__ ?i_Steady_init ?l_Steady_init ?co_Steady_init ?k_Steady_init ?lT_Steady_init ?a_Steady_end_at ?i_Steady_end_at ?l_Steady_end_at ?co_Steady_end_at ?k_Steady_end_at ?a_Steady_work ?i_Steady_work ?l_Steady_work ?co_Steady_work ?k_Steady_work ?a_Faller___init__ ?i_Faller_init ?l_Faller_init ?co_Faller_init ?k_Faller_init ?lT_Faller_init ?a_Faller_end_at ?i_Faller_end_at ?l_Faller_end_at ?co_Faller_end_at ?k_Faller_end_at ?a_Faller_work ?i_Faller_work ?l_Faller_work ?co_Faller_work ?k_Faller_work ?a_Minder___init__ ?i_Minder_init ?l_Minder_init ?co_Minder_init ?k_Minder_init ?lT_Minder_init ?a_Minder_way ?i_Minder_way ?l_Minder_way ?co_Minder_way ?k_Minder_way ?a_Minder_words ?i_Minder_words ?l_Minder_words ?co_Minder_words ?k_Minder_words ?a_law_cell_at ?l_law_cell_at ?co_law_cell_at ?k_law_cell_at ?a_law_made ?l_law_made ?co_law_made ?k_law_made ?a_law_words_due ?l_law_words_due ?co_law_words_due ?k_law_words_due ?a_law_says ?l_law_says ?co_law_says ?k_law_says ?a_law ?l_law ?co_law ?k_law ?rd_Shape ?ga_Shape ?fc_Shape___init__ ?rd_Leaf ?ga_Leaf ?fc_Leaf___init__ ?a_Leaf_begun_again ?a_Steady_begun_again ?a_Faller_begun_again ?a_Minder_begun_again ?a_Steady_leaf ?a_Faller_leaf ?a_Minder_leaf ?a_Steady_words ?a_Faller_words
    (case z_len => k_is)
    (case z_int => k_is)
    (case z_bool => k_is)
    (case z_list => k_is)
    (case z_max => k_is)
    (case z_str => k_is)
    (case z_range => k_is)
    (case z_isinstance => k_is)
    (case a_Shape => k_is)
    (case pg_Shape => k_is)
    (case hd_Shape => k_is)
    (case po_Shape => k_is)
    (case sa_Shape => k_is)
    (case a_Leaf => k_is)
    (case pg_Leaf => k_is)
    (case hd_Leaf => k_is)
    (case po_Leaf => k_is)
    (case sa_Leaf => k_is)
    (case n_Leaf_name => k_is)
    (case n_Leaf_keep => k_is)
    (case n_Leaf_grace => k_is)
    (case n_Leaf_slow => k_is)
    (case mk_Leaf => k_is)
    (case kc_Leaf => k_is)
    (case a_Steady => k_is)
    (case pg_Steady => k_is)
    (case hd_Steady => k_is)
    (case po_Steady => k_is)
    (case sa_Steady => k_is)
    (case n_Steady_name => k_is)
    (case n_Steady_keep => k_is)
    (case n_Steady_grace => k_is)
    (case n_Steady_slow => k_is)
    (case n_Steady_many => k_is)
    (case mk_Steady => k_is)
    (case kc_Steady => k_is)
    (case a_Faller => k_is)
    (case pg_Faller => k_is)
    (case hd_Faller => k_is)
    (case po_Faller => k_is)
    (case sa_Faller => k_is)
    (case n_Faller_name => k_is)
    (case n_Faller_keep => k_is)
    (case n_Faller_grace => k_is)
    (case n_Faller_slow => k_is)
    (case n_Faller_many => k_is)
    (case mk_Faller => k_is)
    (case kc_Faller => k_is)
    (case a_Minder => k_is)
    (case pg_Minder => k_is)
    (case hd_Minder => k_is)
    (case po_Minder => k_is)
    (case sa_Minder => k_is)
    (case n_Minder_name => k_is)
    (case n_Minder_keep => k_is)
    (case n_Minder_most => k_is)
    (case n_Minder_span => k_is)
    (case mk_Minder => k_is)
    (case kc_Minder => k_is)
    (case a_FALLS => k_is)
    (case l_FALLS => k_is)
    (case a_Shape___init__ => k_is)
    (case i_Shape_init => k_is)
    (case l_Shape_init => k_is)
    (case co_Shape_init => k_is)
    (case k_Shape_init => k_is)
    (case a_Shape_leaf => k_is)
    (case i_Shape_leaf => k_is)
    (case l_Shape_leaf => k_is)
    (case co_Shape_leaf => k_is)
    (case k_Shape_leaf => k_is)
    (case a_Shape_begun_again => k_is)
    (case i_Shape_begun_again => k_is)
    (case l_Shape_begun_again => k_is)
    (case co_Shape_begun_again => k_is)
    (case k_Shape_begun_again => k_is)
    (case a_Leaf___init__ => k_is)
    (case i_Leaf_init => k_is)
    (case l_Leaf_init => k_is)
    (case co_Leaf_init => k_is)
    (case k_Leaf_init => k_is)
    (case lT_Leaf_init => k_is)
    (case a_Leaf_leaf => k_is)
    (case i_Leaf_leaf => k_is)
    (case l_Leaf_leaf => k_is)
    (case co_Leaf_leaf => k_is)
    (case k_Leaf_leaf => k_is)
    (case a_Leaf_end_at => k_is)
    (case i_Leaf_end_at => k_is)
    (case l_Leaf_end_at => k_is)
    (case co_Leaf_end_at => k_is)
    (case k_Leaf_end_at => k_is)
    (case a_Leaf_work => k_is)
    (case i_Leaf_work => k_is)
    (case l_Leaf_work => k_is)
    (case co_Leaf_work => k_is)
    (case k_Leaf_work => k_is)
    (case a_Leaf_words => k_is)
    (case i_Leaf_words => k_is)
    (case l_Leaf_words => k_is)
    (case co_Leaf_words => k_is)
    (case k_Leaf_words => k_is)
    (case a_Steady___init__ => k_is)
    (case i_Steady_init => k_is)
    (case l_Steady_init => k_is)
    (case co_Steady_init => k_is)
    (case k_Steady_init => k_is)
    (case lT_Steady_init => k_is)
    (case a_Steady_end_at => k_is)
    (case i_Steady_end_at => k_is)
    (case l_Steady_end_at => k_is)
    (case co_Steady_end_at => k_is)
    (case k_Steady_end_at => k_is)
    (case a_Steady_work => k_is)
    (case i_Steady_work => k_is)
    (case l_Steady_work => k_is)
    (case co_Steady_work => k_is)
    (case k_Steady_work => k_is)
    (case a_Faller___init__ => k_is)
    (case i_Faller_init => k_is)
    (case l_Faller_init => k_is)
    (case co_Faller_init => k_is)
    (case k_Faller_init => k_is)
    (case lT_Faller_init => k_is)
    (case a_Faller_end_at => k_is)
    (case i_Faller_end_at => k_is)
    (case l_Faller_end_at => k_is)
    (case co_Faller_end_at => k_is)
    (case k_Faller_end_at => k_is)
    (case a_Faller_work => k_is)
    (case i_Faller_work => k_is)
    (case l_Faller_work => k_is)
    (case co_Faller_work => k_is)
    (case k_Faller_work => k_is)
    (case a_Minder___init__ => k_is)
    (case i_Minder_init => k_is)
    (case l_Minder_init => k_is)
    (case co_Minder_init => k_is)
    (case k_Minder_init => k_is)
    (case lT_Minder_init => k_is)
    (case a_Minder_way => k_is)
    (case i_Minder_way => k_is)
    (case l_Minder_way => k_is)
    (case co_Minder_way => k_is)
    (case k_Minder_way => k_is)
    (case a_Minder_words => k_is)
    (case i_Minder_words => k_is)
    (case l_Minder_words => k_is)
    (case co_Minder_words => k_is)
    (case k_Minder_words => k_is)
    (case a_law_cell_at => k_is)
    (case l_law_cell_at => k_is)
    (case co_law_cell_at => k_is)
    (case k_law_cell_at => k_is)
    (case a_law_made => k_is)
    (case l_law_made => k_is)
    (case co_law_made => k_is)
    (case k_law_made => k_is)
    (case a_law_words_due => k_is)
    (case l_law_words_due => k_is)
    (case co_law_words_due => k_is)
    (case k_law_words_due => k_is)
    (case a_law_says => k_is)
    (case l_law_says => k_is)
    (case co_law_says => k_is)
    (case k_law_says => k_is)
    (case a_law => k_is)
    (case l_law => k_is)
    (case co_law => k_is)
    (case k_law => k_is)
    (case rd_Shape => k_is)
    (case ga_Shape => k_is)
    (case fc_Shape___init__ => k_is)
    (case rd_Leaf => k_is)
    (case ga_Leaf => k_is)
    (case fc_Leaf___init__ => k_is)
    (case a_Leaf_begun_again => k_is)
    (case a_Steady_begun_again => k_is)
    (case a_Faller_begun_again => k_is)
    (case a_Minder_begun_again => k_is)
    (case a_Steady_leaf => k_is)
    (case a_Faller_leaf => k_is)
    (case a_Minder_leaf => k_is)
    (case a_Steady_words => k_is)
    (case a_Faller_words => k_is)
#print axioms PySem.Challenge.cw_minders_k04_when_a_child_ends_holds
