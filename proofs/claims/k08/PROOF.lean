import PyProof.Rows.All
import Wide.All
import OpenK.AllK
import Wide.FinOn
import HandS.ForMost
import HandS.ForExc
import HandS.Defaults
import HandS.Codes
import HandS.ClsMeth
import HandS.TupLe
import HandS.StrMore
import HandS.IsInst
import HandS.SuiteRaise
import HandS.HotCalls
import HandS.ExcIs
import HandS.CallSlots
import KE.RegKIsAll
import HandS.TryElse
import HandS.TryMany
import HandS.WideBits
import PySem.Challenge.RW_minders_k08_so_much_grace

set_option Elab.async false
set_option linter.all false
set_option maxRecDepth 100000
set_option maxHeartbeats 4000000
/-! Mn: rules of my own over HandS: calls whose promise the reading picks. -/
namespace Mn
open PySem PySem.Spec PyProof.Rows L2

/-- a def of the module, by its name, its promise, its defaults -/
structure Cal (P : Program) (w : World) (K : PySem.W.Frag) (mg : Str → Option Value) (base : Heap) (CX : CXT) (x : Str) (k : Nat) (ps : List Str) (dvs : List V) (sp : Sp) : Prop where
  ex : ∃ (f : Addr) (fd : FuncData) (ds : List Value), FnOk P w K mg base CX k f fd ps sp ∧ mg x = some (.ref f) ∧ PySem.W.keepIn K (.ref f) = true ∧ Binds K fd ps ds ∧ Vals dvs ds
/-- a method of the class at C -/
structure Mth (P : Program) (w : World) (K : PySem.W.Frag) (mg : Str → Option Value) (base : Heap) (CX : CXT) (C : Addr) (m : Str) (k : Nat) (ps : List Str) (dvs : List V) (sp : Sp) : Prop where
  ex : ∃ (f : Addr) (fd : FuncData) (ds : List Value), FnOk P w K mg base CX k f fd ps sp ∧ Meth K C m f ∧ Binds K fd ps ds ∧ Vals dvs ds
/-- a class that is made by its name -/
structure Mak (P : Program) (w : World) (K : PySem.W.Frag) (mg : Str → Option Value) (base : Heap) (CX : CXT) (x : Str) (C : Addr) (k : Nat) (ps : List Str) (dvs : List V) (sp : Sp) : Prop where
  ex : ∃ (f : Addr) (fd : FuncData) (ds : List Value), FnOk P w K mg base CX k f fd ps sp ∧ mg x = some (.ref C) ∧ Mk K C f ∧ Binds K fd ps ds ∧ Vals dvs ds
/-- the context stands over these -/
structure Sx (X : Cx) (P : Program) (w : World) (K : PySem.W.Frag) (mg : Str → Option Value) (base : Heap) : Prop where
  p : X.prog = P
  w : X.w = w
  k : X.K = K
  m : X.mg = mg
  b : X.base = base
section
variable {X : Cx} {P : Program} {w : World} {K : PySem.W.Frag} {mg : Str → Option Value} {base : Heap} {CX : CXT} {k : Nat} {E : XK} {x m : Str} {p pos apos : Pos} {e o : Expr} {es : List Expr} {ta : TE} {t : TA}
def tCA (P : Program) (w : World) (K : PySem.W.Frag) (mg : Str → Option Value) (base : Heap) (CX : CXT) (x : Str) (k : Nat) (E : XK) (t : TA) : TE := fun σ H Q => ∃ j ps dvs sp, Cal P w K mg base CX x j ps dvs sp ∧ j ≤ k ∧ t σ H fun vs H1 => sp (vs ++ dvs) H1 Q E
/-- f(e, ..), nothing raised -/
theorem pe_ca (hX : Sx X P w K mg base) (hr : Room k X.A) (hg : Gl X x) (ha : PA X (e :: es) t) (hdb : (x == ("__debug__" : Str)) = false := by decide) (he : starEach (e :: es) X.env = (false, eval e X.env) :: starEach es X.env := by rfl) (hpl : (backTo pos (starEach es X.env)).any (·.1) = false := by rfl) :
    PE X (.Call (.Name x p) (e :: es) [] pos) (tCA P w K mg base CX0 x k E0 t) := by
  obtain ⟨rfl, rfl, rfl, rfl, rfl⟩ := hX
  refine ⟨fun pins s σ H Q I h => ?_⟩
  obtain ⟨j, ps, dvs, sp, C, hj, h⟩ := h
  obtain ⟨f, fd, ds, F, hm, hk, hb, hd⟩ := C.ex
  exact (pe_call F (hr.mono hj) hg hm hk hb hd pass0 ha hdb he hpl).run pins s σ H Q I h
/-- f(), nothing raised -/
theorem pe_ca0 (hX : Sx X P w K mg base) (hr : Room k X.A) (hg : Gl X x) (hdb : (x == ("__debug__" : Str)) = false := by decide) : PE X (.Call (.Name x p) [] [] pos) (tCA P w K mg base CX0 x k E0 tNil) := by
  obtain ⟨rfl, rfl, rfl, rfl, rfl⟩ := hX
  refine ⟨fun pins s σ H Q I h => ?_⟩
  obtain ⟨j, ps, dvs, sp, C, hj, h⟩ := h
  obtain ⟨f, fd, ds, F, hm, hk, hb, hd⟩ := C.ex
  exact (pe_call0 F (hr.mono hj) hg hm hk hb hd pass0 hdb).run pins s σ H Q I h
def tMkA (P : Program) (w : World) (K : PySem.W.Frag) (mg : Str → Option Value) (base : Heap) (CX : CXT) (x : Str) (k : Nat) (E : XK) (t : TA) : TE := fun σ H Q => ∃ C j ps dvs sp, Mak P w K mg base CX x C j ps dvs sp ∧ j + 1 ≤ k ∧ tMake C sp dvs E t σ H Q
theorem pe_mka (hX : Sx X P w K mg base) (hr : Room k X.A) (hg : Gl X x) (ha : PA X (e :: es) t) (hdb : (x == ("__debug__" : Str)) = false := by decide) (he : starEach (e :: es) X.env = (false, eval e X.env) :: starEach es X.env := by rfl) (hpl : (backTo pos (starEach es X.env)).any (·.1) = false := by rfl) :
    PE X (.Call (.Name x p) (e :: es) [] pos) (tMkA P w K mg base CX0 x k E0 t) := by
  obtain ⟨rfl, rfl, rfl, rfl, rfl⟩ := hX
  refine ⟨fun pins s σ H Q I h => ?_⟩
  obtain ⟨C, j, ps, dvs, sp, M, hj, h⟩ := h
  obtain ⟨f, fd, ds, F, hm, hk, hb, hd⟩ := M.ex
  exact (pe_make hk F (hr.mono hj) hg hm hb hd pass0 ha hdb he hpl).run pins s σ H Q I h
theorem pe_mka0 (hX : Sx X P w K mg base) (hr : Room k X.A) (hg : Gl X x) (hdb : (x == ("__debug__" : Str)) = false := by decide) : PE X (.Call (.Name x p) [] [] pos) (tMkA P w K mg base CX0 x k E0 tNil) := by
  obtain ⟨rfl, rfl, rfl, rfl, rfl⟩ := hX
  refine ⟨fun pins s σ H Q I h => ?_⟩
  obtain ⟨C, j, ps, dvs, sp, M, hj, h⟩ := h
  obtain ⟨f, fd, ds, F, hm, hk, hb, hd⟩ := M.ex
  exact (pe_make0 hk F (hr.mono hj) hg hm hb hd pass0 hdb).run pins s σ H Q I h
def tMA (P : Program) (w : World) (K : PySem.W.Frag) (mg : Str → Option Value) (base : Heap) (CX : CXT) (m : Str) (k : Nat) (E : XK) (ta : TE) (t : TA) : TE := fun σ H Q => ta σ H fun xv H1 => ∃ a C dx fs j ps dvs sp, xv = .ref a ∧ H1 a = some (.ins C dx fs) ∧ Cls K C ∧ fs.lookup m = none ∧ Mth P w K mg base CX C m j ps dvs sp ∧ j ≤ k ∧
  t σ H1 fun vs H2 => sp (xv :: (vs ++ dvs)) H2 Q E
/-- o.m(e, ..), o of any own class -/
theorem pe_maX {pl : Sem Bool} (hX : Sx X P w K mg base) (hr : Room k X.A) (hx : Passes CX X E) (he : PE X o ta) (ha : PA X (e :: es) t)
    (hst : starEach (e :: es) X.env = (false, eval e X.env) :: starEach es X.env := by rfl) (hpl : (backTo pos (starEach es X.env)).any (·.1) = false := by rfl)
    (ht : eval (.Call (.Attribute o m apos) (e :: es) [] pos) X.env = (do
      let ov ← eval o X.env
      standAt apos.atName
      let (f, first) ← holding [ov] (getMethod ov m pl)
      callWith pos f first (backTo pos (starEach (e :: es) X.env)) (backToKw pos (keywordEach [] X.env))) := by rfl) :
    PE X (.Call (.Attribute o m apos) (e :: es) [] pos) (tMA P w K mg base CX m k E ta t) := by
  obtain ⟨rfl, rfl, rfl, rfl, rfl⟩ := hX
  refine ⟨fun pins s σ H Q I h => ?_⟩
  refine PySem.W.methodCall_KW (pl := pl) (thn (he.run pins s σ H _ I h) fun u s1 ⟨xv, H1, I1, rx, a, C, dx, fs, j, ps, dvs, sp, ex, ea, c, l, M, hj, q⟩ => ?_) ht
  subst ex
  obtain rfl : u = Value.ref a := rx
  obtain ⟨f, fd, ds, F, hm, hb, hd⟩ := M.ex
  refine getmeth_ok I1 ea c hm l ?_
  refine PySem.W.callWith_K (first := [.ref a]) (h₀ := X.base) I.ok.mod.kin hm.kp (thn (ha.run pos pins s1 σ H1 _ I1 q) fun us s2 ⟨vs, H2, I2, r, q2⟩ => ⟨I2.kIn, ?_⟩) hst hpl
  exact run_fn (us := .ref a :: us) (vs := .ref a :: vs) F (hr.mono hj) hb hd hx I2 (.cons rfl r) q2
theorem pe_maX0 {pl : Sem Bool} (hX : Sx X P w K mg base) (hr : Room k X.A) (hx : Passes CX X E) (he : PE X o ta)
    (ht : eval (.Call (.Attribute o m apos) [] [] pos) X.env = (do
      let ov ← eval o X.env
      standAt apos.atName
      let (f, first) ← holding [ov] (getMethod ov m pl)
      callWith pos f first (backTo pos (starEach [] X.env)) (backToKw pos (keywordEach [] X.env))) := by rfl) :
    PE X (.Call (.Attribute o m apos) [] [] pos) (tMA P w K mg base CX m k E ta tNil) := by
  obtain ⟨rfl, rfl, rfl, rfl, rfl⟩ := hX
  refine ⟨fun pins s σ H Q I h => ?_⟩
  refine PySem.W.methodCall_KW (pl := pl) (thn (he.run pins s σ H _ I h) fun u s1 ⟨xv, H1, I1, rx, a, C, dx, fs, j, ps, dvs, sp, ex, ea, c, l, M, hj, q⟩ => ?_) ht
  subst ex
  obtain rfl : u = Value.ref a := rx
  obtain ⟨f, fd, ds, F, hm, hb, hd⟩ := M.ex
  refine getmeth_ok I1 ea c hm l ?_
  exact PySem.W.callWith_K0 (first := [.ref a]) I1.kIn hm.kp (run_fn (us := [.ref a]) (vs := [.ref a]) F (hr.mono hj) hb hd hx I1 (.cons rfl .nil) q)
theorem pe_ma {pl : Sem Bool} (hX : Sx X P w K mg base) (hr : Room k X.A) (he : PE X o ta) (ha : PA X (e :: es) t)
    (hst : starEach (e :: es) X.env = (false, eval e X.env) :: starEach es X.env := by rfl) (hpl : (backTo pos (starEach es X.env)).any (·.1) = false := by rfl)
    (ht : eval (.Call (.Attribute o m apos) (e :: es) [] pos) X.env = (do
      let ov ← eval o X.env
      standAt apos.atName
      let (f, first) ← holding [ov] (getMethod ov m pl)
      callWith pos f first (backTo pos (starEach (e :: es) X.env)) (backToKw pos (keywordEach [] X.env))) := by rfl) :
    PE X (.Call (.Attribute o m apos) (e :: es) [] pos) (tMA P w K mg base CX0 m k E0 ta t) := pe_maX (pl := pl) hX hr pass0 he ha hst hpl ht
theorem pe_ma0 {pl : Sem Bool} (hX : Sx X P w K mg base) (hr : Room k X.A) (he : PE X o ta)
    (ht : eval (.Call (.Attribute o m apos) [] [] pos) X.env = (do
      let ov ← eval o X.env
      standAt apos.atName
      let (f, first) ← holding [ov] (getMethod ov m pl)
      callWith pos f first (backTo pos (starEach [] X.env)) (backToKw pos (keywordEach [] X.env))) := by rfl) :
    PE X (.Call (.Attribute o m apos) [] [] pos) (tMA P w K mg base CX0 m k E0 ta tNil) := pe_maX0 (pl := pl) hX hr pass0 he ht
/-- a name of the module as a value -/
def tGv (mg : Str → Option Value) (x : Str) : TE := fun _ H Q => ∃ v u, mg x = some u ∧ RelV v u ∧ Q v H
theorem pe_gv (hm : X.mg = mg) (hg : Gl X x) (hd : (x == ("__debug__" : Str)) = false := by decide) : PE X (.Name x p) (tGv mg x) := by
  subst hm
  refine ⟨fun pins s σ H Q I h => ?_⟩
  obtain ⟨v, u, hm, r, q⟩ := h
  exact ld_glob I hg hm ⟨v, H, I, r, q⟩ hd
end
/-! ### == of a list with [] -/
def rEqE : R2 := fun x y H Q => ∃ a b xs, x = .ref a ∧ y = .ref b ∧ H a = some (.lst xs) ∧ H b = some (.lst []) ∧ Q (.bl xs.isEmpty) H
def rNeE : R2 := fun x y H Q => ∃ a b xs, x = .ref a ∧ y = .ref b ∧ H a = some (.lst xs) ∧ H b = some (.lst []) ∧ Q (.bl (!xs.isEmpty)) H
/-! ### readings, step by step -/
section
variable {σ σ' : L2.St} {H H1 : Hp} {Q : VK} {D : Ends} {v x y z : V} {a b : Bool} {i j : Int} {n : Nat} {ta tb tc te : TE} {t u : TT} {s1 s2 : TS} {ar : TA} {r r' : R2} {g : TG} {Qb : Bool → Hp → Prop} {Qa : List V → Hp → Prop} {Qs : L2.St → Hp → Prop} {K : PySem.W.Frag}
theorem w_var (h : σ[n]? = some (some v)) (q : Q v H) : tVar n σ H Q := ⟨v, h, q⟩
theorem w_c (q : Q v H) : tC v σ H Q := q
theorem w_op (q : ta σ H fun x H1 => tb σ H1 fun y H2 => r x y H2 Q) : tOp r ta tb σ H Q := q
theorem w_un {r : V → Hp → VK → Prop} (q : ta σ H fun x H1 => r x H1 Q) : tUn r ta σ H Q := q
theorem w_I0 {f : Int → Int → V} (q : Q (f i j) H) : rI0 f (.int i) (.int j) H Q := ⟨_, _, rfl, rfl, q⟩
theorem w_I {C : Int → Int → Prop} {f : Int → Int → V} (c : C i j) (q : Q (f i j) H) : rI C f (.int i) (.int j) H Q := ⟨_, _, rfl, rfl, c, q⟩
theorem w_U {f : Int → V} (q : Q (f i) H) : rU f (.int i) H Q := ⟨_, rfl, q⟩
theorem w_eq (h : scal x y = true) (q : Q (.bl (decide (x = y))) H) : rEq x y H Q := ⟨h, q⟩
theorem w_ne (h : scal x y = true) (q : Q (.bl (!decide (x = y))) H) : rNe x y H Q := ⟨h, q⟩
theorem w_test (q : te σ H fun x H' => ∃ k, x = .bl k ∧ Qb k H') : tTest te σ H Qb := q
theorem w_B (q : te σ H fun x H' => ∃ k, x = .bl k ∧ Qb k H') : tB te σ H Qb := q
theorem w_bl {R : Bool → Prop} (q : R a) : ∃ k, V.bl a = .bl k ∧ R k := ⟨_, rfl, q⟩
theorem w_and (q : t σ H fun c H1 => if c = true then u σ H1 Qb else Qb false H1) : tAnd t u σ H Qb := q
theorem w_or (q : t σ H fun c H1 => if c = true then Qb true H1 else u σ H1 Qb) : tOr t u σ H Qb := q
theorem w_not (q : t σ H fun c H1 => Qb (!c) H1) : tNot t σ H Qb := q
theorem w_andV (q : ta σ H fun x H1 => ∃ c, x = .bl c ∧ if c = true then tb σ H1 Q else Q (.bl false) H1) : tAndV ta tb σ H Q := q
theorem w_orV (q : ta σ H fun x H1 => ∃ c, x = .bl c ∧ if c = true then Q (.bl true) H1 else tb σ H1 Q) : tOrV ta tb σ H Q := q
theorem w_notV (q : ta σ H fun x H1 => ∃ c, x = .bl c ∧ Q (.bl (!c)) H1) : tNotV ta σ H Q := q
theorem w_chain (q : ta σ H fun x H1 => tb σ H1 fun y H2 => r x y H2 fun z H3 => ∃ k, z = .bl k ∧ (if k = true then tc σ H3 fun z H4 => r' y z H4 Q else Q (.bl false) H3)) : tChain r r' ta tb tc σ H Q := q
theorem w_seq (q : s1 { D with nx := s2 D } σ H) : tSeq s1 s2 D σ H := q
theorem w_next (q : D.nx σ H) : tNext D σ H := q
theorem w_ret (q : te σ H D.rt) : tRet te D σ H := q
theorem w_retN (q : D.rt .non H) : tRetN D σ H := q
theorem w_if (q : t σ H fun b H1 => if b = true then s1 D σ H1 else s2 D σ H1) : tIfS t s1 s2 D σ H := q
theorem w_drop (q : te σ H fun _ H1 => D.nx σ H1) : tDrop te D σ H := q
theorem w_asg (q : te σ H fun x H1 => g x σ H1 D.nx) : tAsg te g D σ H := q
theorem w_name (q : Qs (σ.set n (some v)) H) : gName n v σ H Qs := q
theorem w_name2 (h : σ.set n (some v) = σ') (q : Qs σ' H) : gName n v σ H Qs := by subst h; exact q
theorem w_nil (q : Qa [] H) : tNil σ H Qa := q
theorem w_cons (q : te σ H fun x H1 => ar σ H1 fun xs H2 => Qa (x :: xs) H2) : tCons te ar σ H Qa := q
theorem w_cb {r : List V → Hp → VK → Prop} (q : ar σ H fun vs H1 => r vs H1 Q) : tCB r ar σ H Q := q
theorem w_cont (q : D.ct σ H) : tCont D σ H := q
end
end Mn

namespace Mn
open PySem PySem.Spec PyProof.Rows L2
/-! ### named readings of what has none -/
section
variable {X : Cx} {K : PySem.W.Frag} {σ : L2.St} {H H1 H2 : Hp} {Q : VK} {D : Ends} {v x y z : V} {a b p q : Addr} {i j : Int} {n : Nat} {xs ys zs : List V} {s s' : Str} {Qs : L2.St → Hp → Prop} {Qt : Hp → Prop} {f : Str} {fs : List (Str × V)} {C dx : Addr} {ta tv te to ti : TE} {ar : TA}
theorem same_new (h : H p = none) (o : HO) : Same H (upd H p o) := fun b u q => by rw [upd_ne (ne_of_none q h)]; exact q
theorem same_upd {o : HO} (s : Same H H1) (h : H1 p = none) : Same H (upd H1 p o) := s.trans (same_new h o)
/-- an object that was not there at the start may change -/
theorem same_mut {o : HO} (s : Same H H1) (h : H p = none) : Same H (upd H1 p o) := fun b u q => by rw [upd_ne (ne_of_none q h)]; exact s b u q
theorem sqT_same (e : Same H H1) (h : SqT K H a xs) : SqT K H1 a xs := by
  rcases h with (h | ⟨o, h⟩) | h
  · exact .inl (.inl (e _ _ h))
  · exact .inl (.inr ⟨o, e _ _ h⟩)
  · exact .inr h
theorem rd_same {u : HO} (e : Same H H1) (h : Rd H a u) : Rd H1 a u := by
  rcases h with h | ⟨o, h⟩
  · exact .inl (e _ _ h)
  · exact .inr ⟨o, e _ _ h⟩
def cLenL (K : PySem.W.Frag) : List V → Hp → VK → Prop := fun xs H Q => ∃ p ys, xs = [.ref p] ∧ SqL K H p ys ∧ Q (.int ys.length) H
theorem call_lenL : CallR X (.builtin "len") (cLenL X.K) := fun pins s σ H xs us Q I r h => by
  obtain ⟨p, ys, e, hq, q⟩ := h
  exact call_len_seq pins s σ H xs us Q I r ⟨p, ys, e, .inl hq, q⟩
theorem w_lenL (h : SqL K H p ys) (q : Q (.int ys.length) H) : cLenL K [.ref p] H Q := ⟨_, _, rfl, h, q⟩
def cLenT (K : PySem.W.Frag) : List V → Hp → VK → Prop := fun xs H Q => ∃ p ys, xs = [.ref p] ∧ SqT K H p ys ∧ Q (.int ys.length) H
theorem call_lenT : CallR X (.builtin "len") (cLenT X.K) := fun pins s σ H xs us Q I r h => by
  obtain ⟨p, ys, e, hq, q⟩ := h
  exact call_len_seq pins s σ H xs us Q I r ⟨p, ys, e, .inr hq, q⟩
theorem w_lenT (h : SqT K H p ys) (q : Q (.int ys.length) H) : cLenT K [.ref p] H Q := ⟨_, _, rfl, h, q⟩
def cLenS : List V → Hp → VK → Prop := fun xs H Q => ∃ z, xs = [.str z] ∧ z.length ≤ sizeLine ∧ Q (.int z.length) H
theorem call_lenS : CallR X (.builtin "len") cLenS := call_len_str
theorem w_lenS (h : s.length ≤ sizeLine) (q : Q (.int s.length) H) : cLenS [.str s] H Q := ⟨_, rfl, h, q⟩
def cStrI : List V → Hp → VK → Prop := fun xs H Q => ∃ i, xs = [.int i] ∧ i.natAbs.log2 < 1920 ∧ Q (.str (toString i)) H
theorem call_strI : CallR X (.type "str") cStrI := call_str_int
theorem w_strI (h : i.natAbs.log2 < 1920) (q : Q (.str (toString i)) H) : cStrI [.int i] H Q := ⟨_, rfl, h, q⟩
def cIntS : List V → Hp → VK → Prop := fun xs H Q => ∃ a n, xs = [.str a] ∧ PySem.intText? a = some n ∧ a.length ≤ 640 ∧ Q (.int n) H
theorem call_intS : CallR X (.type "int") cIntS := call_int_str
theorem w_intS (h : PySem.intText? s = some i) (l : s.length ≤ 640) (q : Q (.int i) H) : cIntS [.str s] H Q := ⟨_, _, rfl, h, l, q⟩
def cIntB : List V → Hp → VK → Prop := fun xs H Q => ∃ k, xs = [.bl k] ∧ Q (.int (if k then 1 else 0)) H
theorem call_intB : CallR X (.type "int") cIntB := fun pins s σ H xs us Q I r h => call_int1 pins s σ H xs us Q I r (.inr h)
theorem w_intB {k : Bool} (q : Q (.int (if k then 1 else 0)) H) : cIntB [.bl k] H Q := ⟨_, rfl, q⟩
def cListL (K : PySem.W.Frag) : List V → Hp → VK → Prop := fun xs H Q => ∃ p ys, xs = [.ref p] ∧ SqL K H p ys ∧ ∀ l, H l = none → Q (.ref l) (upd H l (.lst ys))
theorem call_listL : CallR X (.type "list") (cListL X.K) := fun pins s σ H xs us Q I r h => by
  obtain ⟨p, ys, e, hq, q⟩ := h
  exact call_list_of pins s σ H xs us Q I r ⟨p, ys, e, .inl hq, q⟩
theorem w_listL (h : SqL K H p ys) (q : ∀ l, H l = none → Q (.ref l) (upd H l (.lst ys))) : cListL K [.ref p] H Q := ⟨_, _, rfl, h, q⟩
def cDivmod : List V → Hp → VK → Prop := fun xs H Q => ∃ i j, xs = [.int i, .int j] ∧ CDiv i j ∧ ∀ p, H p = none → Q (.ref p) (upd H p (.tup [.int (i / j), .int (i % j)]))
theorem call_divmodI : CallR X (.builtin "divmod") cDivmod := call_divmod
theorem w_divmod (c : CDiv i j) (q : ∀ p, H p = none → Q (.ref p) (upd H p (.tup [.int (i / j), .int (i % j)]))) : cDivmod [.int i, .int j] H Q := ⟨_, _, rfl, c, q⟩
def cMax : List V → Hp → VK → Prop := fun xs H Q => ∃ i j, xs = [.int i, .int j] ∧ Q (.int (if j > i then j else i)) H
theorem call_maxI (hc : X.calm = true) : CallR X (.builtin "max") cMax := call_max2 hc
theorem w_max (q : Q (.int (max i j)) H) : cMax [.int i, .int j] H Q := ⟨_, _, rfl, by
  have e : (if j > i then j else i) = max i j := by rw [Int.max_def]; split <;> split <;> omega
  rw [e]; exact q⟩
def cMin : List V → Hp → VK → Prop := fun xs H Q => ∃ i j, xs = [.int i, .int j] ∧ Q (.int (if j < i then j else i)) H
theorem call_minI (hc : X.calm = true) : CallR X (.builtin "min") cMin := call_min2 hc
theorem w_min (q : Q (.int (min i j)) H) : cMin [.int i, .int j] H Q := ⟨_, _, rfl, by
  have e : (if j < i then j else i) = min i j := by rw [Int.min_def]; split <;> split <;> omega
  rw [e]; exact q⟩
def rAddS : R2 := fun x y H Q => ∃ i j, x = .str i ∧ y = .str j ∧ i.length + j.length ≤ sizeLine ∧ Q (.str (i ++ j)) H
theorem op_addS : OpR X (binaryOp .Add) rAddS := op_add_str
theorem w_addS (h : s.length + s'.length ≤ sizeLine) (q : Q (.str (s ++ s')) H) : rAddS (.str s) (.str s') H Q := ⟨_, _, rfl, rfl, h, q⟩
def rInS : R2 := fun x y H Q => ∃ i j, x = .str i ∧ y = .str j ∧ Q (.bl (!(Builtin.Str.occurrences j i 0 j.length 1).isEmpty)) H
theorem op_inS : OpR X (compareOp .In) rInS := op_in_str
theorem w_inS (q : Q (.bl (!(Builtin.Str.occurrences s' s 0 s'.length 1).isEmpty)) H) : rInS (.str s) (.str s') H Q := ⟨_, _, rfl, rfl, q⟩
def rNinS : R2 := fun x y H Q => ∃ i j, x = .str i ∧ y = .str j ∧ Q (.bl (!(!(Builtin.Str.occurrences j i 0 j.length 1).isEmpty))) H
theorem op_ninS : OpR X (compareOp .NotIn) rNinS := op_notIn_str
theorem w_ninS (q : Q (.bl (!(!(Builtin.Str.occurrences s' s 0 s'.length 1).isEmpty))) H) : rNinS (.str s) (.str s') H Q := ⟨_, _, rfl, rfl, q⟩
def rIsN : R2 := fun x y H Q => y = .non ∧ Q (.bl (decide (x = .non))) H
theorem op_isNn : OpR X (compareOp .Is) rIsN := op_isN
theorem w_isN (q : Q (.bl (decide (x = .non))) H) : rIsN x .non H Q := ⟨rfl, q⟩
def rNotN : R2 := fun x y H Q => y = .non ∧ Q (.bl (!decide (x = .non))) H
theorem op_notNn : OpR X (compareOp .IsNot) rNotN := op_notN
theorem w_notN (q : Q (.bl (!decide (x = .non))) H) : rNotN x .non H Q := ⟨rfl, q⟩
theorem w_ixL (h : SqL K H p xs) (e : atI xs i = some v) (q : Q v H) : rIxL K (.ref p) (.int i) H Q := ⟨_, _, _, _, rfl, rfl, h, e, q⟩
theorem w_ixT (h : SqT K H p xs) (e : atI xs i = some v) (q : Q v H) : rIxT K (.ref p) (.int i) H Q := ⟨_, _, _, _, rfl, rfl, h, e, q⟩
theorem w_ixS {c : Nat} (l : s.length ≤ sizeLine) (e : atI s.cps.toList i = some c) (q : Q (.str ⟨#[c]⟩) H) : rIxS (.str s) (.int i) H Q := ⟨_, _, _, rfl, rfl, l, e, q⟩
theorem w_app (h : H p = some (.lst xs)) (l : xs.length < sizeLine) (q : Q .non (upd H p (.lst (xs ++ [y])))) : rAppend (.ref p) [y] H Q := ⟨_, _, _, rfl, rfl, h, l, q⟩
theorem w_cat (h : H p = some (.lst xs)) (h' : H a = some (.lst ys)) (l : xs.length + ys.length ≤ sizeLine) (q : ∀ r, H r = none → Q (.ref r) (upd H r (.lst (xs ++ ys)))) : rCat (.ref p) (.ref a) H Q := ⟨_, _, _, _, rfl, rfl, h, h', l, q⟩
theorem w_bm {T : String} {r : V → List V → Hp → VK → Prop} (q : to σ H fun x H1 => tyV K T x H1 ∧ ar σ H1 fun xs H2 => r x xs H2 Q) : tBM K T r to ar σ H Q := q
theorem w_bm0 {T : String} {r : V → List V → Hp → VK → Prop} (q : to σ H fun x H1 => tyV K T x H1 ∧ r x [] H1 Q) : tBM0 K T r to σ H Q := q
theorem w_tyL {P : Prop} (h : SqL K H p xs) (q : P) : tyV K "list" (.ref p) H ∧ P := ⟨.inl ⟨rfl, _, h⟩, q⟩
theorem w_tyS {P : Prop} (q : P) : tyV K "str" (.str s) H ∧ P := ⟨rfl, q⟩
theorem w_tyI {P : Prop} (q : P) : tyV K "int" (.int i) H ∧ P := ⟨rfl, q⟩
theorem w_lst (q : ar σ H fun xs H1 => xs.length ≤ sizeLine ∧ ∀ p, H1 p = none → Q (.ref p) (upd H1 p (.lst xs))) : tLst ar σ H Q := q
theorem w_tup (q : ar σ H fun xs H1 => xs.length ≤ sizeLine ∧ ∀ p, H1 p = none → Q (.ref p) (upd H1 p (.tup xs))) : tTup ar σ H Q := q
theorem w_new {P : Addr → Prop} (l : xs.length ≤ sizeLine) (q : ∀ p, H p = none → P p) : xs.length ≤ sizeLine ∧ ∀ p, H p = none → P p := ⟨l, q⟩
theorem w_sl {r : V → Option Int → Option Int → Hp → VK → Prop} {tl th : TO} (q : te σ H fun x H1 => tl σ H1 fun l H2 => th σ H2 fun u H3 => r x l u H3 Q) : tSl r te tl th σ H Q := q
theorem w_part {Qo : Option Int → Hp → Prop} (q : te σ H fun x H1 => ∃ i, x = .int i ∧ Qo (some i) H1) : tPart te σ H Qo := q
theorem w_part1 {R : Int → Prop} (q : R i) : ∃ j, V.int i = .int j ∧ R j := ⟨_, rfl, q⟩
theorem w_nopart {Qo : Option Int → Hp → Prop} (q : Qo none H) : tNoPart σ H Qo := q
theorem w_slL {lo hi : Option Int} (h : SqL K H p xs) (q : ∀ r, H r = none → Q (.ref r) (upd H r (.lst (cutV xs lo hi)))) : rSlL K (.ref p) lo hi H Q := ⟨_, _, rfl, h, q⟩
theorem w_slS {lo hi : Option Int} (l : s.length ≤ sizeLine) (q : Q (.str (cutS s lo hi)) H) : rSlS (.str s) lo hi H Q := ⟨_, rfl, l, q⟩
theorem w_m1 {r : V → List V → Hp → VK → Prop} (q : to σ H fun x H1 => (∃ a, x = .str a) ∧ te σ H1 fun y H2 => r x [y] H2 Q) : tM1 r to te σ H Q := q
theorem w_m0 {r : V → List V → Hp → VK → Prop} (q : to σ H fun x H1 => (∃ a, x = .str a) ∧ r x [] H1 Q) : tM0 r to σ H Q := q
theorem w_isS {P : Prop} (q : P) : (∃ a, V.str s = .str a) ∧ P := ⟨⟨_, rfl⟩, q⟩
/-- e.f at an instance -/
theorem w_fld (q : ta σ H fun x H1 => ∃ a C dx fs v, x = .ref a ∧ H1 a = some (.ins C dx fs) ∧ Cls K C ∧ NoAttr K C f ∧ fs.lookup f = some v ∧ Q v H1) : tFld K ta f σ H Q := q
theorem w_fld1 (h : H a = some (.ins C dx fs)) (c : Cls K C) (n : NoAttr K C f) (l : fs.lookup f = some v) {R : V → Prop} (q : R v) : ∃ a' C dx fs v', V.ref a = .ref a' ∧ H a' = some (.ins C dx fs) ∧ Cls K C ∧ NoAttr K C f ∧ fs.lookup f = some v' ∧ R v' := ⟨_, _, _, _, _, rfl, h, c, n, l, q⟩
theorem w_sfld (q : tv σ H fun y H1 => ta σ H1 fun x H2 => ∃ a C dx fs, x = .ref a ∧ H2 a = some (.ins C dx fs) ∧ Cls K C ∧ NoAttr K C f ∧ fs.length < 1000 ∧ D.nx σ (upd H2 a (.ins C dx (putF f y fs)))) : sFld K ta tv f D σ H := q
theorem w_sfld1 (h : H a = some (.ins C dx fs)) (c : Cls K C) (n : NoAttr K C f) (l : fs.length < 1000) {R : Hp → Prop} (q : R (upd H a (.ins C dx (putF f y fs)))) : ∃ a' C dx fs, V.ref a = .ref a' ∧ H a' = some (.ins C dx fs) ∧ Cls K C ∧ NoAttr K C f ∧ fs.length < 1000 ∧ R (upd H a' (.ins C dx (putF f y fs))) := ⟨_, _, _, _, rfl, h, c, n, l, q⟩
/-- a def's call: its promise -/
theorem w_ca {P : Program} {w : World} {mg : Str → Option Value} {base : Heap} {CX : CXT} {k j : Nat} {ps : List Str} {dvs : List V} {sp : Sp} {E : XK} (c : Cal P w K mg base CX f j ps dvs sp) (hj : j ≤ k) (q : ar σ H fun vs H1 => sp (vs ++ dvs) H1 Q E) : tCA P w K mg base CX f k E ar σ H Q := ⟨_, _, _, _, c, hj, q⟩
/-- a known test -/
theorem w_ite {c A B : Prop} [Decidable c] (h1 : c → A) (h2 : ¬ c → B) : if decide c = true then A else B := by
  by_cases h : c
  · rw [if_pos (decide_eq_true h)]; exact h1 h
  · rw [if_neg (by simp [h])]; exact h2 h
theorem w_iteN {c A B : Prop} [Decidable c] (h1 : ¬ c → A) (h2 : c → B) : if (!decide c) = true then A else B := by
  by_cases h : c
  · rw [if_neg (by simp [h])]; exact h2 h
  · rw [if_pos (by simp [h])]; exact h1 h
theorem w_iteB {c : Bool} {A B : Prop} (h1 : c = true → A) (h2 : c = false → B) : if c = true then A else B := by
  cases c
  · rw [if_neg Bool.false_ne_true]; exact h2 rfl
  · rw [if_pos rfl]; exact h1 rfl
end
/-! ### loops and comprehensions -/
section
variable {K : PySem.W.Frag} {σ : L2.St} {H : Hp} {Q : VK} {D : Ends} {a : Addr} {xs : List V} {g : TG} {tb : TS} {tt : TT} {te tl : TE} {vs : List Nat} {ar : TA}
theorem w_for {wi : TI} (q : wi σ H fun J H1 => ∃ W : Nat → Nat → L2.St → Hp → Prop, (∃ m, W 0 m σ H1) ∧ ∀ i m σ H, W i m σ H →
  (J.stop i H ∧ D.nx σ H) ∨ (J.go i H ∧ ∃ N : L2.St → Hp → Prop, (∀ σ' H', N σ' H' → ∃ m', m' < m ∧ W (i + 1) m' σ' H') ∧ ∀ x H', J.yld i H x H' → g x σ H' fun σ2 H2 => tb { D with nx := N, ct := N, bk := D.nx } σ2 H2)) : tFor wi g tb D σ H := q
theorem w_iList {R : It → Hp → Prop} (q : tl σ H fun x H1 => ∃ a, x = .ref a ∧ (∃ xs, SqL K H1 a xs) ∧ R (Itl K a) H1) : iList K tl σ H R := q
theorem w_iRng {R : It → Hp → Prop} (q : ar σ H fun vs H1 => ∃ j : Int, vs = [.int j] ∧ -(2 ^ 62) ≤ j ∧ j < 2 ^ 62 ∧ R (Itr 0 j.toNat) H1) : iRng1 ar σ H R := q
theorem w_iRng2 {R : It → Hp → Prop} (q : ar σ H fun vs H1 => ∃ i j : Int, vs = [.int i, .int j] ∧ (-(2 ^ 62) ≤ i ∧ i < 2 ^ 62 ∧ -(2 ^ 62) ≤ j ∧ j < 2 ^ 62) ∧ R (Itr i (j - i).toNat) H1) : iRng2 ar σ H R := q
/-- the loop over the list at a: an invariant over turn, slots, heap -/
theorem w_forL (Pv : Nat → L2.St → Hp → Prop) (hS : SqL K H a xs) (h0 : Pv 0 σ H) (hl : ∀ i σ H, i ≤ xs.length → Pv i σ H → SqL K H a xs)
    (hs : ∀ i x σ H, xs[i]? = some x → Pv i σ H → g x σ H fun σ2 H2 => tb { D with nx := Pv (i + 1), ct := Pv (i + 1), bk := D.nx } σ2 H2) (hd : ∀ σ H, Pv xs.length σ H → D.nx σ H) :
    ∃ a', V.ref a = .ref a' ∧ (∃ xs, SqL K H a' xs) ∧ ∃ W : Nat → Nat → L2.St → Hp → Prop, (∃ m, W 0 m σ H) ∧ ∀ i m σ H, W i m σ H →
      ((Itl K a').stop i H ∧ D.nx σ H) ∨ ((Itl K a').go i H ∧ ∃ N : L2.St → Hp → Prop, (∀ σ' H', N σ' H' → ∃ m', m' < m ∧ W (i + 1) m' σ' H') ∧ ∀ x H', (Itl K a').yld i H x H' → g x σ H' fun σ2 H2 => tb { D with nx := N, ct := N, bk := D.nx } σ2 H2) :=
  ⟨a, rfl, ⟨_, hS⟩, for_list Pv h0 hl hs hd⟩
theorem w_forR {n : Int} (Pv : Nat → L2.St → Hp → Prop) (b1 : -(2 ^ 62) ≤ n) (b2 : n < 2 ^ 62) (h0 : Pv 0 σ H)
    (hs : ∀ i σ H, i < n.toNat → Pv i σ H → g (.int (0 + i)) σ H fun σ2 H2 => tb { D with nx := Pv (i + 1), ct := Pv (i + 1), bk := D.nx } σ2 H2) (hd : ∀ σ H, Pv n.toNat σ H → D.nx σ H) :
    ∃ j : Int, [V.int n] = [V.int j] ∧ -(2 ^ 62) ≤ j ∧ j < 2 ^ 62 ∧ ∃ W : Nat → Nat → L2.St → Hp → Prop, (∃ m, W 0 m σ H) ∧ ∀ i m σ H, W i m σ H →
      ((Itr 0 j.toNat).stop i H ∧ D.nx σ H) ∨ ((Itr 0 j.toNat).go i H ∧ ∃ N : L2.St → Hp → Prop, (∀ σ' H', N σ' H' → ∃ m', m' < m ∧ W (i + 1) m' σ' H') ∧ ∀ x H', (Itr 0 j.toNat).yld i H x H' → g x σ H' fun σ2 H2 => tb { D with nx := N, ct := N, bk := D.nx } σ2 H2) :=
  ⟨n, rfl, b1, b2, for_range Pv h0 hs hd⟩
theorem w_lc {wi : TI} (q : wi σ H fun J H1 => ∀ D, H1 D = none → ∃ W : Nat → Nat → Hp → Prop, (∃ m, W 0 m (upd H1 D (.lst []))) ∧ ∀ i m H, W i m H →
  (J.stop i H ∧ Q (.ref D) H) ∨ (J.go i H ∧ ∃ Nx : Hp → Prop, (∀ H', Nx H' → ∃ m', m' < m ∧ W (i + 1) m' H') ∧ ∀ x H', J.yld i H x H' → g x (wipe σ vs) H' fun σ2 H2 => wipe σ2 vs = wipe σ vs ∧ tt σ2 H2 fun b H3 =>
    if b = true then te σ2 H3 fun y H4 => ∃ acc, H4 D = some (.lst acc) ∧ acc.length < sizeLine ∧ Nx (upd H4 D (.lst (acc ++ [y]))) else Nx H3)) : tLc wi g tt te vs σ H Q := q
theorem w_yes {Qb : Bool → Hp → Prop} (q : Qb true H) : tYes σ H Qb := q
/-- a comprehension over the list at a, in general -/
theorem w_lcL {Rq : Addr → Hp → Prop} (Pv : Addr → Nat → Hp → Prop) (hS : SqL K H a xs) (h0 : ∀ C, H C = none → Pv C 0 (upd H C (.lst []))) (hl : ∀ C i H', H C = none → i ≤ xs.length → Pv C i H' → SqL K H' a xs)
    (hs : ∀ C i x H', H C = none → xs[i]? = some x → Pv C i H' → g x (wipe σ vs) H' fun σ2 H2 => wipe σ2 vs = wipe σ vs ∧ tt σ2 H2 fun b H3 =>
      if b = true then te σ2 H3 fun y H4 => ∃ acc, H4 C = some (.lst acc) ∧ acc.length < sizeLine ∧ Pv C (i + 1) (upd H4 C (.lst (acc ++ [y]))) else Pv C (i + 1) H3) (hd : ∀ C H', H C = none → Pv C xs.length H' → Rq C H') :
    ∃ a', V.ref a = .ref a' ∧ (∃ xs, SqL K H a' xs) ∧ ∀ C, H C = none → ∃ W : Nat → Nat → Hp → Prop, (∃ m, W 0 m (upd H C (.lst []))) ∧ ∀ i m H, W i m H →
      ((Itl K a').stop i H ∧ Rq C H) ∨ ((Itl K a').go i H ∧ ∃ Nx : Hp → Prop, (∀ H', Nx H' → ∃ m', m' < m ∧ W (i + 1) m' H') ∧ ∀ x H', (Itl K a').yld i H x H' → g x (wipe σ vs) H' fun σ2 H2 => wipe σ2 vs = wipe σ vs ∧ tt σ2 H2 fun b H3 =>
        if b = true then te σ2 H3 fun y H4 => ∃ acc, H4 C = some (.lst acc) ∧ acc.length < sizeLine ∧ Nx (upd H4 C (.lst (acc ++ [y]))) else Nx H3) :=
  ⟨a, rfl, ⟨_, hS⟩, fun C hC => lc_list (Pv C) (h0 C hC) (fun i H' hi p => hl C i H' hC hi p) (fun i x H' hx p => hs C i x H' hC hx p) fun H' p => hd C H' hC p⟩
theorem w_lcR {Rq : Addr → Hp → Prop} {n : Int} (Pv : Addr → Nat → Hp → Prop) (b1 : -(2 ^ 62) ≤ n) (b2 : n < 2 ^ 62) (h0 : ∀ C, H C = none → Pv C 0 (upd H C (.lst [])))
    (hs : ∀ C i H', H C = none → i < n.toNat → Pv C i H' → g (.int (0 + i)) (wipe σ vs) H' fun σ2 H2 => wipe σ2 vs = wipe σ vs ∧ tt σ2 H2 fun b H3 =>
      if b = true then te σ2 H3 fun y H4 => ∃ acc, H4 C = some (.lst acc) ∧ acc.length < sizeLine ∧ Pv C (i + 1) (upd H4 C (.lst (acc ++ [y]))) else Pv C (i + 1) H3) (hd : ∀ C H', H C = none → Pv C n.toNat H' → Rq C H') :
    ∃ j : Int, [V.int n] = [V.int j] ∧ -(2 ^ 62) ≤ j ∧ j < 2 ^ 62 ∧ ∀ C, H C = none → ∃ W : Nat → Nat → Hp → Prop, (∃ m, W 0 m (upd H C (.lst []))) ∧ ∀ i m H, W i m H →
      ((Itr 0 j.toNat).stop i H ∧ Rq C H) ∨ ((Itr 0 j.toNat).go i H ∧ ∃ Nx : Hp → Prop, (∀ H', Nx H' → ∃ m', m' < m ∧ W (i + 1) m' H') ∧ ∀ x H', (Itr 0 j.toNat).yld i H x H' → g x (wipe σ vs) H' fun σ2 H2 => wipe σ2 vs = wipe σ vs ∧ tt σ2 H2 fun b H3 =>
        if b = true then te σ2 H3 fun y H4 => ∃ acc, H4 C = some (.lst acc) ∧ acc.length < sizeLine ∧ Nx (upd H4 C (.lst (acc ++ [y]))) else Nx H3) :=
  ⟨n, rfl, b1, b2, fun C hC => lc_range (Pv C) (h0 C hC) (fun i H' hi p => hs C i H' hC hi p) fun H' p => hd C H' hC p⟩
/-- what stands behind i items, where each gives a value or none and nothing else changes -/
def LcF (H : Hp) (xs : List V) (f : V → Option V) (C : Addr) (i : Nat) (H' : Hp) : Prop := Same H H' ∧ H' C = some (.lst ((xs.take i).filterMap f))
theorem take_succ' {α : Type} {xs : List α} {i : Nat} {x : α} (h : xs[i]? = some x) : xs.take (i + 1) = xs.take i ++ [x] := by
  rw [List.take_add_one, h]; rfl
theorem lcF_0 {f : V → Option V} {C : Addr} (h : H C = none) : LcF H xs f C 0 (upd H C (.lst [])) := ⟨same_new h _, by rw [upd_same]; rfl⟩
theorem lcF_yes {f : V → Option V} {C : Addr} {i : Nat} {x y : V} {H4 : Hp} (p : LcF H xs f C i H4) (h : H C = none) (hx : xs[i]? = some x) (hf : f x = some y) (hz : xs.length ≤ 100000) :
    ∃ acc, H4 C = some (.lst acc) ∧ acc.length < sizeLine ∧ LcF H xs f C (i + 1) (upd H4 C (.lst (acc ++ [y]))) := by
  refine ⟨_, p.2, ?_, same_mut p.1 h, ?_⟩
  · have h1 := List.length_filterMap_le f (xs.take i)
    rw [List.length_take] at h1
    have h2 := sizeLine_eq
    omega
  · rw [upd_same, take_succ' hx, List.filterMap_append, List.filterMap_cons_some hf]; rfl
theorem lcF_no {f : V → Option V} {C : Addr} {i : Nat} {x : V} {H4 : Hp} (p : LcF H xs f C i H4) (hx : xs[i]? = some x) (hf : f x = none) : LcF H xs f C (i + 1) H4 := by
  refine ⟨p.1, ?_⟩
  rw [p.2, take_succ' hx, List.filterMap_append, List.filterMap_cons_none hf, List.filterMap_nil, List.append_nil]
end
/-! ### isinstance; == of lists of ints -/
section
variable {X : Cx} {K : PySem.W.Frag} {H : Hp} {Q : VK} {a b : Addr} {ns ms : List Int} {x : V}
theorem w_isi {n t : String} {r : Bool} (ty : TyX K H x (.type t)) (k : kitB t n = some r) (q : Q (.bl r) H) : rIsi K [x, .ty n] H Q := ⟨_, _, _, _, _, rfl, ClsV.ty n, ty, kit_ty k, q⟩
theorem dpAll_ints : ∀ ns : List Int, DpAll K H (ns.map V.int) (ns.map PyData.int)
  | [] => .nil
  | n :: r => .cons (.int n) (dpAll_ints r)
theorem eqvAll_ints : ∀ ns ms : List Int, PyData.eqvAll (ns.map PyData.int) (ms.map PyData.int) = decide (ns = ms)
  | [], [] => by simp [PyData.eqvAll]
  | [], _ :: _ => by simp [PyData.eqvAll]
  | _ :: _, [] => by simp [PyData.eqvAll]
  | n :: r, k :: q => by
    simp only [List.map_cons, PyData.eqvAll, PyData.eqv, eqvAll_ints r q]
    by_cases h : n = k <;> simp [h]
theorem eqv_ints : PyData.eqv (.list (ns.map PyData.int)) (.list (ms.map PyData.int)) = decide (ns = ms) := by
  rw [PyData.eqv]; exact eqvAll_ints ns ms
def rEqI (K : PySem.W.Frag) : R2 := fun x y H Q => ∃ (a b : Addr) (ns ms : List Int), x = .ref a ∧ y = .ref b ∧ SqL K H a (ns.map V.int) ∧ SqL K H b (ms.map V.int) ∧ Q (.bl (decide (ns = ms))) H
def rNeI (K : PySem.W.Frag) : R2 := fun x y H Q => ∃ (a b : Addr) (ns ms : List Int), x = .ref a ∧ y = .ref b ∧ SqL K H a (ns.map V.int) ∧ SqL K H b (ms.map V.int) ∧ Q (.bl (!decide (ns = ms))) H
theorem op_eqLI (hu : X.A.units + 64 < cLine) : OpR X (compareOp .Eq) (rEqI X.K) := fun pins s σ H x y v u Q I rx ry h => by
  obtain ⟨a, b, ns, ms, rfl, rfl, h1, h2, q⟩ := h
  exact op_eqD hu pins s σ H _ _ v u Q I rx ry ⟨_, _, .lst h1 (dpAll_ints ns), .lst h2 (dpAll_ints ms), PySem.W.shaped_ints ns, PySem.W.shaped_ints ms, by rw [eqv_ints]; exact q⟩
theorem op_neLI (hu : X.A.units + 64 < cLine) : OpR X (compareOp .NotEq) (rNeI X.K) := fun pins s σ H x y v u Q I rx ry h => by
  obtain ⟨a, b, ns, ms, rfl, rfl, h1, h2, q⟩ := h
  exact op_neD hu pins s σ H _ _ v u Q I rx ry ⟨_, _, .lst h1 (dpAll_ints ns), .lst h2 (dpAll_ints ms), PySem.W.shaped_ints ns, PySem.W.shaped_ints ms, by rw [eqv_ints]; exact q⟩
theorem w_eqLI (h1 : SqL K H a (ns.map V.int)) (h2 : SqL K H b (ms.map V.int)) (q : Q (.bl (decide (ns = ms))) H) : rEqI K (.ref a) (.ref b) H Q := ⟨_, _, _, _, rfl, rfl, h1, h2, q⟩
theorem w_neLI (h1 : SqL K H a (ns.map V.int)) (h2 : SqL K H b (ms.map V.int)) (q : Q (.bl (!decide (ns = ms))) H) : rNeI K (.ref a) (.ref b) H Q := ⟨_, _, _, _, rfl, rfl, h1, h2, q⟩
theorem w_wip {σ σ' : L2.St} {vs : List Nat} {R : Prop} (h : wipe σ vs = wipe σ' vs) (q : R) : wipe σ vs = wipe σ' vs ∧ R := ⟨h, q⟩
theorem map_at {ns : List Int} {i : Nat} {x : V} (h : (ns.map V.int)[i]? = some x) : ∃ n, ns[i]? = some n ∧ x = .int n := by
  rw [List.getElem?_map] at h
  obtain ⟨t, ht, e⟩ := Option.map_eq_some_iff.mp h
  exact ⟨t, ht, e.symm⟩
theorem at_ints {ns : List Int} {k : Int} (h0 : 0 ≤ k) (h : k < (ns.length : Int)) : atI (ns.map V.int) k = some (V.int (ns.getD k.toNat 0)) := by
  refine at_of (j := k.toNat) (by omega) ?_
  rw [List.getElem?_map, List.getElem?_eq_getElem (by omega)]
  simp [List.getD, List.getElem?_eq_getElem (show k.toNat < ns.length by omega)]
theorem at_nat {xs : List V} {k : Int} {i : Nat} {v : V} (e : k = (i : Int)) (h : xs[i]? = some v) : atI xs k = some v := at_of e h
end
theorem kit_ll : kitB "list" "list" = some true := by decide +kernel
theorem kit_ii : kitB "int" "int" = some true := by decide +kernel
theorem kit_ib : kitB "int" "bool" = some false := by decide +kernel
theorem kit_bb : kitB "bool" "bool" = some true := by decide +kernel
theorem kit_tt : kitB "tuple" "tuple" = some true := by decide +kernel
theorem kit_ss : kitB "str" "str" = some true := by decide +kernel
theorem w_cut {t u : TS} {D : Ends} {σ : L2.St} {H : Hp} (Mid : L2.St → Hp → Prop) (h1 : t { D with nx := Mid } σ H) (h2 : ∀ σ' H', Mid σ' H' → u D σ' H') : C8.tCut t u D σ H := ⟨Mid, h1, h2⟩
section
variable {n : L2.St → Hp → Prop} {r : VK} {b c : L2.St → Hp → Prop} {σ : L2.St} {H : Hp} {v : V}
theorem w_nx (q : n σ H) : (Ends.mk n r b c).nx σ H := q
theorem w_rt (q : r v H) : (Ends.mk n r b c).rt v H := q
theorem w_bk (q : b σ H) : (Ends.mk n r b c).bk σ H := q
theorem w_ct (q : c σ H) : (Ends.mk n r b c).ct σ H := q
end
end Mn

namespace Mn
open PySem PySem.Spec PyProof.Rows L2
theorem ltb {n : Nat} (h : Nat.blt n 1000 = true) : n < 1000 := Nat.le_of_ble_eq_true h
/-! ### classes: their attributes -/
structure ClsF (K : PySem.W.Frag) (C : Addr) (fs : List Str) : Prop where
  cl : Cls K C
  no : ∀ f ∈ fs, NoAttr K C f
/-- Class.m(self, ..) -/
structure CMt (P : Program) (w : World) (K : PySem.W.Frag) (mg : Str → Option Value) (base : Heap) (CX : CXT) (x m : Str) (k : Nat) (ps : List Str) (dvs : List V) (sp : Sp) : Prop where
  ex : ∃ (C f : Addr) (mc : Value) (fd : FuncData) (ds : List Value), mg x = some (.ref C) ∧ ClX.CRead K C mc ∧ PySem.W.findCls K (.ref C) mc m = some (.val (.ref f)) ∧ FnOk P w K mg base CX k f fd ps sp ∧ PySem.W.keepIn K (.ref f) = true ∧ Binds K fd ps ds ∧ Vals dvs ds
section
variable {X : Cx} {P : Program} {w : World} {K : PySem.W.Frag} {mg : Str → Option Value} {base : Heap} {CX : CXT} {k : Nat} {E : XK} {x m : Str} {p pos apos : Pos} {e o : Expr} {es : List Expr} {ta : TE} {t : TA}
def tCMA (P : Program) (w : World) (K : PySem.W.Frag) (mg : Str → Option Value) (base : Heap) (CX : CXT) (x m : Str) (k : Nat) (E : XK) (t : TA) : TE := fun σ H Q => ∃ j ps dvs sp, CMt P w K mg base CX x m j ps dvs sp ∧ j ≤ k ∧ t σ H fun vs H1 => sp (vs ++ dvs) H1 Q E
theorem pe_cma {pl : Sem Bool} (hX : Sx X P w K mg base) (hr : Room k X.A) (hg : Gl X x) (ha : PA X (e :: es) t) (hdb : (x == ("__debug__" : Str)) = false := by decide)
    (hst : starEach (e :: es) X.env = (false, eval e X.env) :: starEach es X.env := by rfl) (hpl : (backTo pos (starEach es X.env)).any (·.1) = false := by rfl)
    (ht : eval (.Call (.Attribute (.Name x p) m apos) (e :: es) [] pos) X.env = (do
      let ov ← eval (.Name x p) X.env
      standAt apos.atName
      let (f, first) ← holding [ov] (getMethod ov m pl)
      callWith pos f first (backTo pos (starEach (e :: es) X.env)) (backToKw pos (keywordEach [] X.env))) := by rfl) :
    PE X (.Call (.Attribute (.Name x p) m apos) (e :: es) [] pos) (tCMA P w K mg base CX0 x m k E0 t) := by
  obtain ⟨rfl, rfl, rfl, rfl, rfl⟩ := hX
  refine ⟨fun pins s σ H Q I h => ?_⟩
  obtain ⟨j, ps, dvs, sp, M, hj, h⟩ := h
  obtain ⟨C, f, mc, fd, ds, hm, rd, fc, F, hk, hb, hd⟩ := M.ex
  refine PySem.W.methodCall_KW (pl := pl) (ld_glob I hg hm ?_ hdb) ht
  refine PySem.W.method_cls I.kIn rd.ga (ClX.getcval_ok (v := V.ref f) (u := Value.ref f) I rd ⟨fc, rfl⟩ fun s1 I1 => ?_)
  refine PySem.W.callWith_K (first := []) (h₀ := X.base) I.ok.mod.kin hk (thn (ha.run pos pins s1 σ H _ I1 h) fun us s2 ⟨vs, H2, I2, r, q2⟩ => ⟨I2.kIn, ?_⟩) hst hpl
  exact run_fn F (hr.mono hj) hb hd pass0 I2 r q2
theorem w_cma {σ : L2.St} {H : Hp} {Q : VK} {j : Nat} {ps : List Str} {dvs : List V} {sp : Sp} (c : CMt P w K mg base CX x m j ps dvs sp) (hj : j ≤ k) (q : t σ H fun vs H1 => sp (vs ++ dvs) H1 Q E) : tCMA P w K mg base CX x m k E t σ H Q := ⟨_, _, _, _, c, hj, q⟩
theorem w_mka {σ : L2.St} {H : Hp} {Q : VK} {j : Nat} {ps : List Str} {dvs : List V} {sp : Sp} {C : Addr} (c : Mak P w K mg base CX x C j ps dvs sp) (hj : j + 1 ≤ k) (q : t σ H fun vs H1 => ∀ x dx, H1 x = none → H1 dx = none → dx ≠ x →
  sp (.ref x :: (vs ++ dvs)) (upd (upd H1 dx (.own x)) x (.ins C dx [])) (fun v H2 => v = .non ∧ Q (.ref x) H2) E) : tMkA P w K mg base CX x k E t σ H Q := ⟨_, _, _, _, _, c, hj, q⟩
theorem w_ma {σ : L2.St} {H : Hp} {Q : VK} (q : ta σ H fun xv H1 => ∃ a C dx fs j ps dvs sp, xv = .ref a ∧ H1 a = some (.ins C dx fs) ∧ Cls K C ∧ fs.lookup m = none ∧ Mth P w K mg base CX C m j ps dvs sp ∧ j ≤ k ∧
  t σ H1 fun vs H2 => sp (xv :: (vs ++ dvs)) H2 Q E) : tMA P w K mg base CX m k E ta t σ H Q := q
theorem w_ma1 {H : Hp} {a C dx : Addr} {fs : List (Str × V)} {j : Nat} {ps : List Str} {dvs : List V} {sp : Sp} {R : List V → Sp → Prop} (h : H a = some (.ins C dx fs)) (c : Cls K C) (l : fs.lookup m = none)
    (M : Mth P w K mg base CX C m j ps dvs sp) (hj : j ≤ k) (q : R dvs sp) : ∃ a' C dx fs j ps dvs sp, V.ref a = .ref a' ∧ H a' = some (.ins C dx fs) ∧ Cls K C ∧ fs.lookup m = none ∧ Mth P w K mg base CX C m j ps dvs sp ∧ j ≤ k ∧ R dvs sp :=
  ⟨_, _, _, _, _, _, _, _, rfl, h, c, l, M, hj, q⟩
end
/-! ### lists of texts, is of bools, += -/
section
variable {X : Cx} {K : PySem.W.Frag} {H : Hp} {Q : VK} {a b : Addr} {ns ms : List Str} {x y : V} {D : Ends} {σ : L2.St} {te : TE} {n : Nat} {i j : Int} {p : Bool} {q : Bool}
theorem dpAll_strs : ∀ ns : List Str, DpAll K H (ns.map V.str) (ns.map PyData.str)
  | [] => .nil
  | n :: r => .cons (.str n) (dpAll_strs r)
theorem eqvAll_strs : ∀ ns ms : List Str, PyData.eqvAll (ns.map PyData.str) (ms.map PyData.str) = decide (ns = ms)
  | [], [] => by simp [PyData.eqvAll]
  | [], _ :: _ => by simp [PyData.eqvAll]
  | _ :: _, [] => by simp [PyData.eqvAll]
  | n :: r, k :: q => by
    simp only [List.map_cons, PyData.eqvAll, PyData.eqv, eqvAll_strs r q]
    by_cases h : n = k <;> simp [h]
def okStrs (ns : List Str) : Bool := ns.all PyData.strOk
theorem canLay_strs : ∀ ns : List Str, okStrs ns = true → PyData.canLayAll0 (ns.map PyData.str) = true
  | [], _ => by simp [PyData.canLayAll0]
  | n :: r, h => by
    simp only [okStrs, List.all_cons, Bool.and_eq_true] at h
    simp only [List.map_cons, PyData.canLayAll0, PyData.canLay0, Bool.and_eq_true]
    exact ⟨h.1, canLay_strs r h.2⟩
theorem depth_strs : ∀ ns : List Str, PyData.depthAll (ns.map PyData.str) ≤ 1
  | [] => by simp [PyData.depthAll]
  | n :: r => by
    have := depth_strs r
    simp only [List.map_cons, PyData.depthAll, PyData.depth]
    omega
theorem shaped_strs (h : okStrs ns = true) : SeqAt.shaped (.list (ns.map PyData.str)) = true := by
  have h1 := depth_strs ns
  have h2 : PyData.depth (.list (ns.map PyData.str)) ≤ 64 := by simp only [PyData.depth]; omega
  show (PyData.canLay0 (.list (ns.map PyData.str)) && decide (PyData.depth (.list (ns.map PyData.str)) ≤ 64)) = true
  rw [Bool.and_eq_true]
  exact ⟨by simp only [PyData.canLay0]; exact canLay_strs ns h, decide_eq_true h2⟩
def rEqS (K : PySem.W.Frag) : R2 := fun x y H Q => ∃ (a b : Addr) (ns ms : List Str), x = .ref a ∧ y = .ref b ∧ SqL K H a (ns.map V.str) ∧ SqL K H b (ms.map V.str) ∧ okStrs ns = true ∧ okStrs ms = true ∧ Q (.bl (decide (ns = ms))) H
def rNeS (K : PySem.W.Frag) : R2 := fun x y H Q => ∃ (a b : Addr) (ns ms : List Str), x = .ref a ∧ y = .ref b ∧ SqL K H a (ns.map V.str) ∧ SqL K H b (ms.map V.str) ∧ okStrs ns = true ∧ okStrs ms = true ∧ Q (.bl (!decide (ns = ms))) H
theorem op_eqLS (hu : X.A.units + 64 < cLine) : OpR X (compareOp .Eq) (rEqS X.K) := fun pins s σ H x y v u Q I rx ry h => by
  obtain ⟨a, b, ns, ms, rfl, rfl, h1, h2, o1, o2, q⟩ := h
  exact op_eqD hu pins s σ H _ _ v u Q I rx ry ⟨_, _, .lst h1 (dpAll_strs ns), .lst h2 (dpAll_strs ms), shaped_strs o1, shaped_strs o2, by rw [PyData.eqv, eqvAll_strs]; exact q⟩
theorem op_neLS (hu : X.A.units + 64 < cLine) : OpR X (compareOp .NotEq) (rNeS X.K) := fun pins s σ H x y v u Q I rx ry h => by
  obtain ⟨a, b, ns, ms, rfl, rfl, h1, h2, o1, o2, q⟩ := h
  exact op_neD hu pins s σ H _ _ v u Q I rx ry ⟨_, _, .lst h1 (dpAll_strs ns), .lst h2 (dpAll_strs ms), shaped_strs o1, shaped_strs o2, by rw [PyData.eqv, eqvAll_strs]; exact q⟩
theorem w_eqLS (h1 : SqL K H a (ns.map V.str)) (h2 : SqL K H b (ms.map V.str)) (o1 : okStrs ns = true) (o2 : okStrs ms = true) (q : Q (.bl (decide (ns = ms))) H) : rEqS K (.ref a) (.ref b) H Q := ⟨_, _, _, _, rfl, rfl, h1, h2, o1, o2, q⟩
theorem w_neLS (h1 : SqL K H a (ns.map V.str)) (h2 : SqL K H b (ms.map V.str)) (o1 : okStrs ns = true) (o2 : okStrs ms = true) (q : Q (.bl (!decide (ns = ms))) H) : rNeS K (.ref a) (.ref b) H Q := ⟨_, _, _, _, rfl, rfl, h1, h2, o1, o2, q⟩
def rIsBl : R2 := fun x y H Q => ∃ a b, x = .bl a ∧ y = .bl b ∧ Q (.bl (decide (a = b))) H
theorem op_isB : OpR X (compareOp .Is) rIsBl := op_is_bl
theorem w_isBl (h : Q (.bl (decide (p = q))) H) : rIsBl (.bl p) (.bl q) H Q := ⟨_, _, rfl, rfl, h⟩
theorem w_aug {ti : TIp} (h : σ[n]? = some (some x)) (q : te σ H fun y H1 => ti x y H1 fun z H2 => D.nx (σ.set n (some z)) H2) : tAug n te ti D σ H := ⟨_, h, q⟩
theorem w_ipI {f : Int → Int → Int} (q : Q (.int (f i j)) H) : ipI f (.int i) (.int j) H Q := ⟨_, _, rfl, rfl, q⟩
theorem w_tup_at {xs : List V} {i : Int} {k : Nat} {v : V} (e : i = (k : Int)) (h : xs[k]? = some v) : atI xs i = some v := at_of e h
theorem w_sub {to ti : TE} {ts : TSet} {v : V} {Qs : L2.St → Hp → Prop} (q : to σ H fun o H1 => ti σ H1 fun i H2 => ts o i v H2 fun H3 => Qs σ H3) : gSub to ti ts v σ H Qs := q
theorem w_setL {xs : List V} {k : Nat} {r : Addr} {v : V} {Qh : Hp → Prop} (h : H r = some (.lst xs)) (e : ixN xs.length i = some k) (q : Qh (upd H r (.lst (xs.set k v)))) : rSetL (.ref r) (.int i) v H Qh := ⟨_, _, _, _, rfl, rfl, h, e, q⟩
theorem ixN_of {m k : Nat} (e : i = (k : Int)) (h : k < m) : ixN m i = some k := by
  subst e
  unfold ixN
  rw [if_pos (by omega), if_pos (by omega), Int.toNat_natCast]
end
end Mn

namespace Mn
open PySem PySem.Spec PyProof.Rows L2
/-! ### the rules that name the written part, K told ahead -/
section
variable {X : Cx} {K : PySem.W.Frag} {e a b o value : Expr} {es : List Expr} {f name : Str} {pos pos' tpos apos cpos : Pos} {ta tb tv te to : TE} {t : TA} {tg : Expr}
theorem kFld (hK : X.K = K) (he : PE X e ta) (hb : attributeBase e f X.env (eval e X.env) = eval e X.env := by rfl) : PE X (.Attribute e f pos) (tFld K ta f) := hK ▸ pe_fld he hb
theorem kSFld (hK : X.K = K) (ha : PE X o ta) (hv : PE X value tv) (hs : swapsWith value (some (.Attribute o f pos')) pos.line X.env = pure false := by rfl) : PS X (.Assign [.Attribute o f pos'] value pos) (sFld K ta tv f) := hK ▸ ps_fld ha hv hs
theorem kSFldAug {op : Operator} {rd : V → V → Hp → VK → Prop} (hK : X.K = K) (ha : PE X o ta) (hv : PE X value tv) (hop : InOp X op rd) : PS X (.AugAssign (.Attribute o f tpos) op value pos) (sFldAug K ta tv rd f) := hK ▸ ps_fldaug ha hv hop
theorem kIxL (hK : X.K = K) : IxR X (rIxL K) := hK ▸ ix_list
theorem kIxT (hK : X.K = K) : IxR X (rIxT K) := hK ▸ ix_tup
theorem kLenL (hK : X.K = K) : CallR X (.builtin "len") (cLenL K) := hK ▸ call_lenL
theorem kLenT (hK : X.K = K) : CallR X (.builtin "len") (cLenT K) := hK ▸ call_lenT
theorem kListL (hK : X.K = K) : CallR X (.type "list") (cListL K) := hK ▸ call_listL
theorem kSorted (hK : X.K = K) : CallR X (.builtin "sorted") (rSorted K) := hK ▸ cr_sorted
theorem kIsi (hK : X.K = K) : CallR X (.builtin "isinstance") (rIsi K) := hK ▸ call_isi
theorem kPiL (hK : X.K = K) (hl : PE X e te) : PI X tg e (iList K te) := hK ▸ pi_list hl
theorem kPiT (hK : X.K = K) (hl : PE X e te) : PI X tg e (iTup K te) := hK ▸ pi_tup hl
theorem kSlL (hK : X.K = K) : SlR X (rSlL K) := hK ▸ sl_list
theorem kIn (hK : X.K = K) : OpR X (compareOp .In) (rIn K false) := hK ▸ op_in_seq
theorem kNotIn (hK : X.K = K) : OpR X (compareOp .NotIn) (rIn K true) := hK ▸ op_notIn_seq
theorem kEqI (hK : X.K = K) (hu : X.A.units + 64 < cLine) : OpR X (compareOp .Eq) (rEqI K) := hK ▸ op_eqLI hu
theorem kNeI (hK : X.K = K) (hu : X.A.units + 64 < cLine) : OpR X (compareOp .NotEq) (rNeI K) := hK ▸ op_neLI hu
theorem kEqS (hK : X.K = K) (hu : X.A.units + 64 < cLine) : OpR X (compareOp .Eq) (rEqS K) := hK ▸ op_eqLS hu
theorem kNeS (hK : X.K = K) (hu : X.A.units + 64 < cLine) : OpR X (compareOp .NotEq) (rNeS K) := hK ▸ op_neLS hu
theorem kEqD (hK : X.K = K) (hu : X.A.units + 64 < cLine) : OpR X (compareOp .Eq) (rEqD K) := hK ▸ op_eqD hu
theorem kNeD (hK : X.K = K) (hu : X.A.units + 64 < cLine) : OpR X (compareOp .NotEq) (rNeD K) := hK ▸ op_neD hu
theorem kIndex (hK : X.K = K) : MtR X "list.index" (rIndex K) := hK ▸ mt_index
theorem kTup {k : Nat} {n : Nat} {gs : TGs} (hK : X.K = K) (hc : X.calm = true) (h : PGs X es gs)
    (hn : (assignEach es X.env).length = n := by rfl) (hst : (assignEach es X.env).findIdx? (·.1) = none := by rfl) : PG X (.Tuple es k pos) (gTup K n gs) := hK ▸ pg_tup hc h hn hst
theorem kBm {T id : String} {r : V → List V → Hp → VK → Prop} (hK : X.K = K) (pa : PlainAttrs T) (slot : Slot T name id) (hty : typeOf (.builtin id) = pure (.type "method_descriptor")) (hm : MtR X id r) (ho : PE X o to) (ha : PA X (e :: es) t)
    (hbase : attributeBase o name X.env (eval o X.env) = eval o X.env := by rfl)
    (hfew : ((backTo cpos (starEach (e :: es) X.env)).all (fun x => !x.1) && (backToKw cpos (keywordEach [] X.env)).all (fun x => x.1.isSome)
      && decide ((e :: es).length + ([] : List Keyword).length + (if ([] : List Keyword).isEmpty then 0 else 1) < 30)) = true := by rfl)
    (hline : (apos.endLine == cpos.line) = true := by rfl) (hs : starEach (e :: es) X.env = (false, eval e X.env) :: starEach es X.env := by rfl) (hplain : (backTo cpos (starEach es X.env)).any (·.1) = false := by rfl) : PE X (.Call (.Attribute o name apos) (e :: es) [] cpos) (tBM K T r to t) := hK ▸ pe_bm pa slot hty hm ho ha hbase hfew hline hs hplain
theorem kBm0 {T id : String} {r : V → List V → Hp → VK → Prop} (hK : X.K = K) (pa : PlainAttrs T) (slot : Slot T name id) (hty : typeOf (.builtin id) = pure (.type "method_descriptor")) (hm : MtR X id r) (ho : PE X o to)
    (hbase : attributeBase o name X.env (eval o X.env) = eval o X.env := by rfl) (hline : (apos.endLine == cpos.line) = true := by rfl) : PE X (.Call (.Attribute o name apos) [] [] cpos) (tBM0 K T r to) := hK ▸ pe_bm0 pa slot hty hm ho hbase hline
end
end Mn

namespace Mn
open PySem L2
/-! ### texts that can be laid -/
theorem strOk_of (s : String) : PyData.strOk (Str.ofString s) = true := by
  rw [Str.ofString_eq_toList]
  show (List.toArray (s.toList.map Char.toNat)).all (fun n => decide (n < 0x110000)) = true
  rw [List.all_toArray, List.all_map, List.all_eq_true]
  intro c _
  refine decide_eq_true ?_
  have h := c.valid
  show c.val.toNat < 0x110000
  rcases h with h | h
  · exact Nat.lt_trans h (by decide)
  · exact h.2
theorem okStrs_cons {n : Str} {r : List Str} (h : PyData.strOk n = true) (t : okStrs r = true) : okStrs (n :: r) = true := by
  simp only [okStrs, List.all_cons, Bool.and_eq_true] at t ⊢
  exact ⟨h, t⟩
/-- a number whose digits are fewer than 577 -/
def Smol (i : Int) : Prop := i.natAbs.log2 < 1920
theorem smol_of {i : Int} (h : i.natAbs < 2 ^ 64) : Smol i := by
  unfold Smol
  by_cases h0 : i.natAbs = 0
  · rw [h0]; decide
  · have := (Nat.log2_lt h0).mpr h
    omega
abbrev FunS (K : PySem.W.Frag) (x qual : Str) (st : Stmt) (dvs : List V) (f : Addr) (fd : FuncData) : Prop := FunD K x qual (defArgs st) (defBody st) (defScope st) dvs [] f fd
/-! ### names of the module, x in a tuple | list -/
section
variable {K : PySem.W.Frag} {mg : Str → Option Value} {σ : L2.St} {H : Hp} {Q : VK} {x : Str} {v y : V} {u : Value} {p : Addr} {xs : List V}
theorem w_gv (h : mg x = some u) (r : RelV v u) (q : Q v H) : tGv mg x σ H Q := ⟨v, u, h, r, q⟩
theorem w_inT (h : SqT K H p xs) (fx : flatV y = true) (fs : xs.all flatV = true) (q : Q (.bl (inV y xs)) H) : rIn K false y (.ref p) H Q := ⟨p, xs, rfl, .inr h, fx, fs, q⟩
theorem w_inL (h : SqL K H p xs) (fx : flatV y = true) (fs : xs.all flatV = true) (q : Q (.bl (inV y xs)) H) : rIn K false y (.ref p) H Q := ⟨p, xs, rfl, .inl h, fx, fs, q⟩
theorem w_ninT (h : SqT K H p xs) (fx : flatV y = true) (fs : xs.all flatV = true) (q : Q (.bl (!inV y xs)) H) : rIn K true y (.ref p) H Q := ⟨p, xs, rfl, .inr h, fx, fs, q⟩
theorem w_ninL (h : SqL K H p xs) (fx : flatV y = true) (fs : xs.all flatV = true) (q : Q (.bl (!inV y xs)) H) : rIn K true y (.ref p) H Q := ⟨p, xs, rfl, .inl h, fx, fs, q⟩
end
theorem inV2 (x a b : Str) : inV (.str x) [.str a, .str b] = (decide (x = a) || decide (x = b)) := by
  unfold inV
  simp only [List.any_cons, List.any_nil, Bool.or_false]
  have e : ∀ a : Str, eqV (.str a) (.str x) = decide (x = a) := fun a => by
    show decide (a = x) = decide (x = a)
    exact decide_eq_decide.mpr ⟨Eq.symm, Eq.symm⟩
  rw [e, e]
theorem inV_int {z : Int} {l : List Int} : inV (.int z) (l.map V.int) = decide (z ∈ l) := by
  rw [Bool.eq_iff_iff, decide_eq_true_eq]
  unfold inV
  rw [List.any_map, List.any_eq_true]
  constructor
  · rintro ⟨y, hy, e⟩
    have e : decide (y = z) = true := e
    rw [← of_decide_eq_true e]
    exact hy
  · exact fun h => ⟨z, h, decide_eq_true rfl⟩
end Mn

/-! ### errors of own classes: raised, caught, handed to a def in the suite -/
namespace Mn
open PySem PySem.Spec PyProof.Rows L2 L2H
/-- the wish of a def's caller, slots aside -/
abbrev wE (E : XK) : WX := fun c d _ H => E c d H
abbrev CXN (P : Program) (w : World) : CXT := L2N.CX P w
section
variable {X : Cx} {P : Program} {w : World} {K : PySem.W.Frag} {mg : Str → Option Value} {base : Heap} {k : Nat} {W : WX} {x m : Str} {p pos apos : Pos} {e o : Expr} {es : List Expr} {ta : TE} {t : TA}
/-- f(e, ..) of a def that may raise; W takes what it lets out -/
def tCE (P : Program) (w : World) (K : PySem.W.Frag) (mg : Str → Option Value) (base : Heap) (x : Str) (k : Nat) (W : WX) (t : TA) : TE := fun σ H Q => ∃ j ps dvs sp, Cal P w K mg base (CXN P w) x j ps dvs sp ∧ j ≤ k ∧ t σ H fun vs H1 => sp (vs ++ dvs) H1 Q (WE W σ)
theorem pe_cae (hX : Sx X P w K mg base) (hr : Room k X.A) (hg : Gl X x) (tk : L2N.Takes X W) (ha : PA X (e :: es) t) (hdb : (x == ("__debug__" : Str)) = false := by decide) (he : starEach (e :: es) X.env = (false, eval e X.env) :: starEach es X.env := by rfl)
    (hpl : (backTo pos (starEach es X.env)).any (·.1) = false := by rfl) : PE X (.Call (.Name x p) (e :: es) [] pos) (tCE P w K mg base x k W t) := by
  obtain ⟨rfl, rfl, rfl, rfl, rfl⟩ := hX
  refine ⟨fun pins s σ H Q I h => ?_⟩
  obtain ⟨j, ps, dvs, sp, C, hj, h⟩ := h
  obtain ⟨f, fd, ds, F, hm, hk, hb, hd⟩ := C.ex
  refine wpAny_Call_Name_kw (ld_glob I hg hm ?_ hdb)
  refine PySem.W.callWith_K (h₀ := X.base) I.ok.mod.kin hk (thn (ha.run pos pins s σ H _ I h) fun us s1 ⟨vs, H1, I1, r, q⟩ => ⟨I1.kIn, ?_⟩) he hpl
  exact run_fnSD F (hr.mono hj) hb hd (L2N.passAt tk σ) I1 r q
theorem w_cae {σ : L2.St} {H : Hp} {Q : VK} {j : Nat} {ps : List Str} {dvs : List V} {sp : Sp} (c : Cal P w K mg base (CXN P w) x j ps dvs sp) (hj : j ≤ k) (q : t σ H fun vs H1 => sp (vs ++ dvs) H1 Q (WE W σ)) : tCE P w K mg base x k W t σ H Q := ⟨_, _, _, _, c, hj, q⟩
end
/-! ### a def that the suite calls with the error that it holds -/
/-- its promise may speak of the error's address and class -/
structure FnE (P : Program) (w : World) (K : PySem.W.Frag) (mg : Str → Option Value) (base : Heap) (k : Nat) (f : Addr) (fd : FuncData) (ps : List Str) (sp : Addr → Value → Option Addr → Sp) : Prop where
  len : ∀ a c d vs H Q E, sp a c d vs H Q E → vs.length = ps.length
  run : ∀ (A : Around) (outer : List Env) (s : Shared) (H : Hp) (args : Args) (us : List Value) (vs : List V) (Q : VK) (E : XK) (q : Addr × Obj) (c : Value) (d : Option Addr), RoomH k A → Hot1 A q → L2N.Zn c d q.2 → PinOk outer H s q → Env0 P w K mg base A outer s H →
    BindsTo s fd args (ps.zip us) → Vals vs us → sp q.1 c d vs H Q E → codeAny (model P w) A (.call (.ref f) args) (CR CX0 outer P w H s Q E) s
theorem hot_fields {A : Around} {q : Addr × Obj} (h : Hot1 A q) : ∃ vs, q.2.data = .fields vs := ⟨_, h.2.choose_spec.1⟩
/-- the rule for such a def -/
theorem fnE_of {P : Program} {w : World} {K : PySem.W.Frag} {mg : Str → Option Value} {base : Heap} {k : Nat} {x qual : Str} {st : Stmt} {f : Addr} {fd : FuncData} {N ps : List Str} {sp : Addr → Value → Option Addr → Sp} (F : Fun K x qual st f fd) (S : FnScope N ps (defScope st))
    (len : ∀ a c d vs H Q E, sp a c d vs H Q E → vs.length = ps.length)
    (hbody : ∀ (cdv : Value) (A : Around) (outer : List Env) (s : Shared) (H : Hp) (vs : List V) (Q : VK) (E : XK) (q : Addr × Obj) (c : Value) (d : Option Addr), Hot1 A q → L2N.Zn c d q.2 → RoomH k (A.deeper (envOfC qual (defScope st) s.heap.objs.size f cdv)) → sp q.1 c d vs H Q E →
      ∃ t, PSs (cxH CX0 P w K mg base N qual (defScope st) f cdv A outer s H E q) (defBody st) t ∧ t { nx := fun _ H' => Q .non H', rt := Q } (L2.start N vs) H) : FnE P w K mg base (k + 1) f fd ps sp := by
  obtain ⟨oc, od, kV, doc, pm, an, cdv, ct, osl, rfl, lk, hcd⟩ := F.ex
  refine ⟨len, fun A outer s H args us vs Q E q c d hr hot hz hpin e0 hb r hsp => ?_⟩
  -- the def is found, its frame is made
  have inK : K.In s.heap := e0.mod.kin.keeps fun b o z => (e0.bs b o z).1
  have noLim : s.heap.NoLimit := e0.mod.nolimit.keeps fun b o z => (e0.bs b o z).1
  refine codeAny_call_function hr.depth (inK _ _ lk) rfl S.co S.gen rfl (PySem.W.codeRec_of inK hcd) (hb _ _ _ _ ?_)
  refine wpAny_newFunctionEnv_cells S.kind (fun y hy => ?_) fun env he s1 z => ?_
  · rcases S.par y.1 (List.of_mem_zip hy).1 with loc | cell
    · exact .inl loc
    · exact .inr ⟨cell, PySem.W.cellsFrom_some _ _ _ (.inl cell)⟩
  subst he
  refine ⟨noLim.keeps z.toInCall.keep, codeAny_func ?_⟩
  -- its body
  obtain ⟨t, ht, hq⟩ := hbody cdv A outer s H vs Q E q c d hot hz (hr.deeper _) hsp
  have I := inv_startH (CX := CX0) (E := E) S hpin e0 (len _ _ _ _ _ _ _ hsp) r z
  refine wpAny_mono (ht.run [] s1 (L2.start N vs) H _ I hq) (fun fl s' hs => ?_) fun _ _ hs => hs
  cases fl with
  | brk => exact hs.choose_spec.choose_spec.2.elim
  | cont => exact hs.choose_spec.choose_spec.2.elim
  | next =>
    obtain ⟨σ', H', J, q'⟩ := hs
    exact ⟨V.non, H', J.os, J.bare, J.base, J.hok, rfl, q'⟩
  | ret u =>
    obtain ⟨v, σ', H', J, rv, q'⟩ := hs
    exact ⟨v, H', J.os, J.bare, J.base, J.hok, rv, q'⟩
structure CalE (P : Program) (w : World) (K : PySem.W.Frag) (mg : Str → Option Value) (base : Heap) (x : Str) (k : Nat) (ps : List Str) (sp : Addr → Value → Option Addr → Sp) : Prop where
  ex : ∃ (f : Addr) (fd : FuncData), FnE P w K mg base k f fd ps sp ∧ mg x = some (.ref f) ∧ PySem.W.keepIn K (.ref f) = true ∧ Binds K fd ps []
section
variable {X : Cx} {P : Program} {w : World} {K : PySem.W.Frag} {mg : Str → Option Value} {base : Heap} {k : Nat} {x : Str} {p pos : Pos} {e : Expr} {es : List Expr} {t : TA} {q : Addr × Obj} {c : Value} {d : Option Addr}
def tCH (P : Program) (w : World) (K : PySem.W.Frag) (mg : Str → Option Value) (base : Heap) (x : Str) (k : Nat) (a : Addr) (c : Value) (d : Option Addr) (t : TA) : TE := fun σ H Q => ∃ j ps sp, CalE P w K mg base x j ps sp ∧ j ≤ k ∧ t σ H fun vs H1 => sp a c d vs H1 Q E0
theorem pe_cah (hX : Sx X P w K mg base) (hr : RoomH k X.A) (hot : Hot1 X.A q) (hq : q ∈ X.pn) (hz : L2N.Zn c d q.2) (hg : Gl X x) (ha : PA X (e :: es) t) (hdb : (x == ("__debug__" : Str)) = false := by decide)
    (he : starEach (e :: es) X.env = (false, eval e X.env) :: starEach es X.env := by rfl) (hpl : (backTo pos (starEach es X.env)).any (·.1) = false := by rfl) : PE X (.Call (.Name x p) (e :: es) [] pos) (tCH P w K mg base x k q.1 c d t) := by
  obtain ⟨rfl, rfl, rfl, rfl, rfl⟩ := hX
  refine ⟨fun pins s σ H Q I h => ?_⟩
  obtain ⟨j, ps, sp, C, hj, h⟩ := h
  obtain ⟨f, fd, F, hm, hk, hb⟩ := C.ex
  refine wpAny_Call_Name_kw (ld_glob I hg hm ?_ hdb)
  refine PySem.W.callWith_K (h₀ := X.base) I.ok.mod.kin hk (thn (ha.run pos pins s σ H _ I h) fun us s1 ⟨vs, H1, I1, r, h1⟩ => ⟨I1.kIn, ?_⟩) he hpl
  -- the error stands where nothing else reaches
  have at_ := I1.pin q (List.mem_append_left _ hq)
  have pin : PinOk X.stack H1 s1 q := ⟨at_.1, at_.2.1, fun z => (List.mem_cons.mp (I1.stkSub q.1 z)).elim at_.2.2.1 at_.2.2.2.1, at_.2.2.2.2⟩
  have n : us.length = ps.length := r.length.symm.trans (F.len _ _ _ _ _ _ _ h1)
  have b := hb s1 us I1.kIn (by rw [List.append_nil]; exact n)
  rw [List.append_nil] at b
  refine wpAny_call (codeAny_mono (F.run X.A X.stack s1 H1 ⟨us, []⟩ us vs Q E0 q c d (hr.mono hj) hot hz pin I1.env0 b r h1) fun z s' hs => ?_)
  cases z with
  | error _ => exact hs.elim
  | ok fl => cases fl with
    | ret u => exact I1.after hs
    | next => exact hs.elim
    | brk => exact hs.elim
    | cont => exact hs.elim
theorem w_cah {σ : L2.St} {H : Hp} {Q : VK} {j : Nat} {ps : List Str} {sp : Addr → Value → Option Addr → Sp} {a : Addr} (C : CalE P w K mg base x j ps sp) (hj : j ≤ k) (h : t σ H fun vs H1 => sp a c d vs H1 Q E0) : tCH P w K mg base x k a c d t σ H Q := ⟨_, _, _, C, hj, h⟩
/-- isinstance(e, c) where the error is pinned -/
theorem call_isP {D : Addr} (hq : q ∈ X.pn) (C : ExcC X.K D) (hz : Zc (.ref D) none q.2) (hf : ∃ vs, q.2.data = .fields vs) : CallR X (.builtin "isinstance") (rIsE X.K D q.1) := by
  intro pins s σ H xs us Q I r h
  obtain ⟨c, cv, b, rfl, hcv, hk, h⟩ := h
  obtain ⟨vs, hv⟩ := hf
  have g := (I.pin q (List.mem_append_left _ hq)).1
  have J : PySem.W.InstAt s.heap q.1 q.2 D none := by
    obtain ⟨qa, oc, od, oda, osl⟩ := q
    obtain ⟨h1, h2⟩ := hz
    dsimp only at h1 h2 hv
    subst h1 h2 hv
    exact ⟨g, rfl, rfl, trivial⟩
  match us, r with
  | [u1, u2], .cons r1 (.cons r2 .nil) =>
    obtain rfl : u1 = Value.ref q.1 := r1
    obtain rfl := hcv _ r2
    exact PySem.W.kia_one (PySem.W.handS_kitx_exc C.hg C.hk C.hs C.hd C.ha C.hn C.ht C.hm) I.kIn J hk (fun z => nomatch z) fun tk => ⟨.bl b, H, I.kept (t' := tk) fun _ _ z => z, rfl, h⟩
theorem kIsP {K : PySem.W.Frag} {D : Addr} (hK : X.K = K) (hq : q ∈ X.pn) (C : ExcC K D) (hz : Zc (.ref D) none q.2) (hf : ∃ vs, q.2.data = .fields vs) : CallR X (.builtin "isinstance") (rIsE K D q.1) := by
  subst hK
  exact call_isP hq C hz hf
theorem w_isE {K : PySem.W.Frag} {D a : Addr} {v : V} {cv : Value} {b : Bool} {H : Hp} {Q : VK} (hv : ∀ u, RelV v u → u = cv) (hk : PySem.W.kitOne K (.ref D) cv = some b) (h : Q (.bl b) H) : rIsE K D a [.ref a, v] H Q := ⟨_, _, _, rfl, hv, hk, h⟩
end
theorem roomH_mark {k : Nat} {A : Around} {h : Option Value} (r : Room k A) : RoomH k (A.mark h) := ⟨r.dp, r.un⟩
theorem hot_mark {A : Around} {a : Addr} {oe : Obj} {c : Value} {d : Option Addr} (hz : L2N.Zn c d oe) (hv : ∃ vs, oe.data = .fields vs) : Hot1 (A.mark (some (.ref a))) (a, oe) := by
  obtain ⟨vs, e⟩ := hv
  exact ⟨rfl, vs, e, hz.2.2 vs e⟩
/-- what the text must say of an own error, so that it can be raised and named -/
structure ErrK (K : PySem.W.Frag) (mg : Str → Option Value) (x : Str) (C : Addr) : Prop where
  xf : PySem.W.excIn K C [.type "ValueError", .type "Exception", .type "BaseException", .type "object"] "ValueError.__new__" = true
  g : mg x = some (.ref C)
  k : PySem.W.keepIn K (.ref C) = true
  b : PySem.W.subIn K (.ref C) (.type "BaseException") = some true
  t : PySem.W.typeIn K (.ref C) = some (.type "type")
/-- the class named in a clause -/
structure NamK (K : PySem.W.Frag) (mg : Str → Option Value) (x : Str) (C : Addr) : Prop where
  g : mg x = some (.ref C)
theorem tk_weak {X : Cx} {W : WX} (tk : L2.Takes X W) : L2N.Takes X W := fun u s' h => by
  obtain ⟨a, B, sI, pins, σ, H, cls, d, e, I, nb, up, sky, na, os, ag, w⟩ := h
  refine tk u s' ⟨a, B, sI, pins, σ, H, cls, d, e, I, nb, up, ?_, na, os, ag, w⟩
  rcases sky with ⟨h1, h2, h3, oe, vs, he, hz, hd, h4⟩ | fl | hh
  · exact .inl ⟨h1, h2, h3, oe, vs, he, hz.zc, hd, h4⟩
  · exact .inr (.inl (flyingZ_imp (fun _ z => L2N.Zn.zc z) fl))
  · obtain ⟨h1, h2, h3, h4⟩ := hh
    exact .inr (.inr ⟨h1, h2, h3, tracedZ_imp (fun _ z => L2N.Zn.zc z) h4⟩)
theorem takesN0 {X : Cx} : L2N.Takes X (fun _ _ _ _ => False) := fun _ _ h => by
  obtain ⟨_, _, _, _, _, _, _, _, _, _, _, _, _, _, _, _, z⟩ := h
  exact z.elim
/-- a call in the suite, the error handed on -/
theorem pe_cas {X : Cx} {P : Program} {w : World} {K : PySem.W.Frag} {mg : Str → Option Value} {base : Heap} {k : Nat} {x : Str} {p pos : Pos} {e : Expr} {es : List Expr} {t : TA} {a : Addr} {oe : Obj} {c : Value} {d : Option Addr} (hX : Sx X P w K mg base) (hr : RoomH k X.A) (hz : L2N.Zn c d oe)
    (hot : Hot1 X.A (a, oe)) (hq : (a, oe) ∈ X.pn) (hg : Gl X x) (ha : PA X (e :: es) t) (hdb : (x == ("__debug__" : Str)) = false := by decide)
    (he : starEach (e :: es) X.env = (false, eval e X.env) :: starEach es X.env := by rfl) (hpl : (backTo pos (starEach es X.env)).any (·.1) = false := by rfl) : PE X (.Call (.Name x p) (e :: es) [] pos) (tCH P w K mg base x k a c d t) :=
  pe_cah (q := (a, oe)) hX hr hot hq hz hg ha hdb he hpl
theorem w_thru {t u : TS} {D : Ends} {σ : L2.St} {H : Hp} (q : t { D with nx := u D } σ H) : tThru t u D σ H := q
end Mn

/-! ### more of texts -/
namespace Mn
open PySem PySem.Spec PyProof.Rows L2
section
variable {X : Cx}
theorem mt_rpartition : MtR X "str.rpartition" (fun x xs H Q => ∃ a b, x = .str a ∧ xs = [.str b] ∧ (b.length == 0) = false ∧ a.length ≤ sizeLine ∧
    ∀ p, H p = none → Q (.ref p) (upd H p (.tup [.str (Txt.rpartition a b).1, .str (Txt.rpartition a b).2.1, .str (Txt.rpartition a b).2.2]))) := by
  intro pins s σ H x xs v us Q I rx rs h
  obtain ⟨a, b, rfl, rfl, hb, hz, h⟩ := h
  obtain ⟨t, rfl⟩ := rx
  match us, rs with
  | [_], .cons r1 .nil =>
    obtain ⟨u, rfl⟩ := r1
    refine call_meets F.slot_str_rpartition (typeIs_str _ _ _) F.entry_str_rpartition (F.args_str_rpartition_2 _ _) (meets_str_rpartition a b t u hb hz) ?_
    unfold Txt.rpartition at h
    cases e : Builtin.Str.lastOccurrence a b 0 a.length with
    | none => rw [e] at h; exact laid_parts I h
    | some i => rw [e] at h; exact laid_parts I h
end
/-! ### for c in text; while -/
section
variable {σ : L2.St} {H : Hp} {D : Ends} {g : TG} {tb : TS} {te : TE}
theorem w_iStr {R : It → Hp → Prop} (q : te σ H fun v H1 => ∃ x, v = .str x ∧ R (Its x) H1) : iStr te σ H R := q
theorem w_forS {x : Str} (Pv : Nat → L2.St → Hp → Prop) (h0 : Pv 0 σ H) (hs : ∀ i c σ H, (TL.tl x)[i]? = some c → Pv i σ H → g (.str ⟨#[c]⟩) σ H fun σ2 H2 => tb { D with nx := Pv (i + 1), ct := Pv (i + 1), bk := D.nx } σ2 H2)
    (hd : ∀ σ H, Pv (TL.tl x).length σ H → D.nx σ H) : ∃ x', V.str x = .str x' ∧ ∃ W : Nat → Nat → L2.St → Hp → Prop, (∃ m, W 0 m σ H) ∧ ∀ i m σ H, W i m σ H →
      ((Its x').stop i H ∧ D.nx σ H) ∨ ((Its x').go i H ∧ ∃ N : L2.St → Hp → Prop, (∀ σ' H', N σ' H' → ∃ m', m' < m ∧ W (i + 1) m' σ' H') ∧ ∀ v H', (Its x').yld i H v H' → g v σ H' fun σ2 H2 => tb { D with nx := N, ct := N, bk := D.nx } σ2 H2) := by
  have n : (TL.tl x).length = x.cps.size := Array.length_toList
  refine ⟨x, rfl, fun i m σ H => m = x.cps.size - i ∧ i ≤ x.cps.size ∧ Pv i σ H, ⟨_, rfl, Nat.zero_le _, h0⟩, ?_⟩
  rintro i m σ H ⟨rfl, hi, p⟩
  by_cases lt : i < x.cps.size
  · refine .inr ⟨lt, Pv (i + 1), fun σ' H' p' => ⟨x.cps.size - (i + 1), by omega, rfl, lt, p'⟩, fun v H' y => ?_⟩
    obtain ⟨rfl, c, hc, rfl⟩ := y
    exact hs i c σ _ (by rw [← hc]; exact Array.getElem?_toList) p
  · have e : i = x.cps.size := by omega
    subst e
    exact .inl ⟨Nat.le_refl _, hd σ H (n ▸ p)⟩
end
end Mn
namespace Mn
open PySem PySem.Spec PyProof.Rows L2
section
variable {K : PySem.W.Frag} {σ : L2.St} {H : Hp} {a : Addr} {n : Nat} {t : TG} {u : TGs} {us : TGs} {v : V} {r xs : List V} {Qs : L2.St → Hp → Prop}
theorem w_gtup (h : SqT K H a xs) (l : xs.length = n) (q : us xs σ H Qs) : gTup K n us (.ref a) σ H Qs := ⟨_, _, rfl, h, l, q⟩
theorem w_gcons (q : t v σ H fun σ' H' => u r σ' H' Qs) : gCons t u (v :: r) σ H Qs := ⟨_, _, rfl, q⟩
theorem w_gnil (q : Qs σ H) : gNil [] σ H Qs := ⟨rfl, q⟩
end
end Mn

/-! ### a list == [], text * int, int.bit_length -/
namespace Mn
open PySem PySem.Spec PyProof.Rows L2 TL
section
variable {X : Cx} {H : Hp} {Q : VK} {a b : Addr} {xs : List V} {x : Str} {n : Int} {k : Nat}
theorem op_eqE (hu : X.A.units + 64 < cLine) : OpR X (compareOp .Eq) rEqE := by
  intro pins s σ H x y v u Q I rx ry h
  obtain ⟨a, b, xs, rfl, rfl, h1, h2, q⟩ := h
  obtain rfl : v = Value.ref a := rx
  obtain rfl : u = Value.ref b := ry
  obtain ⟨is1, r1, ⟨o1, n1, g1, c1, _, d1⟩, _⟩ := I.list (SqL.of h1)
  obtain ⟨is2, r2, ⟨o2, n2, g2, c2, _, d2⟩, _⟩ := I.list (SqL.of h2)
  have e2 : is2 = [] := by cases r2; rfl
  subst e2
  have l1 : s.heap.IsList a is1.toArray := ⟨o1, g1, c1, n1, d1⟩
  have l2 : s.heap.IsList b #[] := ⟨o2, g2, c2, n2, d2⟩
  cases r1 with
  | nil => exact SeqAt.eq_listAt (e := fun _ => true) l1 l2 rfl (by omega) (fun j h => absurd h (Nat.not_lt_zero j)) ⟨.bl true, H, I, rfl, q⟩
  | cons r rs => exact SeqAt.eq_list_lengthsAt l1 l2 rfl (by omega) ⟨.bl false, H, I, rfl, q⟩
theorem op_neE (hu : X.A.units + 64 < cLine) : OpR X (compareOp .NotEq) rNeE := by
  intro pins s σ H x y v u Q I rx ry h
  obtain ⟨a, b, xs, rfl, rfl, h1, h2, q⟩ := h
  obtain rfl : v = Value.ref a := rx
  obtain rfl : u = Value.ref b := ry
  obtain ⟨is1, r1, ⟨o1, n1, g1, c1, _, d1⟩, _⟩ := I.list (SqL.of h1)
  obtain ⟨is2, r2, ⟨o2, n2, g2, c2, _, d2⟩, _⟩ := I.list (SqL.of h2)
  have e2 : is2 = [] := by cases r2; rfl
  subst e2
  have l1 : s.heap.IsList a is1.toArray := ⟨o1, g1, c1, n1, d1⟩
  have l2 : s.heap.IsList b #[] := ⟨o2, g2, c2, n2, d2⟩
  cases r1 with
  | nil => exact SeqAt.RcNeAt.lists (e := fun _ => true) l1 l2 rfl (by omega) (fun j h => absurd h (Nat.not_lt_zero j)) _ _ _ _ ⟨.bl false, H, I, rfl, q⟩
  | cons r rs => exact SeqAt.RcNeAt.lists_lengths l1 l2 rfl (by omega) _ _ _ _ ⟨.bl true, H, I, rfl, q⟩
theorem w_eqE (h1 : H a = some (.lst xs)) (h2 : H b = some (.lst [])) (q : Q (.bl xs.isEmpty) H) : rEqE (.ref a) (.ref b) H Q := ⟨_, _, _, rfl, rfl, h1, h2, q⟩
theorem w_neE (h1 : H a = some (.lst xs)) (h2 : H b = some (.lst [])) (q : Q (.bl (!xs.isEmpty)) H) : rNeE (.ref a) (.ref b) H Q := ⟨_, _, _, rfl, rfl, h1, h2, q⟩
def rMulS : R2 := fun x y H Q => ∃ (z : Str) (n : Nat), x = .str z ∧ y = .int (n : Int) ∧ z.length ≤ 1000 ∧ n ≤ 1000 ∧ Q (.str (Txt.mul z n)) H
theorem op_mul_str : OpR X (binaryOp .Mult) rMulS := by
  intro pins s σ H x y v u Q I rx ry h
  obtain ⟨z, n, rfl, rfl, lz, ln, q⟩ := h
  obtain ⟨t, rfl⟩ := rx
  obtain ⟨t', rfl⟩ := ry
  refine SB.mul ⟨?_, fun h1 h2 => ?_, fun h1 h2 => ?_⟩ fun t' k => ⟨.str _, H, I.tok _, ⟨_, rfl⟩, q⟩
  · rw [decide_eq_false (by omega), decide_eq_false (by omega)]
    rfl
  · have : (2 : Int) ^ 63 - 1 = 9223372036854775807 := by decide
    rw [this]
    have h3 : (1000 : Int) ≤ 9223372036854775807 / (n : Int) := by
      rw [Int.le_ediv_iff_mul_le (by omega)]
      omega
    omega
  · have hz := PySem.sizeLine_eq
    unfold Builtin.Str.tooLong
    have : z.length * ((n : Int)).toNat ≤ 1000 * 1000 := Nat.mul_le_mul lz (by omega)
    exact decide_eq_false (by omega)
theorem w_mulS (lz : x.length ≤ 1000) (lk : k ≤ 1000) (q : Q (.str (Txt.mul x k)) H) : rMulS (.str x) (.int (k : Int)) H Q := ⟨_, _, rfl, rfl, lz, lk, q⟩
theorem foldl_cat (l : List Nat) : ∀ (k : Nat) (acc : Array Nat), ((List.replicate k l.toArray).foldl (· ++ ·) acc).toList = acc.toList ++ (List.replicate k l).flatten
  | 0, acc => by simp
  | k + 1, acc => by
    rw [List.replicate_succ, List.foldl_cons, foldl_cat l k, List.replicate_succ, List.flatten_cons, Array.toList_append, List.append_assoc]
theorem tl_mul (z : Str) (n : Nat) : tl (Txt.mul z n) = (List.replicate n (tl z)).flatten := by
  unfold Txt.mul
  by_cases h : n = 0
  · subst h
    rfl
  · rw [if_neg (by omega)]
    split
    · rename_i c
      rw [Bool.or_eq_true, beq_iff_eq, beq_iff_eq] at c
      rcases c with c | c
      · have : n = 1 := by omega
        subst this
        simp [tl]
      · have e : tl z = [] := by rw [len_tl] at c; exact List.length_eq_zero_iff.mp c
        rw [e]
        simp
    · have := foldl_cat (tl z) n #[]
      rw [Int.toNat_natCast]
      simp only [Array.toArray_toList] at this
      rw [show tl ⟨List.foldl (· ++ ·) #[] (List.replicate n z.cps)⟩ = (List.foldl (· ++ ·) #[] (List.replicate n z.cps)).toList from rfl, this]
      simp
theorem tl_mul1 (c n : Nat) : tl (Txt.mul ⟨#[c]⟩ n) = List.replicate n c := by
  rw [tl_mul]
  induction n with
  | zero => rfl
  | succ n ih =>
    rw [List.replicate_succ, List.flatten_cons, ih, List.replicate_succ]
    rfl
theorem tl_mul2 (c n : Nat) : tl (Txt.mul ⟨#[c, c]⟩ n) = List.replicate (2 * n) c := by
  rw [tl_mul]
  induction n with
  | zero => rfl
  | succ n ih =>
    rw [List.replicate_succ, List.flatten_cons, ih, show 2 * (n + 1) = 2 * n + 1 + 1 by omega, List.replicate_succ, List.replicate_succ]
    rfl
def bitLen (n : Nat) : Nat := if n = 0 then 0 else n.log2 + 1
theorem mt_bitlen : MtR X "int.bit_length" (fun x xs H Q => ∃ n : Nat, x = .int (n : Int) ∧ xs = [] ∧ Q (.int (bitLen n : Int)) H) := by
  intro pins s σ H x xs v us Q I rx rs h
  obtain ⟨n, rfl, rfl, q⟩ := h
  obtain ⟨t, rfl⟩ := rx
  cases rs
  refine call_int_bit_length ?_
  have e : Builtin.Int.intBits (n : Int) = bitLen n := by
    unfold Builtin.Int.intBits bitLen
    by_cases h : n = 0
    · subst h; rfl
    · rw [if_neg h, if_neg (by simpa using h), Int.natAbs_natCast]
  rw [e]
  exact ⟨.int _, H, I.tok _, ⟨_, rfl⟩, q⟩
end
end Mn
namespace Mn
open PySem PySem.Spec PyProof.Rows L2
section
variable {σ : L2.St} {H : Hp} {Q : VK} {D : Ends} {td ty tv : TE} {a : Addr} {v y : V} {o : Option V} {kvs : List (Key × V)} {k : Key}
theorem neN {H : Hp} {a b : Addr} {o : HO} (h : H b = none) (h' : H a = some o) : a ≠ b := ne_of_none h' h
theorem w_dput (q : tv σ H fun v H1 => td σ H1 fun x H2 => ty σ H2 fun y H3 => ∃ a H4, x = .ref a ∧ DPut H3 a y v H4 ∧ D.nx σ H4) : sDPut td ty tv D σ H := q
theorem w_dput1 {R : Hp → Prop} (h : H a = some (.dK kvs)) (e : y = kV k) (l : kvs.length < sizeLine) (q : R (upd H a (.dK (putK kvs k v)))) : ∃ a' H4, V.ref a = .ref a' ∧ DPut H a' y v H4 ∧ R H4 := by
  subst e
  exact ⟨_, _, rfl, DPut.k h l, q⟩
theorem w_dget (q : td σ H fun x H1 => ty σ H1 fun y H2 => ∃ a v, x = .ref a ∧ DGet H2 a y (some v) ∧ Q v H2) : tDGet td ty σ H Q := q
theorem w_din (q : ty σ H fun y H1 => td σ H1 fun x H2 => ∃ a o, x = .ref a ∧ DGet H2 a y o ∧ Q (.bl o.isSome) H2) : tDIn ty td σ H Q := q
theorem w_dnin (q : ty σ H fun y H1 => td σ H1 fun x H2 => ∃ a o, x = .ref a ∧ DGet H2 a y o ∧ Q (.bl (!o.isSome)) H2) : tDNotIn ty td σ H Q := q
theorem w_dget1 {R : Option V → Prop} (h : H a = some (.dK kvs)) (e : y = kV k) (q : R (valV kvs k)) : ∃ a' o, V.ref a = .ref a' ∧ DGet H a' y o ∧ R o := by
  subst e
  exact ⟨_, _, rfl, DGet.k h, q⟩
theorem w_dget2 {R : V → Prop} (h : H a = some (.dK kvs)) (e : y = kV k) (hv : valV kvs k = some v) (q : R v) : ∃ a' v', V.ref a = .ref a' ∧ DGet H a' y (some v') ∧ R v' := by
  subst e
  exact ⟨_, _, rfl, by rw [← hv]; exact DGet.k h, q⟩
theorem w_dnew (q : ∀ p, H p = none → Q (.ref p) (upd H p (.dK []))) : tDNewK σ H Q := q
end
end Mn
namespace Mn
open PySem PySem.Spec PyProof.Rows L2
/-- a def by its body, whatever it lets out -/
theorem okN {CX : CXT} {P : Program} {w : World} {K : PySem.W.Frag} {mg : Str → Option Value} {base : Heap} {x qual : Str} {st : Stmt} {f : Addr} {fd : FuncData} {N ps : List Str} {k : Nat} {sp : Sp} (F : Fun K x qual st f fd)
    (S : FnScope N ps (defScope st)) (len : ∀ vs H Q E, sp vs H Q E → vs.length = ps.length)
    (body : ∀ (cdv : Value) (A : Around) (outer : List Env) (s : Shared) (H : Hp) (vs : List V) (Q : VK) (E : XK),
      Room k (A.deeper (envOfC qual (defScope st) s.heap.objs.size f cdv)) → sp vs H Q E →
        ∃ t, PSs (cxOf CX P w K mg base N qual (defScope st) f cdv A outer s H E) (defBody st) t ∧
          t { nx := fun _ H' => Q .non H', rt := Q } (start N vs) H) : FnOk P w K mg base CX (k + 1) f fd ps sp := by
  obtain ⟨_, _, _, _, _, _, c, _, _, rfl, lk, hc⟩ := F.ex
  exact fn_of lk hc S len fun A o s H vs Q E r h => body c A o s H vs Q E r h
end Mn
namespace Mn
open PySem PySem.Spec PyProof.Rows L2
section
variable {σ : L2.St} {H : Hp} {Q : VK} {D : Ends} {g : TG} {tb : TS}
theorem w_forR2 {lo hi : Int} (Pv : Nat → L2.St → Hp → Prop) (b : -(2 ^ 62) ≤ lo ∧ lo < 2 ^ 62 ∧ -(2 ^ 62) ≤ hi ∧ hi < 2 ^ 62) (h0 : Pv 0 σ H)
    (hs : ∀ i σ H, i < (hi - lo).toNat → Pv i σ H → g (.int (lo + i)) σ H fun σ2 H2 => tb { D with nx := Pv (i + 1), ct := Pv (i + 1), bk := D.nx } σ2 H2) (hd : ∀ σ H, Pv (hi - lo).toNat σ H → D.nx σ H) :
    ∃ i j : Int, [V.int lo, V.int hi] = [V.int i, V.int j] ∧ (-(2 ^ 62) ≤ i ∧ i < 2 ^ 62 ∧ -(2 ^ 62) ≤ j ∧ j < 2 ^ 62) ∧ ∃ W : Nat → Nat → L2.St → Hp → Prop, (∃ m, W 0 m σ H) ∧ ∀ k m σ H, W k m σ H →
      ((Itr i (j - i).toNat).stop k H ∧ D.nx σ H) ∨ ((Itr i (j - i).toNat).go k H ∧ ∃ N : L2.St → Hp → Prop, (∀ σ' H', N σ' H' → ∃ m', m' < m ∧ W (k + 1) m' σ' H') ∧ ∀ x H', (Itr i (j - i).toNat).yld k H x H' → g x σ H' fun σ2 H2 => tb { D with nx := N, ct := N, bk := D.nx } σ2 H2) :=
  ⟨lo, hi, rfl, b, for_range Pv h0 hs hd⟩
theorem cutV_to (xs : List V) (n : Nat) : cutV xs none (some (n : Int)) = xs.take n := by
  unfold cutV
  rw [HT.sIx_none, HT.sIx_nat, List.drop_zero, Nat.sub_zero]
  by_cases h : n ≤ xs.length
  · rw [Nat.min_eq_left h]
  · rw [Nat.min_eq_right (by omega), List.take_of_length_le (Nat.le_refl _), List.take_of_length_le (by omega)]
theorem cutV_from (xs : List V) (n : Nat) : cutV xs (some (n : Int)) none = xs.drop n := by
  unfold cutV
  rw [HT.sIx_none, HT.sIx_nat]
  by_cases h : n ≤ xs.length
  · rw [Nat.min_eq_left h, List.take_of_length_le (by rw [List.length_drop]; exact Nat.le_refl _)]
  · rw [Nat.min_eq_right (by omega), List.drop_of_length_le (Nat.le_refl _), List.drop_of_length_le (by omega), List.take_nil]
theorem at_last {α : Type} {xs : List α} {v : α} (h0 : 0 < xs.length) (h : xs[xs.length - 1]? = some v) : atI xs (-1) = some v := by
  have hne : xs ≠ [] := List.length_pos_iff.mp h0
  rw [← List.dropLast_concat_getLast hne, atI_last]
  rw [← h, ← List.getLast?_eq_getElem?, List.getLast?_eq_some_getLast hne]
end
end Mn

namespace Mn
open PySem L2
def top (i : Nat) : Stmt := PySem.Challenge.pw_minders_k08_so_much_grace.main.body.getD i (.Pass ⟨0, 0, 0, 0⟩)
/-- the built-ins that the text names -/
structure Bt (mg : Str → Option Value) : Prop where
  len : mg "len" = none
  int : mg "int" = none
  list : mg "list" = none
  str : mg "str" = none
  divmod : mg "divmod" = none
  range : mg "range" = none
  isinstance : mg "isinstance" = none
  tuple : mg "tuple" = none
  ValueError : mg "ValueError" = none
  KeyError : mg "KeyError" = none
  min : mg "min" = none
abbrev s_fit_name : Stmt := top 17
theorem sc_fit_name : FnScope ["text"] ["text"] (defScope s_fit_name) := ⟨rfl, rfl, rfl, by decide +kernel, rfl, by decide +kernel, by decide +kernel⟩
abbrev s_number_in : Stmt := top 19
theorem sc_number_in : FnScope ["text", "most", "value"] ["text", "most"] (defScope s_number_in) := ⟨rfl, rfl, rfl, by decide +kernel, rfl, by decide +kernel, by decide +kernel⟩
abbrev s_Shape_init : Stmt := inClass (top 31) 0
theorem sc_Shape_init : FnScope ["self", "name", "keep"] ["self", "name", "keep"] (defScope s_Shape_init) := ⟨rfl, rfl, rfl, by decide +kernel, rfl, by decide +kernel, by decide +kernel⟩
abbrev s_Shape_leaf : Stmt := inClass (top 31) 1
theorem sc_Shape_leaf : FnScope ["self"] ["self"] (defScope s_Shape_leaf) := ⟨rfl, rfl, rfl, by decide +kernel, rfl, by decide +kernel, by decide +kernel⟩
abbrev s_Leaf_init : Stmt := inClass (top 32) 0
theorem sc_Leaf_init : FnScope ["self", "name", "keep", "grace", "slow"] ["self", "name", "keep", "grace", "slow"] (defScope s_Leaf_init) := ⟨rfl, rfl, rfl, by decide +kernel, rfl, by decide +kernel, by decide +kernel⟩
abbrev s_Leaf_leaf : Stmt := inClass (top 32) 1
theorem sc_Leaf_leaf : FnScope ["self"] ["self"] (defScope s_Leaf_leaf) := ⟨rfl, rfl, rfl, by decide +kernel, rfl, by decide +kernel, by decide +kernel⟩
abbrev s_Steady_init : Stmt := inClass (top 33) 0
theorem sc_Steady_init : FnScope ["self", "name", "keep", "many", "grace", "slow"] ["self", "name", "keep", "many", "grace", "slow"] (defScope s_Steady_init) := ⟨rfl, rfl, rfl, by decide +kernel, rfl, by decide +kernel, by decide +kernel⟩
abbrev s_Faller_init : Stmt := inClass (top 34) 0
theorem sc_Faller_init : FnScope ["self", "name", "keep", "many", "grace", "slow"] ["self", "name", "keep", "many", "grace", "slow"] (defScope s_Faller_init) := ⟨rfl, rfl, rfl, by decide +kernel, rfl, by decide +kernel, by decide +kernel⟩
abbrev s_Minder_init : Stmt := inClass (top 35) 0
theorem sc_Minder_init : FnScope ["self", "name", "keep", "most", "span"] ["self", "name", "keep", "most", "span"] (defScope s_Minder_init) := ⟨rfl, rfl, rfl, by decide +kernel, rfl, by decide +kernel, by decide +kernel⟩
abbrev s_Tree_init : Stmt := inClass (top 42) 0
theorem sc_Tree_init : FnScope ["self"] ["self"] (defScope s_Tree_init) := ⟨rfl, rfl, rfl, by decide +kernel, rfl, by decide +kernel, by decide +kernel⟩
abbrev s_Tree_add : Stmt := inClass (top 42) 1
theorem sc_Tree_add : FnScope ["self", "shape", "elder", "at"] ["self", "shape", "elder"] (defScope s_Tree_add) := ⟨rfl, rfl, rfl, by decide +kernel, rfl, by decide +kernel, by decide +kernel⟩
abbrev s_Tree_find : Stmt := inClass (top 42) 2
theorem sc_Tree_find : FnScope ["self", "name", "at"] ["self", "name"] (defScope s_Tree_find) := ⟨rfl, rfl, rfl, by decide +kernel, rfl, by decide +kernel, by decide +kernel⟩
abbrev s_Tree_names : Stmt := inClass (top 42) 3
theorem sc_Tree_names : FnScope ["self", "shape"] ["self"] (defScope s_Tree_names) := ⟨rfl, rfl, rfl, by decide +kernel, rfl, by decide +kernel, by decide +kernel⟩
abbrev s_Tree_place : Stmt := inClass (top 42) 4
theorem sc_Tree_place : FnScope ["self", "at"] ["self", "at"] (defScope s_Tree_place) := ⟨rfl, rfl, rfl, by decide +kernel, rfl, by decide +kernel, by decide +kernel⟩
abbrev s_Tree_depth : Stmt := inClass (top 42) 5
theorem sc_Tree_depth : FnScope ["self", "at", "steps"] ["self", "at"] (defScope s_Tree_depth) := ⟨rfl, rfl, rfl, by decide +kernel, rfl, by decide +kernel, by decide +kernel⟩
abbrev s_leaf_by : Stmt := top 43
theorem sc_leaf_by : FnScope ["words", "grace", "slow"] ["words"] (defScope s_leaf_by) := ⟨rfl, rfl, rfl, by decide +kernel, rfl, by decide +kernel, by decide +kernel⟩
abbrev s_minder_by : Stmt := top 44
theorem sc_minder_by : FnScope ["words", "most", "span"] ["words"] (defScope s_minder_by) := ⟨rfl, rfl, rfl, by decide +kernel, rfl, by decide +kernel, by decide +kernel⟩
abbrev s_shape_by : Stmt := top 45
theorem sc_shape_by : FnScope ["words", "shape"] ["words"] (defScope s_shape_by) := ⟨rfl, rfl, rfl, by decide +kernel, rfl, by decide +kernel, by decide +kernel⟩
abbrev s_elder_at : Stmt := top 46
theorem sc_elder_at : FnScope ["tree", "deep", "at"] ["tree", "deep"] (defScope s_elder_at) := ⟨rfl, rfl, rfl, by decide +kernel, rfl, by decide +kernel, by decide +kernel⟩
abbrev s_read : Stmt := top 47
theorem sc_read : FnScope ["text", "tree", "rows", "k", "words", "blanks", "shape", "elder", "deep", "odd", "word"] ["text"] (defScope s_read) := ⟨rfl, rfl, rfl, by decide +kernel, rfl, by decide +kernel, by decide +kernel⟩
abbrev s_law_cell_at : Stmt := top 49
theorem sc_law_cell_at : FnScope ["_law_script", "_law_k"] ["_law_script", "_law_k"] (defScope s_law_cell_at) := ⟨rfl, rfl, rfl, by decide +kernel, rfl, by decide +kernel, by decide +kernel⟩
abbrev s_Book_init : Stmt := inClass (top 21) 0
theorem sc_Book_init : FnScope ["self"] ["self"] (defScope s_Book_init) := ⟨rfl, rfl, rfl, by decide +kernel, rfl, by decide +kernel, by decide +kernel⟩
abbrev s_Book_note : Stmt := inClass (top 21) 1
theorem sc_Book_note : FnScope ["self", "turn", "word", "name"] ["self", "turn", "word", "name"] (defScope s_Book_note) := ⟨rfl, rfl, rfl, by decide +kernel, rfl, by decide +kernel, by decide +kernel⟩
abbrev s_Book_rows : Stmt := inClass (top 21) 2
theorem sc_Book_rows : FnScope ["self"] ["self"] (defScope s_Book_rows) := ⟨rfl, rfl, rfl, by decide +kernel, rfl, by decide +kernel, by decide +kernel⟩
abbrev s_bit : Stmt := top 2
theorem sc_bit : FnScope ["place"] ["place"] (defScope s_bit) := ⟨rfl, rfl, rfl, by decide +kernel, rfl, by decide +kernel, by decide +kernel⟩
abbrev s_below : Stmt := top 3
theorem sc_below : FnScope ["count"] ["count"] (defScope s_below) := ⟨rfl, rfl, rfl, by decide +kernel, rfl, by decide +kernel, by decide +kernel⟩
abbrev s_places : Stmt := top 4
theorem sc_places : FnScope ["bits", "rows", "place"] ["bits"] (defScope s_places) := ⟨rfl, rfl, rfl, by decide +kernel, rfl, by decide +kernel, by decide +kernel⟩
abbrev s_last : Stmt := top 5
theorem sc_last : FnScope ["bits"] ["bits"] (defScope s_last) := ⟨rfl, rfl, rfl, by decide +kernel, rfl, by decide +kernel, by decide +kernel⟩
abbrev s_without : Stmt := top 6
theorem sc_without : FnScope ["bits", "place"] ["bits", "place"] (defScope s_without) := ⟨rfl, rfl, rfl, by decide +kernel, rfl, by decide +kernel, by decide +kernel⟩
abbrev s_recent : Stmt := top 23
theorem sc_recent : FnScope ["falls", "clock", "span", "turn"] ["falls", "clock", "span"] (defScope s_recent) := ⟨rfl, rfl, rfl, by decide +kernel, rfl, by decide +kernel, by decide +kernel⟩
abbrev s_too_many : Stmt := top 24
theorem sc_too_many : FnScope ["falls", "clock", "span", "most"] ["falls", "clock", "span", "most"] (defScope s_too_many) := ⟨rfl, rfl, rfl, by decide +kernel, rfl, by decide +kernel, by decide +kernel⟩
abbrev s_Shape_begun_again : Stmt := inClass (top 31) 2
theorem sc_Shape_begun_again : FnScope ["self", "word"] ["self", "word"] (defScope s_Shape_begun_again) := ⟨rfl, rfl, rfl, by decide +kernel, rfl, by decide +kernel, by decide +kernel⟩
abbrev s_Leaf_end_at : Stmt := inClass (top 32) 2
theorem sc_Leaf_end_at : FnScope ["self", "steps"] ["self", "steps"] (defScope s_Leaf_end_at) := ⟨rfl, rfl, rfl, by decide +kernel, rfl, by decide +kernel, by decide +kernel⟩
abbrev s_Steady_end_at : Stmt := inClass (top 33) 1
theorem sc_Steady_end_at : FnScope ["self", "steps"] ["self", "steps"] (defScope s_Steady_end_at) := ⟨rfl, rfl, rfl, by decide +kernel, rfl, by decide +kernel, by decide +kernel⟩
abbrev s_Faller_end_at : Stmt := inClass (top 34) 1
theorem sc_Faller_end_at : FnScope ["self", "steps"] ["self", "steps"] (defScope s_Faller_end_at) := ⟨rfl, rfl, rfl, by decide +kernel, rfl, by decide +kernel, by decide +kernel⟩
abbrev s_Minder_chosen : Stmt := inClass (top 35) 2
theorem sc_Minder_chosen : FnScope ["self", "place", "count", "on", "good"] ["self", "place", "count", "on", "good"] (defScope s_Minder_chosen) := ⟨rfl, rfl, rfl, by decide +kernel, rfl, by decide +kernel, by decide +kernel⟩
abbrev s_AllMinder_chosen : Stmt := inClass (top 36) 1
theorem sc_AllMinder_chosen : FnScope ["self", "place", "count", "on", "good"] ["self", "place", "count", "on", "good"] (defScope s_AllMinder_chosen) := ⟨rfl, rfl, rfl, by decide +kernel, rfl, by decide +kernel, by decide +kernel⟩
abbrev s_RestMinder_chosen : Stmt := inClass (top 37) 1
theorem sc_RestMinder_chosen : FnScope ["self", "place", "count", "on", "good", "behind"] ["self", "place", "count", "on", "good"] (defScope s_RestMinder_chosen) := ⟨rfl, rfl, rfl, by decide +kernel, rfl, by decide +kernel, by decide +kernel⟩
abbrev s_Post_init : Stmt := inClass (top 26) 0
theorem sc_Post_init : FnScope ["self"] ["self"] (defScope s_Post_init) := ⟨rfl, rfl, rfl, by decide +kernel, rfl, by decide +kernel, by decide +kernel⟩
abbrev s_House_init : Stmt := inClass (top 27) 0
theorem sc_House_init : FnScope ["self", "tree", "shape"] ["self", "tree"] (defScope s_House_init) := ⟨rfl, rfl, rfl, by decide +kernel, rfl, by decide +kernel, by decide +kernel⟩
abbrev s_House_note : Stmt := inClass (top 27) 1
theorem sc_House_note : FnScope ["self", "word", "at"] ["self", "word", "at"] (defScope s_House_note) := ⟨rfl, rfl, rfl, by decide +kernel, rfl, by decide +kernel, by decide +kernel⟩
abbrev s_House_begin : Stmt := inClass (top 27) 2
theorem sc_House_begin : FnScope ["self", "at", "post", "child"] ["self", "at"] (defScope s_House_begin) := ⟨rfl, rfl, rfl, by decide +kernel, rfl, by decide +kernel, by decide +kernel⟩
abbrev s_House_on_of : Stmt := inClass (top 27) 3
theorem sc_House_on_of : FnScope ["self", "at", "bits", "young", "k"] ["self", "at"] (defScope s_House_on_of) := ⟨rfl, rfl, rfl, by decide +kernel, rfl, by decide +kernel, by decide +kernel⟩
abbrev s_House_over : Stmt := inClass (top 27) 4
theorem sc_House_over : FnScope ["self", "at", "word", "post", "elder"] ["self", "at", "word"] (defScope s_House_over) := ⟨rfl, rfl, rfl, by decide +kernel, rfl, by decide +kernel, by decide +kernel⟩
abbrev s_House_settle : Stmt := inClass (top 27) 5
theorem sc_House_settle : FnScope ["self", "at", "planned"] ["self"] (defScope s_House_settle) := ⟨rfl, rfl, rfl, by decide +kernel, rfl, by decide +kernel, by decide +kernel⟩
abbrev s_House_hear : Stmt := inClass (top 27) 6
theorem sc_House_hear : FnScope ["self", "at", "planned", "elder", "phase"] ["self", "at", "planned"] (defScope s_House_hear) := ⟨rfl, rfl, rfl, by decide +kernel, rfl, by decide +kernel, by decide +kernel⟩
abbrev s_House_decide : Stmt := inClass (top 27) 7
theorem sc_House_decide : FnScope ["self", "elder", "at", "post", "shape", "place", "count", "put", "anew"] ["self", "elder", "at"] (defScope s_House_decide) := ⟨rfl, rfl, rfl, by decide +kernel, rfl, by decide +kernel, by decide +kernel⟩
abbrev s_House_go_down : Stmt := inClass (top 27) 8
theorem sc_House_go_down : FnScope ["self", "at", "gave", "post"] ["self", "at", "gave"] (defScope s_House_go_down) := ⟨rfl, rfl, rfl, by decide +kernel, rfl, by decide +kernel, by decide +kernel⟩
abbrev s_House_tell : Stmt := inClass (top 27) 9
theorem sc_House_tell : FnScope ["self", "at", "post", "shape"] ["self", "at"] (defScope s_House_tell) := ⟨rfl, rfl, rfl, by decide +kernel, rfl, by decide +kernel, by decide +kernel⟩
abbrev s_House_ease : Stmt := inClass (top 27) 10
theorem sc_House_ease : FnScope ["self", "at", "post"] ["self", "at"] (defScope s_House_ease) := ⟨rfl, rfl, rfl, by decide +kernel, rfl, by decide +kernel, by decide +kernel⟩
abbrev s_House_go_on : Stmt := inClass (top 27) 11
theorem sc_House_go_on : FnScope ["self", "at", "post", "place", "child"] ["self", "at"] (defScope s_House_go_on) := ⟨rfl, rfl, rfl, by decide +kernel, rfl, by decide +kernel, by decide +kernel⟩
abbrev s_House_come_up : Stmt := inClass (top 27) 12
theorem sc_House_come_up : FnScope ["self", "at", "post", "place", "waiting", "child"] ["self", "at"] (defScope s_House_come_up) := ⟨rfl, rfl, rfl, by decide +kernel, rfl, by decide +kernel, by decide +kernel⟩
abbrev s_House_step : Stmt := inClass (top 27) 13
theorem sc_House_step : FnScope ["self", "at", "post", "word"] ["self", "at"] (defScope s_House_step) := ⟨rfl, rfl, rfl, by decide +kernel, rfl, by decide +kernel, by decide +kernel⟩
abbrev s_House_turn : Stmt := inClass (top 27) 14
theorem sc_House_turn : FnScope ["self", "at"] ["self"] (defScope s_House_turn) := ⟨rfl, rfl, rfl, by decide +kernel, rfl, by decide +kernel, by decide +kernel⟩
abbrev s_House_stop : Stmt := inClass (top 27) 16
theorem sc_House_stop : FnScope ["self"] ["self"] (defScope s_House_stop) := ⟨rfl, rfl, rfl, by decide +kernel, rfl, by decide +kernel, by decide +kernel⟩
abbrev s_House_doing : Stmt := inClass (top 27) 17
theorem sc_House_doing : FnScope ["self", "name"] ["self", "name"] (defScope s_House_doing) := ⟨rfl, rfl, rfl, by decide +kernel, rfl, by decide +kernel, by decide +kernel⟩
abbrev s_House_on : Stmt := inClass (top 27) 18
theorem sc_House_on : FnScope ["self", "rows", "at"] ["self"] (defScope s_House_on) := ⟨rfl, rfl, rfl, by decide +kernel, rfl, by decide +kernel, by decide +kernel⟩
abbrev s_House_rows : Stmt := inClass (top 27) 19
theorem sc_House_rows : FnScope ["self"] ["self"] (defScope s_House_rows) := ⟨rfl, rfl, rfl, by decide +kernel, rfl, by decide +kernel, by decide +kernel⟩
abbrev s_built : Stmt := top 28
theorem sc_built : FnScope ["tree"] ["tree"] (defScope s_built) := ⟨rfl, rfl, rfl, by decide +kernel, rfl, by decide +kernel, by decide +kernel⟩
abbrev s_law_number : Stmt := top 50
theorem sc_law_number : FnScope ["_law_cell"] ["_law_cell"] (defScope s_law_number) := ⟨rfl, rfl, rfl, by decide +kernel, rfl, by decide +kernel, by decide +kernel⟩
abbrev s_law_due : Stmt := top 51
theorem sc_law_due : FnScope ["_law_clock", "_law_stop", "_law_slow", "_law_grace", "_law_rows", "_law_until", "_law_word"] ["_law_clock", "_law_stop", "_law_slow", "_law_grace"] (defScope s_law_due) := ⟨rfl, rfl, rfl, by decide +kernel, rfl, by decide +kernel, by decide +kernel⟩
abbrev s_law_stands : Stmt := top 52
theorem sc_law_stands : FnScope ["_law_house", "_law_due_here", "_law_found", "_law_words", "_law_on"] ["_law_house", "_law_due_here"] (defScope s_law_stands) := ⟨rfl, rfl, rfl, by decide +kernel, rfl, by decide +kernel, by decide +kernel⟩
abbrev s_law : Stmt := top 53
theorem sc_law : FnScope ["_law_script", "_law_slow", "_law_grace", "_law_house", "_law_stop", "_law_clock", "_law_due_here", "_law_refused"] ["_law_script"] (defScope s_law) := ⟨rfl, rfl, rfl, by decide +kernel, rfl, by decide +kernel, by decide +kernel⟩
end Mn

/-! ### texts: stripped signs, numbers -/
namespace Mn
open PySem PySem.Spec PyProof.Rows L2 TL
open PySem.Builtin PySem.Builtin.Str
theorem mem_tl {x : Str} {c : Nat} (h : c ∈ tl x) : ∃ k, k < x.length ∧ x.cps.getD k 0 = c := by
  obtain ⟨k, hk, e⟩ := List.getElem_of_mem h
  refine ⟨k, by rw [len_tl]; exact hk, ?_⟩
  rw [← getD_list]
  simp [List.getD, List.getElem?_eq_getElem hk, e]
theorem getD_mem {x : Str} {k : Nat} (h : k < x.length) : x.cps.getD k 0 ∈ tl x := by
  rw [len_tl] at h
  rw [← getD_list]
  simp [List.getD, List.getElem?_eq_getElem h]
theorem lo_all {g : Nat → Bool} {x : Str} (h : ∀ c ∈ tl x, g c = true) : stripLo g true x = x.length := by
  obtain ⟨h1, _, h3⟩ := lo_facts g x
  rcases h3 with h3 | h3
  · exact h3
  · by_cases hl : stripLo g true x < x.length
    · rw [h _ (getD_mem hl)] at h3
      cases h3
    · omega
theorem strip_all {g : Nat → Bool} {x : Str} {r : Bool} (h : ∀ c ∈ tl x, g c = true) : Txt.stripBy g true r x = "" := by
  refine ext_tl ?_
  rw [stripBy_eq, tl_strSub, lo_all h, List.drop_eq_nil_of_le (by rw [len_tl]; exact Nat.le_refl _), List.take_nil]
  rfl
theorem strip_all_of {g : Nat → Bool} {x : Str} (h : Txt.stripBy g true true x = "") : ∀ c ∈ tl x, g c = true := by
  have e := congrArg tl h
  rw [stripBy_eq, tl_strSub] at e
  obtain ⟨h1, h2, h3⟩ := lo_facts g x
  obtain ⟨k1, k2, k3, k4⟩ := hi_facts g x _ h1
  have e' := congrArg List.length e
  rw [List.length_take, List.length_drop, ← len_tl] at e'
  have e0 : (tl "").length = 0 := rfl
  rw [e0] at e'
  intro c hc
  obtain ⟨k, hk, rfl⟩ := mem_tl hc
  by_cases hl : k < stripLo g true x
  · exact h2 k hl
  · exact k3 k (by omega) hk
theorem strip_chars {x y : Str} : Txt.stripChars x y = "" ↔ ∀ c ∈ tl x, y.cps.contains c = true := ⟨strip_all_of, strip_all⟩
theorem digit_has (c : Nat) : ("0123456789" : Str).cps.contains c = true ↔ 48 ≤ c ∧ c ≤ 57 := by
  show (Array.contains #[48, 49, 50, 51, 52, 53, 54, 55, 56, 57] c) = true ↔ _
  simp only [Array.contains_eq_mem, decide_eq_true_eq, List.mem_toArray, List.mem_cons, List.not_mem_nil, or_false]
  omega
theorem starts_one (x : Str) (c : Nat) : Txt.startswith x ⟨#[c]⟩ = decide ((tl x).head? = some c) := by
  unfold Txt.startswith subAt
  rw [Bool.eq_iff_iff]
  simp only [Bool.and_eq_true, decide_eq_true_eq, beq_iff_eq]
  rw [len_tl x]
  show 0 + 1 ≤ (tl x).length ∧ x.cps.extract 0 (0 + 1) = #[c] ↔ _
  rw [← Array.toList_inj]
  simp only [Array.toList_extract]
  show 0 + 1 ≤ (tl x).length ∧ (tl x).extract 0 (0 + 1) = [c] ↔ _
  cases tl x with
  | nil => simp
  | cons a r => simp [List.extract_eq_drop_take]
def figs (l : List Nat) : Bool := l.all fun c => decide (48 ≤ c) && decide (c ≤ 57)
theorem figs_iff {l : List Nat} : figs l = true ↔ NumText.AllDigits l := by
  unfold figs NumText.AllDigits
  rw [List.all_eq_true]
  exact ⟨fun h c hc => by have := h c hc; simpa using this, fun h c hc => by simpa using h c hc⟩
theorem strip_figs {x : Str} : Txt.stripChars x "0123456789" = "" ↔ figs (tl x) = true := by
  rw [strip_chars, figs_iff]
  exact ⟨fun h c hc => (digit_has c).mp (h c hc), fun h c hc => (digit_has c).mpr (h c hc)⟩
def numOk (l : List Nat) : Bool := decide (l ≠ []) && figs l && !(decide (1 < l.length) && decide (l.head? = some 48))
/-- the number that a text tells: figures alone, no nought ahead of others -/
def numOf (x : Str) : Option Int := if numOk (tl x) = true then some ((NumText.digitsVal (tl x) : Nat) : Int) else none
theorem eq_nil_tl {x : Str} : x = "" ↔ tl x = [] := ⟨fun h => by rw [h]; rfl, fun h => ext_tl h⟩
theorem numOf_none {x : Str} (h : numOk (tl x) = false) : numOf x = none := by
  unfold numOf
  rw [h]
  exact if_neg Bool.false_ne_true
theorem intText_figs {x : Str} (h : figs (tl x) = true) (h1 : tl x ≠ []) (h2 : x.length ≤ 640) : intText? x = some ((NumText.digitsVal (tl x) : Nat) : Int) := intText_digits (figs_iff.mp h) h1 (by omega)
theorem numL_head (n : Nat) (h : 0 < n) : (numL n).head? ≠ some 48 := by
  induction n using Nat.strongRecOn with
  | _ n ih =>
    by_cases h9 : n < 10
    · rw [numL_lt h9]
      intro e
      have := Option.some.inj e
      omega
    · rw [numL_step (by omega)]
      have i := ih (n / 10) (by omega) (by omega)
      have ne := numL_ne (n / 10)
      cases hc : numL (n / 10) with
      | nil => exact absurd hc ne
      | cons a r =>
        rw [hc] at i
        exact i
theorem numOk_numL (n : Nat) : numOk (numL n) = true := by
  unfold numOk
  rw [decide_eq_true (numL_ne n), figs_iff.mpr (numL_digits n)]
  by_cases h : n = 0
  · subst h
    rw [numL_lt (by decide)]
    rfl
  · rw [decide_eq_false (numL_head n (by omega)), Bool.and_false]
    rfl
theorem numOf_str (n : Nat) : numOf (Str.ofString (toString ((n : Nat) : Int))) = some (n : Int) := by
  unfold numOf
  rw [tl_num, if_pos (numOk_numL n), numL_val]
theorem numOf_sign {x : Str} {c : Nat} (h : c ∈ tl x) (hc : ¬ (48 ≤ c ∧ c ≤ 57)) : numOf x = none := by
  refine numOf_none ?_
  have f : figs (tl x) = false := Bool.eq_false_iff.mpr fun f => hc (figs_iff.mp f c h)
  unfold numOk
  rw [f, Bool.and_false, Bool.false_and]
theorem smol_big {i : Int} (h : i.natAbs < 2 ^ 1900) : Smol i := by
  unfold Smol
  by_cases h0 : i.natAbs = 0
  · rw [h0]; decide
  · have := (Nat.log2_lt h0).mpr h
    omega
theorem tl_cutS (z : Str) (lo hi : Option Int) : tl (cutS z lo hi) = ((tl z).drop (HT.sIx z.length 0 lo)).take (HT.sIx z.length z.length hi - HT.sIx z.length 0 lo) := rfl
theorem tl_cut_to (z : Str) (n : Nat) : tl (cutS z none (some (n : Int))) = (tl z).take n := by
  rw [tl_cutS, HT.sIx_none, HT.sIx_nat, List.drop_zero, Nat.sub_zero, len_tl z]
  by_cases h : n ≤ (tl z).length
  · rw [Nat.min_eq_left h]
  · rw [Nat.min_eq_right (by omega), List.take_of_length_le (Nat.le_refl _), List.take_of_length_le (by omega)]
theorem tl_cut_from (z : Str) (n : Nat) : tl (cutS z (some (n : Int)) none) = (tl z).drop n := by
  rw [tl_cutS, HT.sIx_none, HT.sIx_nat, len_tl z]
  by_cases h : n ≤ (tl z).length
  · rw [Nat.min_eq_left h, List.take_of_length_le (by rw [List.length_drop]; omega)]
  · rw [Nat.min_eq_right (by omega), List.drop_eq_nil_of_le (Nat.le_refl _), List.drop_eq_nil_of_le (by omega), List.take_nil]
theorem tl_cut_mid (z : Str) (n k : Nat) : tl (cutS z (some (n : Int)) (some ((n + k : Nat) : Int))) = ((tl z).drop n).take k := by
  rw [tl_cutS, HT.sIx_nat, HT.sIx_nat, len_tl z]
  by_cases h : n ≤ (tl z).length
  · rw [Nat.min_eq_left h]
    by_cases h2 : n + k ≤ (tl z).length
    · rw [Nat.min_eq_left h2, Nat.add_sub_cancel_left]
    · rw [Nat.min_eq_right (by omega), List.take_of_length_le (by rw [List.length_drop]; omega), List.take_of_length_le (by rw [List.length_drop]; omega)]
  · rw [Nat.min_eq_right (show (tl z).length ≤ n + k by omega), Nat.min_eq_right (show (tl z).length ≤ n by omega), List.drop_eq_nil_of_le (Nat.le_refl _), List.drop_eq_nil_of_le (by omega), List.take_nil, List.take_nil]
end Mn

/-! ### tactics: "rd" reads on as far as it goes; "hp", "ne", "sq", "st", "same", "sz" close what is asked of heaps and sizes -/
local macro_rules | `(tactic| walk_at "sz") => `(tactic| first
  | assumption
  | decide
  | (show _ ≤ PySem.sizeLine; decide)
  | (have sl' := PySem.sizeLine_eq; (try simp only [List.length_map, List.length_append, List.length_cons, List.length_nil, List.length_singleton, List.length_drop, List.length_take]); omega))
local macro_rules | `(tactic| walk_at "ne1") => `(tactic| first
  | assumption
  | (apply Ne.symm; assumption)
  | exact L2.ne_of_none (by assumption) (by assumption)
  | exact (L2.ne_of_none (by assumption) (by assumption)).symm)
local macro_rules | `(tactic| walk_at "hp") => `(tactic| first
  | assumption
  | exact L2.upd_same
  | (rw [L2.upd_ne (by walk_at "ne")]; walk_at "hp")
  | exact (by assumption : L2.Same _ _) _ _ (by assumption)
  | exact (by assumption : L2.Same _ _) _ _ ((by assumption : L2.Same _ _) _ _ (by assumption)))
local macro_rules | `(tactic| walk_at "ne") => `(tactic| first
  | walk_at "ne1"
  | exact Mn.neN (by assumption) (by walk_at "hp")
  | exact (Mn.neN (by assumption) (by walk_at "hp")).symm
  | exact L2.ne_of_none (by walk_at "hp") (by assumption)
  | exact (L2.ne_of_none (by walk_at "hp") (by assumption)).symm)
local macro_rules | `(tactic| walk_at "same") => `(tactic| first
  | assumption
  | exact L2.Same.refl _
  | exact L2.Same.trans (by assumption) (by assumption)
  | (refine' Mn.same_upd (by walk_at "same") (by assumption))
  | (refine' Mn.same_mut (by walk_at "same") (by assumption)))
local macro_rules | `(tactic| walk_at "sq") => `(tactic| first
  | assumption
  | exact L2.SqL.of L2.upd_same
  | exact L2.SqL.of (by walk_at "hp")
  | (refine' L2.Same.seq ?sq_s ?sq_h; (case sq_h => assumption); (case sq_s => walk_at "same")))
local macro_rules | `(tactic| walk_at "st") => `(tactic| first
  | assumption
  | exact L2.SqT.of L2.upd_same
  | exact L2.SqT.of (by walk_at "hp")
  | (refine' Mn.sqT_same ?sq_s ?sq_h; (case sq_h => assumption); (case sq_s => walk_at "same")))
local macro_rules | `(tactic| walk_at "cls") => `(tactic| first | assumption | exact Mn.ClsF.cl (by assumption))
local macro_rules | `(tactic| walk_at "noattr") => `(tactic| exact Mn.ClsF.no (by assumption) _ (by decide))
local macro_rules | `(tactic| walk_at "v2") => `(tactic| first
  | ((with_reducible refine' Mn.w_lenL ?h ?_); (case h => walk_at "sq"))
  | ((with_reducible refine' Mn.w_lenT ?h ?_); (case h => walk_at "st"))
  | ((with_reducible refine' Mn.w_lenS ?h ?_); (case h => walk_at "sz"))
  | ((with_reducible refine' Mn.w_addS ?h ?_); (case h => walk_at "sz"))
  | with_reducible refine Mn.w_intB ?_
  | with_reducible refine Mn.w_max ?_
  | with_reducible refine Mn.w_min ?_
  | with_reducible refine Mn.w_isN ?_
  | with_reducible refine Mn.w_notN ?_
  | with_reducible refine Mn.w_inS ?_
  | with_reducible refine Mn.w_ninS ?_
  | with_reducible refine Mn.w_bm ?_
  | with_reducible refine Mn.w_bm0 ?_
  | with_reducible refine Mn.w_tyS ?_
  | with_reducible refine Mn.w_tyI ?_
  | ((with_reducible refine' Mn.w_tyL ?h ?_); (case h => walk_at "sq"))
  | ((with_reducible refine' Mn.w_app ?h ?hs ?_); (case h => walk_at "hp"); (case hs => walk_at "sz"))
  | with_reducible refine Mn.w_lst ?_
  | with_reducible refine Mn.w_tup ?_
  | with_reducible refine Mn.w_sl ?_
  | with_reducible refine Mn.w_part ?_
  | with_reducible refine Mn.w_part1 ?_
  | with_reducible refine Mn.w_nopart ?_
  | with_reducible refine Mn.w_m1 ?_
  | with_reducible refine Mn.w_m0 ?_
  | with_reducible refine Mn.w_isS ?_
  | with_reducible refine Mn.w_fld ?_
  | ((with_reducible refine' Mn.w_fld1 ?h ?c ?n ?l ?_); (case h => walk_at "hp"); (case c => walk_at "cls"); (case n => walk_at "noattr"); (case l => rfl))
  | ((with_reducible refine' Mn.w_sfld1 ?h ?c ?n ?l ?_); (case h => walk_at "hp"); (case c => walk_at "cls"); (case n => walk_at "noattr"); (case l => exact Mn.ltb rfl))
  | with_reducible refine Mn.w_ma ?_
  | with_reducible refine Mn.w_isBl ?_
  | ((with_reducible refine' Mn.w_gtup ?h ?l ?_); (case h => walk_at "st"); (case l => rfl))
  | with_reducible refine Mn.w_gcons ?_
  | with_reducible refine Mn.w_dput ?_
  | ((with_reducible refine' Mn.w_eqE ?h1 ?h2 ?_); (case h1 => walk_at "hp"); (case h2 => walk_at "hp"))
  | ((with_reducible refine' Mn.w_neE ?h1 ?h2 ?_); (case h1 => walk_at "hp"); (case h2 => walk_at "hp"))
  | with_reducible refine Mn.w_dget ?_
  | with_reducible refine Mn.w_din ?_
  | with_reducible refine Mn.w_dnin ?_
  | with_reducible refine Mn.w_gnil ?_
  | ((with_reducible refine' Mn.w_aug ?h ?_); (case h => rfl))
  | with_reducible refine Mn.w_ipI ?_
  | with_reducible refine Mn.w_sub ?_
  | with_reducible refine Mn.w_sfld ?_
  | with_reducible refine Mn.w_for ?_
  | with_reducible refine Mn.w_iList ?_
  | with_reducible refine Mn.w_iRng ?_
  | with_reducible refine Mn.w_iRng2 ?_
  | with_reducible refine Mn.w_lc ?_
  | with_reducible refine Mn.w_yes ?_
  | ((with_reducible refine' Mn.w_wip ?h ?_); (case h => rfl))
  | ((with_reducible refine' Mn.w_eqLI ?h1 ?h2 ?_); (case h1 => walk_at "sq"); (case h2 => walk_at "sq"))
  | ((with_reducible refine' Mn.w_neLI ?h1 ?h2 ?_); (case h1 => walk_at "sq"); (case h2 => walk_at "sq"))
  | with_reducible refine L2.iteT ?_
  | with_reducible refine L2.iteF ?_
  | ((with_reducible refine' Mn.w_I ?c ?_); (case c => first | (show (0 : Int) < _; decide) | exact ⟨by decide, by decide⟩ | exact ⟨by decide, by decide, by decide⟩)))
local macro_rules | `(tactic| walk_at "v1") => `(tactic| first
  | ((with_reducible refine' Mn.w_var ?hv ?_); (case hv => rfl))
  | with_reducible refine Mn.w_c ?_
  | with_reducible refine Mn.w_seq ?_
  | with_reducible refine Mn.w_asg ?_
  | ((with_reducible refine' Mn.w_name2 ?hn ?_); (case hn => first | (simp only [L2.start, L2.wipe, List.map_cons, List.map_nil, List.length_cons, List.length_nil, List.replicate_succ, List.replicate_zero, List.cons_append, List.nil_append, List.set_cons_succ, List.set_cons_zero, Nat.reduceSub, Nat.reduceAdd]; exact rfl) | exact rfl))
  | with_reducible refine Mn.w_op ?_
  | with_reducible refine Mn.w_I0 ?_
  | with_reducible refine Mn.w_cons ?_
  | with_reducible refine Mn.w_nil ?_
  | with_reducible refine Mn.w_cb ?_
  | with_reducible refine Mn.w_if ?_
  | with_reducible refine Mn.w_test ?_
  | with_reducible refine Mn.w_bl ?_
  | ((with_reducible refine' Mn.w_eq ?hs ?_); (case hs => rfl))
  | ((with_reducible refine' Mn.w_ne ?hs ?_); (case hs => rfl))
  | with_reducible refine Mn.w_drop ?_
  | with_reducible refine Mn.w_ret ?_
  | with_reducible refine Mn.w_and ?_
  | with_reducible refine Mn.w_or ?_
  | with_reducible refine Mn.w_not ?_
  | with_reducible refine Mn.w_B ?_
  | with_reducible refine Mn.w_un ?_
  | with_reducible refine Mn.w_U ?_
  | with_reducible refine Mn.w_andV ?_
  | with_reducible refine Mn.w_orV ?_
  | with_reducible refine Mn.w_notV ?_
  | with_reducible refine Mn.w_chain ?_
  | with_reducible refine Mn.w_next ?_
  | with_reducible refine Mn.w_retN ?_
  | with_reducible refine Mn.w_cont ?_
  | with_reducible refine Mn.w_nx ?_
  | with_reducible refine Mn.w_rt ?_
  | with_reducible refine Mn.w_ct ?_
  | with_reducible refine Mn.w_bk ?_)
local macro_rules | `(tactic| walk_at "if") => `(tactic| first
  | (refine' Mn.w_ite ?_ ?_ <;> (intro c))
  | (refine' Mn.w_iteN ?_ ?_ <;> (intro c))
  | (refine' Mn.w_iteB ?_ ?_ <;> (intro c)))
local macro_rules | `(tactic| walk_at "rd") => `(tactic| repeat (first | walk_at "v1" | walk_at "v2"))

namespace Mn
open PySem L2 TL
section
variable {P : Program} {w : World} {K : PySem.W.Frag} {mg : Str → Option Value} {base : Heap}
/-- number_in: the number told, within the bound; else NoNumber (its class at CN) -/
def spNum (CN : Addr) : Sp := fun vs H Q E => ∃ (x : Str) (most : Int), vs = [.str x, .int most] ∧ x.length ≤ 640 ∧ (∀ v, numOf x = some v → v ≤ most → Q (.int v) H) ∧ ((∀ v, numOf x = some v → ¬ v ≤ most) → E (.ref CN) none H)
theorem ok_number {CN f : Addr} {fd : FuncData} (F : FunS K "number_in" "number_in" s_number_in [.int 1000000] f fd) (T : Bt mg) (e_NoNumber : ErrK K mg "NoNumber" CN) : FnOk P w K mg base (CXN P w) 1 f fd ["text", "most"] (spNum CN) := by
  refine F.ok sc_number_in (fun vs H Q E h => ?_) (fun cdv A outer s H vs Q E hr h => ?_)
  · obtain ⟨x, most, rfl, _⟩ := h
    rfl
  obtain ⟨x, most, rfl, hl, q, qe⟩ := h
  have hz := PySem.sizeLine_eq
  refine ⟨_, (pss_cons (ps_if (PW.pt (pw_or (pt_cmpR op_eq (pv 0) pe_str (nomark _)) (pw_or (pt_cmpR op_ne (kBm (K := K) rfl PySem.F.plainAttrs_str PySem.F.slot_str_strip PySem.F.type_str_strip mt_stripChars (pv 0) (pa_cons pe_str pa_nil)) pe_str (nomark _)) (pw_or1 (PW.pt (pw_and (pt_cmpR op_gt (pe_callB call_lenS (by rfl) T.len (by decide +kernel) (pa_cons (pv 0) pa_nil)) pe_int (nomark _)) (pw_and1 (pt_val (pe_m1 PySem.F.slot_str_startswith PySem.F.type_str_startswith mt_startswith (pv 0) pe_str))))))))) (pss_one (L2N.ps_raise rfl (L2N.takes_of rfl rfl rfl rfl) (L2N.pmk_own PySem.F.excBase_ValueError e_NoNumber.xf e_NoNumber.g e_NoNumber.k (raises_own e_NoNumber.b e_NoNumber.t) rfl))) pss_nil)
    (pss_cons (ps_try_thru (pss_one (ps_set (i := 2) sc_number_in.nd rfl (Or.inl rfl) (pe_callTy call_intS (by rfl) T.int (by decide +kernel) (pa_cons (pv 0) pa_nil)))) (pss_one (ps_if (pt_cmpR op_gt (pv 2) (pv 1) (nomark _)) (pss_one (L2N.ps_raise rfl (L2N.takes_of rfl rfl rfl rfl) (L2N.pmk_own PySem.F.excBase_ValueError e_NoNumber.xf e_NoNumber.g e_NoNumber.k (raises_own e_NoNumber.b e_NoNumber.t) rfl))) pss_nil)))
    (pss_one (ps_ret (pv 2))))), ?_⟩
  walk_at "rd"
  have no : numOk (tl x) = false → E (.ref CN) none H := fun h => qe fun v e => by rw [numOf_none h] at e; cases e
  walk_at "if"
  · rename_i c
    walk_at "rd"
    refine no ?_
    rw [V.str.inj c]
    rfl
  rename_i c
  have c : tl x ≠ [] := fun e => c (congrArg V.str (eq_nil_tl.mpr e))
  walk_at "rd"
  refine ⟨x, _, rfl, rfl, by omega, ?_⟩
  walk_at "rd"
  walk_at "if"
  · rename_i c2
    walk_at "rd"
    refine no ?_
    have f : figs (tl x) = false := Bool.eq_false_iff.mpr fun f => by
      have c3 := c2
      rw [strip_figs.mpr f] at c3
      exact c3 rfl
    unfold numOk
    rw [f, Bool.and_false, Bool.false_and]
  rename_i c2
  have f : figs (tl x) = true := strip_figs.mp (V.str.inj c2)
  have lx : x.length = (tl x).length := len_tl x
  -- the number told
  have fin : numOk (tl x) = true → (∀ v, (numOf x = some v) ↔ v = ((NumText.digitsVal (tl x) : Nat) : Int)) := fun h v => by
    unfold numOf
    rw [if_pos h]
    exact ⟨fun e => (Option.some.inj e).symm, fun e => congrArg some e.symm⟩
  have hi := intText_figs f c hl
  generalize ((NumText.digitsVal (tl x) : Nat) : Int) = n at fin hi
  walk_at "rd"
  walk_at "if"
  all_goals rename_i c3
  all_goals walk_at "rd"
  · refine ⟨x, _, rfl, rfl, ?_⟩
    have es : Txt.startswith x "0" = decide ((tl x).head? = some 48) := starts_one x 48
    rw [es]
    walk_at "rd"
    walk_at "if"
    all_goals rename_i c4
    all_goals walk_at "rd"
    · refine no ?_
      unfold numOk
      rw [c4, f, decide_eq_true (show 1 < (tl x).length by omega), decide_eq_true c]
      rfl
    have ok : numOk (tl x) = true := by
      unfold numOk
      rw [f, decide_eq_true c, decide_eq_false c4, Bool.and_false]
      rfl
    refine w_thru ?_
    walk_at "rd"
    refine ⟨x, n, rfl, hi, hl, ?_⟩
    walk_at "rd"
    walk_at "if"
    all_goals rename_i c5
    all_goals walk_at "rd"
    · exact qe fun v e => by rw [(fin ok v).mp e]; omega
    · exact q n ((fin ok n).mpr rfl) (by omega)
  · have ok : numOk (tl x) = true := by
      unfold numOk
      rw [f, decide_eq_true c, decide_eq_false (show ¬ 1 < (tl x).length by omega), Bool.false_and]
      rfl
    refine w_thru ?_
    walk_at "rd"
    refine ⟨x, n, rfl, hi, hl, ?_⟩
    walk_at "rd"
    walk_at "if"
    all_goals rename_i c5
    all_goals walk_at "rd"
    · exact qe fun v e => by rw [(fin ok v).mp e]; omega
    · exact q n ((fin ok n).mpr rfl) (by omega)
end
end Mn

namespace Mn
open PySem L2 TL
open PySem.Builtin PySem.Builtin.Str
def alnum (c : Nat) : Bool := (decide (97 ≤ c) && decide (c ≤ 122)) || (decide (48 ≤ c) && decide (c ≤ 57))
def fitL (l : List Nat) : Bool := decide (1 ≤ l.length) && decide (l.length ≤ 12) && l.all alnum
abbrev signs36 : Str := "abcdefghijklmnopqrstuvwxyz0123456789"
theorem sign_has (c : Nat) : signs36.cps.contains c = alnum c := by
  show (Array.contains #[97, 98, 99, 100, 101, 102, 103, 104, 105, 106, 107, 108, 109, 110, 111, 112, 113, 114, 115, 116, 117, 118, 119, 120, 121, 122, 48, 49, 50, 51, 52, 53, 54, 55, 56, 57] c) = _
  rw [Bool.eq_iff_iff]
  unfold alnum
  simp only [Array.contains_eq_mem, decide_eq_true_eq, List.mem_toArray, List.mem_cons, List.not_mem_nil, or_false, Bool.or_eq_true, Bool.and_eq_true]
  omega
section
variable {P : Program} {w : World} {K : PySem.W.Frag} {mg : Str → Option Value} {base : Heap}
def spFit : Sp := fun vs H Q _ => ∃ x : Str, vs = [.str x] ∧ x.length ≤ 1000 ∧ Q (.bl (fitL (tl x))) H
theorem ok_fit {f : Addr} {fd : FuncData} {tk : Tok} (F : Fun K "fit_name" "fit_name" s_fit_name f fd) (T : Bt mg) (hg : mg "SIGNS" = some (.str signs36 tk)) : FnOk P w K mg base CX0 1 f fd ["text"] spFit := by
  refine F.ok sc_fit_name (fun vs H Q E h => ?_) (fun cdv A outer s H vs Q E hr h => ?_)
  · obtain ⟨x, rfl, _⟩ := h
    rfl
  obtain ⟨x, rfl, hl, q⟩ := h
  have hz := PySem.sizeLine_eq
  have lx := len_tl x
  refine ⟨_, (pss_one (ps_ret (pe_and (pe_chain op_le op_le pe_int (pe_callB call_lenS (by rfl) T.len (by decide +kernel) (pa_cons (pv 0) pa_nil)) pe_int) (pe_one (pe_cmpR op_eq (kBm (K := K) rfl PySem.F.plainAttrs_str PySem.F.slot_str_strip PySem.F.type_str_strip mt_stripChars (pv 0) (pa_cons (pe_gv (mg := mg) rfl rfl) pa_nil)) pe_str (nomark _)))))), ?_⟩
  have fin : ∀ b : Bool, b = fitL (tl x) → Q (.bl b) H := fun b e => by rw [e]; exact q
  walk_at "rd"
  walk_at "if"
  · rename_i c1
    walk_at "rd"
    by_cases c2 : (x.length : Int) ≤ 12
    · rw [decide_eq_true c2]
      walk_at "rd"
      refine w_gv (v := .str signs36) hg ⟨_, rfl⟩ ?_
      walk_at "rd"
      refine ⟨x, _, rfl, rfl, by omega, ?_⟩
      walk_at "rd"
      refine fin _ ?_
      unfold fitL
      rw [decide_eq_true (show 1 ≤ (tl x).length by omega), decide_eq_true (show (tl x).length ≤ 12 by omega), Bool.true_and, Bool.true_and, Bool.eq_iff_iff, decide_eq_true_eq, List.all_eq_true]
      have e : (V.str (Txt.stripChars x signs36) = V.str "") ↔ Txt.stripChars x signs36 = "" := ⟨fun h => V.str.inj h, fun h => congrArg V.str h⟩
      rw [e, strip_chars]
      exact ⟨fun h c hc => by rw [← sign_has]; exact h c hc, fun h c hc => by rw [sign_has]; exact h c hc⟩
    · rw [decide_eq_false c2]
      walk_at "rd"
      refine fin _ ?_
      unfold fitL
      rw [decide_eq_false (show ¬ (tl x).length ≤ 12 by omega), Bool.and_false, Bool.false_and]
  · rename_i c1
    walk_at "rd"
    refine fin _ ?_
    unfold fitL
    rw [decide_eq_false (show ¬ 1 ≤ (tl x).length by omega), Bool.false_and, Bool.false_and]
end
end Mn

namespace Mn
open PySem L2
section
variable {P : Program} {w : World} {K : PySem.W.Frag} {mg : Str → Option Value} {base : Heap}
/-! ### what shapes bear -/
def shF (n k : Str) : List (Str × V) := [("name", .str n), ("keep", .str k)]
def minF (n k : Str) (m s : Int) : List (Str × V) := [("name", .str n), ("keep", .str k), ("most", .int m), ("span", .int s)]
abbrev minN : List Str := ["name", "keep", "most", "span"]
def spShape : Sp := fun vs H Q _ => ∃ (p C dx : Addr) (n k : Str) (fl : List Str), vs = [.ref p, .str n, .str k] ∧ H p = some (.ins C dx []) ∧ Cls K C ∧ NoAttr K C "name" ∧ NoAttr K C "keep" ∧ Q .non (upd H p (.ins C dx (shF n k)))
theorem ok_Shape_init {f : Addr} {fd : FuncData} (F : Fun K "__init__" "Shape.__init__" s_Shape_init f fd) : FnOk P w K mg base CX0 1 f fd ["self", "name", "keep"] (spShape (K := K)) := by
  refine F.ok sc_Shape_init (fun vs H Q E h => ?_) (fun cdv A outer s H vs Q E hr h => ?_)
  · obtain ⟨p, C, dx, n, k, fl, rfl, _⟩ := h
    rfl
  obtain ⟨p, C, dx, n, k, fl, rfl, hp, c, n1, n2, q⟩ := h
  refine ⟨_, (pss_cons (kSFld (K := K) rfl (pv 0) (pv 1))
    (pss_one (kSFld (K := K) rfl (pv 0) (pv 2)))), ?_⟩
  walk_at "rd"
  refine w_sfld1 hp c n1 (ltb rfl) ?_
  walk_at "rd"
  refine w_sfld1 upd_same c n2 (ltb rfl) ?_
  rw [upd_upd]
  exact q
def spMinder (K : PySem.W.Frag) (C : Addr) : Sp := fun vs H Q _ => ∃ (p dx : Addr) (n k : Str) (m s : Int), vs = [.ref p, .str n, .str k, .int m, .int s] ∧ H p = some (.ins C dx []) ∧ Q .non (upd H p (.ins C dx (minF n k m s)))
theorem ok_Minder_init {C f : Addr} {fd : FuncData} (F : FunS K "__init__" "Minder.__init__" s_Minder_init [.int 1, .int 1] f fd) (cM : ClsF K C minN) (CS : CMt P w K mg base CX0 "Shape" "__init__" 1 ["self", "name", "keep"] [] (spShape (K := K))) :
    FnOk P w K mg base CX0 2 f fd ["self", "name", "keep", "most", "span"] (spMinder K C) := by
  refine F.ok sc_Minder_init (fun vs H Q E h => ?_) (fun cdv A outer s H vs Q E hr h => ?_)
  · obtain ⟨p, dx, n, k, m, s, rfl, _⟩ := h
    rfl
  obtain ⟨p, dx, n, k, m, s, rfl, hp, q⟩ := h
  refine ⟨_, (pss_cons (ps_expr (pe_cma (P := P) (w := w) (K := K) (mg := mg) (base := base) ⟨rfl, rfl, rfl, rfl, rfl⟩ hr rfl (pa_cons (pv 0) (pa_cons (pv 1) (pa_cons (pv 2) pa_nil)))))
    (pss_cons (kSFld (K := K) rfl (pv 0) (pv 3))
    (pss_one (kSFld (K := K) rfl (pv 0) (pv 4))))), ?_⟩
  walk_at "rd"
  refine w_cma CS (by decide) ?_
  walk_at "rd"
  refine ⟨p, C, dx, n, k, [], rfl, hp, cM.cl, cM.no _ (by decide), cM.no _ (by decide), ?_⟩
  walk_at "rd"
  rw [upd_upd, upd_upd]
  exact q
/-- a method that answers a written text | a truth value -/
def spSay (C : Addr) (wd : Str) : Sp := fun vs H Q _ => ∃ (p dx : Addr) (fs : List (Str × V)), vs = [.ref p] ∧ H p = some (.ins C dx fs) ∧ Q (.str wd) H
def spTruth (C : Addr) (b : Bool) : Sp := fun vs H Q _ => ∃ (p dx : Addr) (fs : List (Str × V)), vs = [.ref p] ∧ H p = some (.ins C dx fs) ∧ Q (.bl b) H
theorem ok_Shape_leaf {C f : Addr} {fd : FuncData} (F : Fun K "leaf" "Shape.leaf" s_Shape_leaf f fd) : FnOk P w K mg base CX0 1 f fd ["self"] (spTruth C false) := by
  refine F.ok sc_Shape_leaf (fun vs H Q E h => ?_) (fun cdv A outer s H vs Q E hr h => ?_)
  · obtain ⟨p, dx, fs, rfl, _⟩ := h
    rfl
  obtain ⟨p, dx, fs, rfl, hp, q⟩ := h
  refine ⟨_, (pss_one (ps_ret pe_bl)), ?_⟩
  walk_at "rd"
  exact q
def minWords (k wd : Str) (m s : Int) : List Str := ["minder", k, wd, toString m, toString s]
def spMinWords (C : Addr) (wd : Str) : Sp := fun vs H Q _ => ∃ (p dx : Addr) (n k : Str) (m s : Int), vs = [.ref p] ∧ H p = some (.ins C dx (minF n k m s)) ∧ Smol m ∧ Smol s ∧
  ∀ r, H r = none → Q (.ref r) (upd H r (.lst ((minWords k wd m s).map V.str)))
end
end Mn

namespace Mn
open PySem L2
section
variable {P : Program} {w : World} {K : PySem.W.Frag} {mg : Str → Option Value} {base : Heap}
theorem ClsF.sub {C : Addr} {fs gs : List Str} (c : ClsF K C fs) (h : ∀ f ∈ gs, f ∈ fs) : ClsF K C gs := ⟨c.cl, fun f hf => c.no f (h f hf)⟩
/-! ### what leaves bear -/
def leafF (n k : Str) (g s : Int) : List (Str × V) := [("name", .str n), ("keep", .str k), ("grace", .int g), ("slow", .int s)]
def manyF (n k : Str) (g s m : Int) : List (Str × V) := [("name", .str n), ("keep", .str k), ("grace", .int g), ("slow", .int s), ("many", .int m)]
abbrev leafN : List Str := ["name", "keep", "grace", "slow"]
abbrev manyN : List Str := ["name", "keep", "grace", "slow", "many"]
/-- the shape of a kind: 0 Leaf, 1 Steady, 2 Faller, 3 Minder -/
def fieldsOf (kind : Int) (n k : Str) (g s m : Int) : List (Str × V) := if kind = 0 then leafF n k g s else if kind = 3 then minF n k g s else manyF n k g s m
def workOf (kind m : Int) : List Str := if kind = 0 then ["idle"] else [if kind = 1 then "steady" else "falls", toString m]
def wordsOf (kind : Int) (k : Str) (g s m : Int) : List Str := if kind = 3 then ["minder", k, "one", toString g, toString s] else (["leaf", k, toString g, toString s] : List Str) ++ workOf kind m
def again (k x : Str) : Bool := decide (k = "always") || (decide (k = "fallen") && (decide (x = "fallen") || decide (x = "gave up")))
def endOf (kind m st : Int) : Str := if kind = 0 then "" else if st = m then (if kind = 1 then "done" else "fallen") else ""
def spLeaf (K : PySem.W.Frag) : Sp := fun vs H Q _ => ∃ (p C dx : Addr) (n k : Str) (g s : Int), vs = [.ref p, .str n, .str k, .int g, .int s] ∧ H p = some (.ins C dx []) ∧ ClsF K C leafN ∧ Q .non (upd H p (.ins C dx (leafF n k g s)))
theorem ok_Leaf_init {f : Addr} {fd : FuncData} (F : FunS K "__init__" "Leaf.__init__" s_Leaf_init [.int 0, .int 0] f fd) (CS : CMt P w K mg base CX0 "Shape" "__init__" 1 ["self", "name", "keep"] [] (spShape (K := K))) :
    FnOk P w K mg base CX0 2 f fd ["self", "name", "keep", "grace", "slow"] (spLeaf K) := by
  refine F.ok sc_Leaf_init (fun vs H Q E h => ?_) (fun cdv A outer s H vs Q E hr h => ?_)
  · obtain ⟨p, C, dx, n, k, g, sl, rfl, _⟩ := h
    rfl
  obtain ⟨p, C, dx, n, k, g, sl, rfl, hp, cL, q⟩ := h
  refine ⟨_, (pss_cons (ps_expr (pe_cma (P := P) (w := w) (K := K) (mg := mg) (base := base) ⟨rfl, rfl, rfl, rfl, rfl⟩ hr rfl (pa_cons (pv 0) (pa_cons (pv 1) (pa_cons (pv 2) pa_nil)))))
    (pss_cons (kSFld (K := K) rfl (pv 0) (pv 3))
    (pss_one (kSFld (K := K) rfl (pv 0) (pv 4))))), ?_⟩
  walk_at "rd"
  refine w_cma CS (by decide) ?_
  walk_at "rd"
  refine ⟨p, C, dx, n, k, [], rfl, hp, cL.cl, cL.no _ (by decide), cL.no _ (by decide), ?_⟩
  walk_at "rd"
  rw [upd_upd, upd_upd]
  exact q
def spMany (K : PySem.W.Frag) (C : Addr) : Sp := fun vs H Q _ => ∃ (p dx : Addr) (n k : Str) (m g s : Int), vs = [.ref p, .str n, .str k, .int m, .int g, .int s] ∧ H p = some (.ins C dx []) ∧ Q .non (upd H p (.ins C dx (manyF n k g s m)))
theorem ok_Steady_init {C f : Addr} {fd : FuncData} (F : FunS K "__init__" "Steady.__init__" s_Steady_init [.int 0, .int 0] f fd) (cM : ClsF K C manyN) (CS : CMt P w K mg base CX0 "Leaf" "__init__" 2 ["self", "name", "keep", "grace", "slow"] [] (spLeaf K)) :
    FnOk P w K mg base CX0 3 f fd ["self", "name", "keep", "many", "grace", "slow"] (spMany K C) := by
  refine F.ok sc_Steady_init (fun vs H Q E h => ?_) (fun cdv A outer s H vs Q E hr h => ?_)
  · obtain ⟨p, dx, n, k, m, g, sl, rfl, _⟩ := h
    rfl
  obtain ⟨p, dx, n, k, m, g, sl, rfl, hp, q⟩ := h
  refine ⟨_, (pss_cons (ps_expr (pe_cma (P := P) (w := w) (K := K) (mg := mg) (base := base) ⟨rfl, rfl, rfl, rfl, rfl⟩ hr rfl (pa_cons (pv 0) (pa_cons (pv 1) (pa_cons (pv 2) (pa_cons (pv 4) (pa_cons (pv 5) pa_nil)))))))
    (pss_one (kSFld (K := K) rfl (pv 0) (pv 3)))), ?_⟩
  walk_at "rd"
  refine w_cma CS (by decide) ?_
  walk_at "rd"
  refine ⟨p, C, dx, n, k, g, sl, rfl, hp, cM.sub (by decide), ?_⟩
  walk_at "rd"
  rw [upd_upd]
  exact q
theorem ok_Faller_init {C f : Addr} {fd : FuncData} (F : FunS K "__init__" "Faller.__init__" s_Faller_init [.int 0, .int 0] f fd) (cM : ClsF K C manyN) (CS : CMt P w K mg base CX0 "Leaf" "__init__" 2 ["self", "name", "keep", "grace", "slow"] [] (spLeaf K)) :
    FnOk P w K mg base CX0 3 f fd ["self", "name", "keep", "many", "grace", "slow"] (spMany K C) := by
  refine F.ok sc_Faller_init (fun vs H Q E h => ?_) (fun cdv A outer s H vs Q E hr h => ?_)
  · obtain ⟨p, dx, n, k, m, g, sl, rfl, _⟩ := h
    rfl
  obtain ⟨p, dx, n, k, m, g, sl, rfl, hp, q⟩ := h
  refine ⟨_, (pss_cons (ps_expr (pe_cma (P := P) (w := w) (K := K) (mg := mg) (base := base) ⟨rfl, rfl, rfl, rfl, rfl⟩ hr rfl (pa_cons (pv 0) (pa_cons (pv 1) (pa_cons (pv 2) (pa_cons (pv 4) (pa_cons (pv 5) pa_nil)))))))
    (pss_one (kSFld (K := K) rfl (pv 0) (pv 3)))), ?_⟩
  walk_at "rd"
  refine w_cma CS (by decide) ?_
  walk_at "rd"
  refine ⟨p, C, dx, n, k, g, sl, rfl, hp, cM.sub (by decide), ?_⟩
  walk_at "rd"
  rw [upd_upd]
  exact q
theorem ok_Leaf_leaf {C f : Addr} {fd : FuncData} (F : Fun K "leaf" "Leaf.leaf" s_Leaf_leaf f fd) : FnOk P w K mg base CX0 1 f fd ["self"] (spTruth C true) := by
  refine F.ok sc_Leaf_leaf (fun vs H Q E h => ?_) (fun cdv A outer s H vs Q E hr h => ?_)
  · obtain ⟨p, dx, fs, rfl, _⟩ := h
    rfl
  obtain ⟨p, dx, fs, rfl, hp, q⟩ := h
  refine ⟨_, (pss_one (ps_ret pe_bl)), ?_⟩
  walk_at "rd"
  exact q
end
end Mn

namespace Mn
open PySem L2
section
variable {P : Program} {w : World} {K : PySem.W.Frag} {mg : Str → Option Value} {base : Heap}
/-! ### when they end -/
def spEnd (C : Addr) (kind : Int) : Sp := fun vs H Q _ => ∃ (p dx : Addr) (n k : Str) (g s m st : Int), vs = [.ref p, .int st] ∧ H p = some (.ins C dx (fieldsOf kind n k g s m)) ∧ Q (.str (endOf kind m st)) H
theorem ok_Leaf_end {C f : Addr} {fd : FuncData} (F : Fun K "end_at" "Leaf.end_at" s_Leaf_end_at f fd) : FnOk P w K mg base CX0 1 f fd ["self", "steps"] (spEnd C 0) := by
  refine F.ok sc_Leaf_end_at (fun vs H Q E h => ?_) (fun cdv A outer s H vs Q E hr h => ?_)
  · obtain ⟨p, dx, n, k, g, sl, m, st, rfl, _⟩ := h
    rfl
  obtain ⟨p, dx, n, k, g, sl, m, st, rfl, hp, q⟩ := h
  refine ⟨_, (pss_one (ps_ret pe_str)), ?_⟩
  walk_at "rd"
  exact q
theorem ok_Steady_end {C f : Addr} {fd : FuncData} (F : Fun K "end_at" "Steady.end_at" s_Steady_end_at f fd) (cM : ClsF K C manyN) : FnOk P w K mg base CX0 1 f fd ["self", "steps"] (spEnd C 1) := by
  refine F.ok sc_Steady_end_at (fun vs H Q E h => ?_) (fun cdv A outer s H vs Q E hr h => ?_)
  · obtain ⟨p, dx, n, k, g, sl, m, st, rfl, _⟩ := h
    rfl
  obtain ⟨p, dx, n, k, g, sl, m, st, rfl, hp, q⟩ := h
  refine ⟨_, (pss_cons (ps_if (pt_cmpR op_eq (pv 1) (kFld (K := K) rfl (pv 0)) (nomark _)) (pss_one (ps_ret pe_str)) pss_nil)
    (pss_one (ps_ret pe_str))), ?_⟩
  walk_at "rd"
  walk_at "if"
  all_goals rename_i c
  all_goals walk_at "rd"
  · have c := V.int.inj c
    subst c
    have e : endOf 1 st st = "done" := by unfold endOf; rw [if_neg (by decide), if_pos rfl, if_pos rfl]
    rw [e] at q
    exact q
  · have c : ¬ st = m := fun e => c (congrArg V.int e)
    have e : endOf 1 m st = "" := by unfold endOf; rw [if_neg (by decide), if_neg c]
    rw [e] at q
    exact q
theorem ok_Faller_end {C f : Addr} {fd : FuncData} (F : Fun K "end_at" "Faller.end_at" s_Faller_end_at f fd) (cM : ClsF K C manyN) : FnOk P w K mg base CX0 1 f fd ["self", "steps"] (spEnd C 2) := by
  refine F.ok sc_Faller_end_at (fun vs H Q E h => ?_) (fun cdv A outer s H vs Q E hr h => ?_)
  · obtain ⟨p, dx, n, k, g, sl, m, st, rfl, _⟩ := h
    rfl
  obtain ⟨p, dx, n, k, g, sl, m, st, rfl, hp, q⟩ := h
  refine ⟨_, (pss_cons (ps_if (pt_cmpR op_eq (pv 1) (kFld (K := K) rfl (pv 0)) (nomark _)) (pss_one (ps_ret pe_str)) pss_nil)
    (pss_one (ps_ret pe_str))), ?_⟩
  walk_at "rd"
  walk_at "if"
  all_goals rename_i c
  all_goals walk_at "rd"
  · have c := V.int.inj c
    subst c
    have e : endOf 2 st st = "fallen" := by unfold endOf; rw [if_neg (by decide), if_pos rfl, if_neg (by decide)]
    rw [e] at q
    exact q
  · have c : ¬ st = m := fun e => c (congrArg V.int e)
    have e : endOf 2 m st = "" := by unfold endOf; rw [if_neg (by decide), if_neg c]
    rw [e] at q
    exact q
/-! ### begun again -/
def spAgain (C : Addr) : Sp := fun vs H Q _ => ∃ (p dx : Addr) (fs : List (Str × V)) (k x : Str), vs = [.ref p, .str x] ∧ H p = some (.ins C dx fs) ∧ fs.lookup ("keep" : Str) = some (.str k) ∧ Q (.bl (again k x)) H
theorem ok_again {C f T : Addr} {fd : FuncData} (F : Fun K "begun_again" "Shape.begun_again" s_Shape_begun_again f fd) (c : Cls K C) (nk : NoAttr K C "keep") (hg : mg "FALLS" = some (.ref T)) (hT : ∀ H, SqT K H T [.str "fallen", .str "gave up"]) : FnOk P w K mg base CX0 1 f fd ["self", "word"] (spAgain C) := by
  refine F.ok sc_Shape_begun_again (fun vs H Q E h => ?_) (fun cdv A outer s H vs Q E hr h => ?_)
  · obtain ⟨p, dx, fs, k, x, rfl, _⟩ := h
    rfl
  obtain ⟨p, dx, fs, k, x, rfl, hp, hk, q⟩ := h
  refine ⟨_, (pss_cons (ps_if (pt_cmpR op_eq (kFld (K := K) rfl (pv 0)) pe_str (nomark _)) (pss_one (ps_ret pe_bl)) pss_nil)
    (pss_one (ps_ret (pe_and (pe_cmpR op_eq (kFld (K := K) rfl (pv 0)) pe_str (nomark _)) (pe_one (pe_cmpR (kIn (K := K) rfl) (pv 1) (pe_gv (mg := mg) rfl rfl) rfl)))))), ?_⟩
  walk_at "rd"
  refine w_fld1 hp c nk hk ?_
  walk_at "rd"
  walk_at "if"
  all_goals rename_i k1
  all_goals walk_at "rd"
  · have k1 := V.str.inj k1
    subst k1
    exact q
  have k1 : ¬ k = "always" := fun e => k1 (congrArg V.str e)
  refine w_fld1 hp c nk hk ?_
  walk_at "rd"
  walk_at "if"
  all_goals rename_i k2
  all_goals walk_at "rd"
  · have k2 := V.str.inj k2
    subst k2
    refine w_gv (v := .ref T) hg rfl ?_
    refine w_inT (hT _) rfl rfl ?_
    rw [inV2]
    exact q
  · have k2 : ¬ k = "fallen" := fun e => k2 (congrArg V.str e)
    have e : again k x = false := by unfold again; rw [decide_eq_false k1, decide_eq_false k2]; rfl
    rw [e] at q
    exact q
end
end Mn

namespace Mn
open PySem PySem.Spec PyProof.Rows L2 TL
/-! ### shapes of all kinds: 0 Leaf, 1 Steady, 2 Faller, 3 Minder, 4 AllMinder, 5 RestMinder -/
structure Shp where
  kind : Nat
  name : Str
  keep : Str
  a : Int
  b : Int
  m : Int
deriving Inhabited
def fldS (s : Shp) : List (Str × V) := if s.kind < 3 then fieldsOf s.kind s.name s.keep s.a s.b s.m else minF s.name s.keep s.a s.b
def attrS (k : Nat) : List Str := if k = 0 then leafN else if k < 3 then manyN else minN
def wayS (k : Nat) : Str := if k = 3 then "one" else if k = 4 then "all" else "rest"
def shW (s : Shp) : List Str := if s.kind < 3 then wordsOf s.kind s.keep s.a s.b s.m else minWords s.keep (wayS s.kind) s.a s.b
abbrev keeps3 : List Str := ["always", "fallen", "never"]
structure OkS (s : Shp) : Prop where
  kd : s.kind < 6
  kp : s.keep ∈ keeps3
  nm : fitL (tl s.name) = true
  a0 : 0 ≤ s.a ∧ s.a ≤ 1000000
  b0 : 0 ≤ s.b ∧ s.b ≤ 1000000
  m0 : 0 ≤ s.m ∧ s.m ≤ 1000000
  mz : s.kind ≠ 1 → s.kind ≠ 2 → s.m = 0
  b1 : 3 ≤ s.kind → 1 ≤ s.b
theorem attr_name (k : Nat) : ("name" : Str) ∈ attrS k := by
  unfold attrS
  split
  · decide
  · split <;> decide
theorem fld_name (s : Shp) : (fldS s).lookup ("name" : Str) = some (.str s.name) := by
  unfold fldS fieldsOf
  split
  · split
    · rfl
    · split <;> rfl
  · rfl
theorem fld_leaf (s : Shp) : (fldS s).lookup ("leaf" : Str) = none := by
  unfold fldS fieldsOf
  split
  · split
    · rfl
    · split <;> rfl
  · rfl
theorem fld_words (s : Shp) : (fldS s).lookup ("words" : Str) = none := by
  unfold fldS fieldsOf
  split
  · split
    · rfl
    · split <;> rfl
  · rfl
section
variable {P : Program} {w : World} {K : PySem.W.Frag} {mg : Str → Option Value} {base : Heap}
/-- the six classes, by kind -/
structure KdC (K : PySem.W.Frag) (cls : Nat → Addr) : Prop where
  cf : ∀ k, k < 6 → ClsF K (cls k) (attrS k)
structure KdL (P : Program) (w : World) (K : PySem.W.Frag) (mg : Str → Option Value) (base : Heap) (cls : Nat → Addr) : Prop where
  leaf : ∀ k, k < 6 → Mth P w K mg base CX0 (cls k) "leaf" 1 ["self"] [] (spTruth (cls k) (decide (k < 3)))
theorem smol_mil {i : Int} (h : 0 ≤ i ∧ i ≤ 1000000) : Smol i := smol_of (by omega)
theorem Mth.imp {C : Addr} {m : Str} {k : Nat} {ps : List Str} {dvs : List V} {sp sp' : Sp} (M : Mth P w K mg base CX0 C m k ps dvs sp) (h : ∀ vs H Q E, sp' vs H Q E → sp vs H Q E) : Mth P w K mg base CX0 C m k ps dvs sp' := by
  obtain ⟨f, fd, ds, F, r⟩ := M.ex
  exact ⟨f, fd, ds, F.imp h, r⟩
end
end Mn

namespace Mn
open PySem PySem.Spec PyProof.Rows L2 TL
/-! ### trees -/
structure TreeD where
  shs : List Shp
  eld : List Int
  dps : List Nat
def TreeD.n (D : TreeD) : Nat := D.shs.length
def TreeD.e (D : TreeD) (i : Nat) : Int := D.eld.getD i (-1)
def TreeD.sh (D : TreeD) (i : Nat) : Shp := D.shs.getD i default
def TreeD.dp (D : TreeD) (i : Nat) : Nat := D.dps.getD i 0
def yngOf (eld : List Int) (i : Nat) : List Nat := (List.range eld.length).filter fun j => decide (eld.getD j (-1) = (i : Int))
def kvsOf (shs : List Shp) : List (Key × V) := shs.zipIdx.map fun p => (Sum.inr p.1.name, V.int (p.2 : Nat))
def TreeD.add (D : TreeD) (s : Shp) (e : Int) : TreeD := ⟨D.shs ++ [s], D.eld ++ [e], D.dps ++ [if e < 0 then 0 else D.dp e.toNat + 1]⟩
def TreeD.nil : TreeD := ⟨[], [], []⟩
structure TreeD.WF (D : TreeD) : Prop where
  le : D.eld.length = D.n
  ld : D.dps.length = D.n
  el : ∀ i, i < D.n → (D.e i = -1 ∧ i = 0) ∨ (0 ≤ D.e i ∧ D.e i < i)
  dp : ∀ i, i < D.n → D.dp i = if D.e i < 0 then 0 else D.dp (D.e i).toNat + 1
  nm : (D.shs.map Shp.name).Nodup
  sz : D.n ≤ 64
  ok : ∀ s ∈ D.shs, OkS s
  mi : ∀ i, i < D.n → 0 ≤ D.e i → 3 ≤ (D.sh (D.e i).toNat).kind
  d8 : ∀ i, i < D.n → D.dp i ≤ 8
  top : 0 < D.n → 3 ≤ (D.sh 0).kind
theorem yng_lt {eld : List Int} {i j : Nat} (h : j ∈ yngOf eld i) : j < eld.length ∧ eld.getD j (-1) = (i : Int) := by
  unfold yngOf at h
  rw [List.mem_filter, List.mem_range, decide_eq_true_eq] at h
  exact h
theorem yng_add (eld : List Int) (e : Int) (i : Nat) : yngOf (eld ++ [e]) i = yngOf eld i ++ (if e = (i : Int) then [eld.length] else []) := by
  unfold yngOf
  rw [List.length_append, List.length_singleton, List.range_succ, List.filter_append]
  congr 1
  · refine List.filter_congr fun j hj => ?_
    rw [List.mem_range] at hj
    refine decide_eq_decide.mpr ?_
    rw [List.getD_eq_getElem?_getD, List.getD_eq_getElem?_getD, List.getElem?_append_left hj]
  · simp [List.getD, List.filter_cons]
theorem kvs_add (shs : List Shp) (s : Shp) : kvsOf (shs ++ [s]) = kvsOf shs ++ [(Sum.inr s.name, V.int (shs.length : Nat))] := by
  unfold kvsOf
  rw [List.zipIdx_append, List.map_append]
  simp
theorem kvs_len (shs : List Shp) : (kvsOf shs).length = shs.length := by
  unfold kvsOf
  rw [List.length_map, List.length_zipIdx]
theorem kvs_none {shs : List Shp} {x : Str} (h : x ∉ shs.map Shp.name) : valV (kvsOf shs) (Sum.inr x) = none := by
  unfold valV kvsOf
  rw [Option.map_eq_none_iff, List.find?_eq_none]
  intro p hp
  obtain ⟨q, hq, rfl⟩ := List.mem_map.mp hp
  rw [decide_eq_true_eq]
  intro e
  have e := Sum.inr.inj e
  refine h ?_
  rw [← e]
  exact List.mem_map_of_mem (List.mem_zipIdx hq |>.2.2 ▸ List.getElem_mem _)
theorem kvs_at_aux : ∀ (shs : List Shp) (n i : Nat) (s : Shp), (shs.map Shp.name).Nodup → shs[i]? = some s → valV ((shs.zipIdx n).map fun p => ((Sum.inr p.1.name, V.int (p.2 : Nat)) : Key × V)) (Sum.inr s.name) = some (.int ((n + i : Nat) : Int))
  | [], _, _, _, _, h => by cases h
  | a :: r, n, 0, s, _, h => by
    obtain rfl := Option.some.inj h
    unfold valV
    rw [List.zipIdx_cons, List.map_cons, List.find?_cons_of_pos (by simp)]
    rfl
  | a :: r, n, i + 1, s, nd, h => by
    have h : r[i]? = some s := h
    rw [List.map_cons, List.nodup_cons] at nd
    have ne : a.name ≠ s.name := fun e => nd.1 (by rw [e]; exact List.mem_map_of_mem (List.mem_of_getElem? h))
    have := kvs_at_aux r (n + 1) i s nd.2 h
    unfold valV at this ⊢
    rw [List.zipIdx_cons, List.map_cons, List.find?_cons_of_neg (by simpa using ne)]
    rw [this, show n + 1 + i = n + (i + 1) by omega]
theorem kvs_at {shs : List Shp} (nd : (shs.map Shp.name).Nodup) {i : Nat} {s : Shp} (h : shs[i]? = some s) : valV (kvsOf shs) (Sum.inr s.name) = some (.int (i : Nat)) := by
  have := kvs_at_aux shs 0 i s nd h
  rw [Nat.zero_add] at this
  exact this
theorem kvs_put {shs : List Shp} {s : Shp} (h : s.name ∉ shs.map Shp.name) : putK (kvsOf shs) (Sum.inr s.name) (V.int (shs.length : Nat)) = kvsOf (shs ++ [s]) := by
  rw [kvs_add]
  unfold putK
  rw [if_neg ?_]
  intro z
  rw [List.any_eq_true] at z
  obtain ⟨p, hp, e⟩ := z
  have := kvs_none h
  unfold valV at this
  rw [Option.map_eq_none_iff, List.find?_eq_none] at this
  exact this p hp e
/-- a tree's addresses -/
structure TA where
  t : Addr
  dx : Addr
  sh : Addr
  el : Addr
  yg : Addr
  kn : Addr
  ys : List Addr
  ps : List Addr
def TA.foot (A : TA) : List Addr := A.t :: A.sh :: A.el :: A.yg :: A.kn :: A.ys
abbrev treeN : List Str := ["shapes", "elders", "young", "known"]
def treeF (A : TA) : List (Str × V) := [("shapes", .ref A.sh), ("elders", .ref A.el), ("young", .ref A.yg), ("known", .ref A.kn)]
def ShAt (cls : Nat → Addr) (H : Hp) (p : Addr) (s : Shp) : Prop := ∃ dx, H p = some (.ins (cls s.kind) dx (fldS s))
structure TR (CT : Addr) (cls : Nat → Addr) (A : TA) (D : TreeD) (H : Hp) : Prop where
  ht : H A.t = some (.ins CT A.dx (treeF A))
  hsh : H A.sh = some (.lst (A.ps.map V.ref))
  lps : A.ps.length = D.n
  hps : ∀ i p, A.ps[i]? = some p → ShAt cls H p (D.sh i)
  hel : H A.el = some (.lst (D.eld.map V.int))
  hyg : H A.yg = some (.lst (A.ys.map V.ref))
  lys : A.ys.length = D.n
  hys : ∀ i y, A.ys[i]? = some y → H y = some (.lst ((yngOf D.eld i).map fun j : Nat => V.int j))
  hkn : H A.kn = some (.dK (kvsOf D.shs))
structure TRm (CT : Addr) (cls : Nat → Addr) (A : TA) (D : TreeD) (H : Hp) : Prop extends TR CT cls A D H where
  nd : (A.sh :: A.el :: A.yg :: A.ys).Nodup
/-- what is outside keeps -/
def Out (F : List Addr) (H H' : Hp) : Prop := ∀ b u, b ∉ F → H b = some u → H' b = some u
def New (F F' : List Addr) (H : Hp) : Prop := ∀ b, b ∈ F' → b ∈ F ∨ H b = none
theorem updN {H : Hp} {p a : Addr} {o : HO} (h : upd H p o a = none) : H a = none := by
  by_cases e : a = p
  · subst e
    rw [upd_same] at h
    cases h
  · rw [upd_ne e] at h
    exact h
section
variable {P : Program} {w : World} {K : PySem.W.Frag} {mg : Str → Option Value} {base : Heap}
def spTInit (CT : Addr) (cls : Nat → Addr) : Sp := fun vs H Q _ => ∃ (p dx : Addr), vs = [.ref p] ∧ H p = some (.ins CT dx []) ∧ ∀ A H', A.t = p → TRm CT cls A .nil H' → Out [p] H H' → New [p] A.foot H → Q .non H'
theorem ok_Tree_init {CT : Addr} {cls : Nat → Addr} {f : Addr} {fd : FuncData} (F : Fun K "__init__" "Tree.__init__" s_Tree_init f fd) (cT : ClsF K CT treeN) : FnOk P w K mg base CX0 1 f fd ["self"] (spTInit CT cls) := by
  refine F.ok sc_Tree_init (fun vs H Q E h => ?_) (fun cdv A outer s H vs Q E hr h => ?_)
  · obtain ⟨p, dx, rfl, _⟩ := h
    rfl
  obtain ⟨p, dx, rfl, hp, q⟩ := h
  refine ⟨_, (pss_cons (kSFld (K := K) rfl (pv 0) (pe_lst pa_nil))
    (pss_cons (kSFld (K := K) rfl (pv 0) (pe_lst pa_nil))
    (pss_cons (kSFld (K := K) rfl (pv 0) (pe_lst pa_nil))
    (pss_one (kSFld (K := K) rfl (pv 0) pe_dnewK))))), ?_⟩
  walk_at "rd"
  refine ⟨Nat.zero_le _, fun sh hsh => ?_⟩
  walk_at "rd"
  refine ⟨Nat.zero_le _, fun el hel => ?_⟩
  walk_at "rd"
  refine ⟨Nat.zero_le _, fun yg hyg => ?_⟩
  walk_at "rd"
  refine w_dnew fun kn hkn => ?_
  walk_at "rd"
  have q1 : sh ≠ p := (neN hsh hp).symm
  have q2 : el ≠ p := (neN (updN (updN hel)) hp).symm
  have q3 : yg ≠ p := (neN (updN (updN (updN (updN hyg)))) hp).symm
  have n1 : sh ≠ el := by walk_at "ne"
  have n2 : sh ≠ yg := by walk_at "ne"
  have n3 : el ≠ yg := by walk_at "ne"
  have n4 : sh ≠ kn := by walk_at "ne"
  have n5 : el ≠ kn := by walk_at "ne"
  have n6 : yg ≠ kn := by walk_at "ne"
  have f1 : H el = none := updN (updN hel)
  have f2 : H yg = none := updN (updN (updN (updN hyg)))
  have f3 : H kn = none := updN (updN (updN (updN (updN (updN hkn)))))
  refine q ⟨p, dx, sh, el, yg, kn, [], []⟩ _ rfl ⟨⟨?_, ?_, rfl, (fun i y h => by cases h), ?_, ?_, rfl, (fun i y h => by cases h), ?_⟩, ?_⟩ (fun b u hb hu => ?_) (fun b hb => ?_)
  · walk_at "hp"
  · dsimp only [TreeD.nil, List.map]
    walk_at "hp"
  · dsimp only [TreeD.nil, List.map]
    walk_at "hp"
  · dsimp only [TreeD.nil, List.map]
    walk_at "hp"
  · walk_at "hp"
  · simp [n1, n2, n3]
  · have hb : b ≠ p := fun e => hb (by rw [e]; exact List.mem_cons_self)
    walk_at "hp"
  · simp only [TA.foot, List.mem_cons, List.not_mem_nil, or_false] at hb
    rcases hb with rfl | rfl | rfl | rfl | rfl
    · exact .inl List.mem_cons_self
    · exact .inr hsh
    · exact .inr f1
    · exact .inr f2
    · exact .inr f3
def spAdd (CT : Addr) (cls : Nat → Addr) : Sp := fun vs H Q _ => ∃ (A : TA) (D : TreeD) (p : Addr) (s : Shp) (e : Int), vs = [.ref A.t, .ref p, .int e] ∧ TRm CT cls A D H ∧ D.WF ∧ ShAt cls H p s ∧ s.kind < 6 ∧ s.name ∉ D.shs.map Shp.name ∧ (e = -1 ∨ (0 ≤ e ∧ e < D.n)) ∧
  ∀ A' H', A'.t = A.t → TRm CT cls A' (D.add s e) H' → Out A.foot H H' → New A.foot A'.foot H → Q (.int (D.n : Int)) H'
theorem ok_add {CT : Addr} {cls : Nat → Addr} {f : Addr} {fd : FuncData} (F : Fun K "add" "Tree.add" s_Tree_add f fd) (T : Bt mg) (cT : ClsF K CT treeN) (kc : KdC K cls) : FnOk P w K mg base CX0 1 f fd ["self", "shape", "elder"] (spAdd CT cls) := by
  refine F.ok sc_Tree_add (fun vs H Q E h => ?_) (fun cdv A outer s H vs Q E hr h => ?_)
  · obtain ⟨A, D, p, s, e, rfl, _⟩ := h
    rfl
  obtain ⟨A, D, p, s, e, rfl, R, W, ⟨dxp, hp⟩, hk, hn, he, q⟩ := h
  have hu := hu_of hr
  have ht := R.ht
  have hsh := R.hsh
  have hel := R.hel
  have hyg := R.hyg
  have hkn := R.hkn
  have nd := R.nd
  have cp := kc.cf s.kind hk
  unfold treeF at ht
  have hsz := W.sz
  have lps := R.lps
  have lys := R.lys
  have le := W.le
  have n_t_sh : A.t ≠ A.sh := ne_of ht hsh (by intro z; cases z)
  have n_t_el : A.t ≠ A.el := ne_of ht hel (by intro z; cases z)
  have n_t_yg : A.t ≠ A.yg := ne_of ht hyg (by intro z; cases z)
  have n_t_kn : A.t ≠ A.kn := ne_of ht hkn (by intro z; cases z)
  have n_p_sh : p ≠ A.sh := ne_of hp hsh (by intro z; cases z)
  have n_p_el : p ≠ A.el := ne_of hp hel (by intro z; cases z)
  have n_p_yg : p ≠ A.yg := ne_of hp hyg (by intro z; cases z)
  have n_p_kn : p ≠ A.kn := ne_of hp hkn (by intro z; cases z)
  have n_sh_kn : A.sh ≠ A.kn := ne_of hsh hkn (by intro z; cases z)
  have n_el_kn : A.el ≠ A.kn := ne_of hel hkn (by intro z; cases z)
  have n_yg_kn : A.yg ≠ A.kn := ne_of hyg hkn (by intro z; cases z)
  simp only [List.nodup_cons, List.mem_cons, not_or] at nd
  obtain ⟨⟨n_sh_el, n_sh_yg, n_sh_ys⟩, ⟨n_el_yg, n_el_ys⟩, n_yg_ys, n_ys⟩ := nd
  refine ⟨_, (pss_cons (ps_set (i := 3) sc_Tree_add.nd rfl (Or.inl rfl) (pe_callB (kLenL (K := K) rfl) (by rfl) T.len (by decide +kernel) (pa_cons (kFld (K := K) rfl (pv 0)) pa_nil)))
    (pss_cons (ps_expr (kBm (K := K) rfl PySem.F.plainAttrs_list PySem.F.slot_list_append PySem.F.type_list_append mt_append (kFld (K := K) rfl (pv 0)) (pa_cons (pv 1) pa_nil)))
    (pss_cons (ps_expr (kBm (K := K) rfl PySem.F.plainAttrs_list PySem.F.slot_list_append PySem.F.type_list_append mt_append (kFld (K := K) rfl (pv 0)) (pa_cons (pv 2) pa_nil)))
    (pss_cons (ps_expr (kBm (K := K) rfl PySem.F.plainAttrs_list PySem.F.slot_list_append PySem.F.type_list_append mt_append (kFld (K := K) rfl (pv 0)) (pa_cons (pe_lst pa_nil) pa_nil)))
    (pss_cons (ps_dput hu (kFld (K := K) rfl (pv 0)) (kFld (K := K) rfl (pv 1)) (pv 3) rfl)
    (C8.pss_cut (ps_if (pt_cmpR op_ge (pv 2) pe_int (nomark _)) (pss_one (ps_expr (kBm (K := K) rfl PySem.F.plainAttrs_list PySem.F.slot_list_append PySem.F.type_list_append mt_append (pe_ix (kIxL (K := K) rfl) (kFld (K := K) rfl (pv 0)) (pv 2) (fun _ _ => rfl)) (pa_cons (pv 3) pa_nil)))) pss_nil)
    (pss_one (ps_ret (pv 3))))))))), ?_⟩
  walk_at "rd"
  refine ⟨Nat.zero_le _, fun y hy => ?_⟩
  have fy : H y = none := updN (updN hy)
  have n_t_y : A.t ≠ y := by walk_at "ne"
  have n_p_y : p ≠ y := by walk_at "ne"
  have n_sh_y : A.sh ≠ y := by walk_at "ne"
  have n_el_y : A.el ≠ y := by walk_at "ne"
  have n_yg_y : A.yg ≠ y := by walk_at "ne"
  have n_kn_y : A.kn ≠ y := by walk_at "ne"
  have n_ys_y : ∀ z ∈ A.ys, z ≠ y := fun z hz => by
    obtain ⟨i, hi, e⟩ := List.getElem_of_mem hz
    exact neN fy (R.hys i z (by rw [List.getElem?_eq_getElem hi, e]))
  walk_at "rd"
  refine w_fld1 (by walk_at "hp") cp.cl (cp.no _ (attr_name _)) (fld_name s) ?_
  refine w_dput1 (k := Sum.inr s.name) (by walk_at "hp") rfl (by rw [kvs_len]; show D.n < _; have := PySem.sizeLine_eq; omega) ?_
  have el0 : (A.ps.map V.ref).length = D.shs.length := by rw [List.length_map, lps]; rfl
  rw [el0, kvs_put hn]
  have nsz : ∀ z o, H z = some o → o ≠ .lst (A.ps.map V.ref) → o ≠ .lst (D.eld.map V.int) → o ≠ .lst (A.ys.map V.ref) → (∀ kv, o ≠ .dK kv) → upd (upd (upd (upd (upd H A.sh (.lst (A.ps.map V.ref ++ [V.ref p]))) A.el (.lst (D.eld.map V.int ++ [V.int e]))) y (.lst [])) A.yg (.lst (A.ys.map V.ref ++ [V.ref y]))) A.kn (.dK (kvsOf (D.shs ++ [s]))) z = some o := fun z o hz o1 o2 o3 o4 => by
    have a1 : z ≠ A.sh := ne_of hz hsh o1
    have a2 : z ≠ A.el := ne_of hz hel o2
    have a3 : z ≠ A.yg := ne_of hz hyg o3
    have a4 : z ≠ A.kn := ne_of hz hkn (o4 _)
    have a5 : z ≠ y := neN fy hz
    walk_at "hp"
  have h1 := nsz _ _ ht (by intro z; cases z) (by intro z; cases z) (by intro z; cases z) (by intro kv z; cases z)
  have h8 : ∀ q s', ShAt cls H q s' → _ := fun q s' h => show ShAt cls _ q s' from ⟨h.choose, nsz _ _ h.choose_spec (by intro z; cases z) (by intro z; cases z) (by intro z; cases z) (by intro kv z; cases z)⟩
  have h10 : Out A.foot H (upd (upd (upd (upd (upd H A.sh (.lst (A.ps.map V.ref ++ [V.ref p]))) A.el (.lst (D.eld.map V.int ++ [V.int e]))) y (.lst [])) A.yg (.lst (A.ys.map V.ref ++ [V.ref y]))) A.kn (.dK (kvsOf (D.shs ++ [s])))) := fun b u hb hu => by
    simp only [TA.foot, List.mem_cons, not_or] at hb
    obtain ⟨_, b1, b2, b3, b4, _⟩ := hb
    have b5 : b ≠ y := neN fy hu
    walk_at "hp"
  have h6 : ∀ i z, A.ys[i]? = some z → upd (upd (upd (upd (upd H A.sh (.lst (A.ps.map V.ref ++ [V.ref p]))) A.el (.lst (D.eld.map V.int ++ [V.int e]))) y (.lst [])) A.yg (.lst (A.ys.map V.ref ++ [V.ref y]))) A.kn (.dK (kvsOf (D.shs ++ [s]))) z = some (.lst ((yngOf D.eld i).map fun j : Nat => V.int j)) := fun i z hz => by
    have mz := List.mem_of_getElem? hz
    have hz := R.hys i z hz
    have a1 : z ≠ A.sh := fun e => n_sh_ys (e ▸ mz)
    have a2 : z ≠ A.el := fun e => n_el_ys (e ▸ mz)
    have a3 : z ≠ A.yg := fun e => n_yg_ys (e ▸ mz)
    have a4 : z ≠ A.kn := ne_of hz hkn (by intro z; cases z)
    have a5 : z ≠ y := neN fy hz
    walk_at "hp"
  have h2 : upd (upd (upd (upd (upd H A.sh (.lst (A.ps.map V.ref ++ [V.ref p]))) A.el (.lst (D.eld.map V.int ++ [V.int e]))) y (.lst [])) A.yg (.lst (A.ys.map V.ref ++ [V.ref y]))) A.kn (.dK (kvsOf (D.shs ++ [s]))) A.sh = some (.lst (A.ps.map V.ref ++ [V.ref p])) := by walk_at "hp"
  have h3 : upd (upd (upd (upd (upd H A.sh (.lst (A.ps.map V.ref ++ [V.ref p]))) A.el (.lst (D.eld.map V.int ++ [V.int e]))) y (.lst [])) A.yg (.lst (A.ys.map V.ref ++ [V.ref y]))) A.kn (.dK (kvsOf (D.shs ++ [s]))) A.el = some (.lst (D.eld.map V.int ++ [V.int e])) := by walk_at "hp"
  have h4 : upd (upd (upd (upd (upd H A.sh (.lst (A.ps.map V.ref ++ [V.ref p]))) A.el (.lst (D.eld.map V.int ++ [V.int e]))) y (.lst [])) A.yg (.lst (A.ys.map V.ref ++ [V.ref y]))) A.kn (.dK (kvsOf (D.shs ++ [s]))) A.yg = some (.lst (A.ys.map V.ref ++ [V.ref y])) := by walk_at "hp"
  have h7 : upd (upd (upd (upd (upd H A.sh (.lst (A.ps.map V.ref ++ [V.ref p]))) A.el (.lst (D.eld.map V.int ++ [V.int e]))) y (.lst [])) A.yg (.lst (A.ys.map V.ref ++ [V.ref y]))) A.kn (.dK (kvsOf (D.shs ++ [s]))) y = some (.lst []) := by walk_at "hp"
  have h5 : upd (upd (upd (upd (upd H A.sh (.lst (A.ps.map V.ref ++ [V.ref p]))) A.el (.lst (D.eld.map V.int ++ [V.int e]))) y (.lst [])) A.yg (.lst (A.ys.map V.ref ++ [V.ref y]))) A.kn (.dK (kvsOf (D.shs ++ [s]))) A.kn = some (.dK (kvsOf (D.shs ++ [s]))) := by walk_at "hp"
  generalize upd (upd (upd (upd (upd H A.sh (.lst (A.ps.map V.ref ++ [V.ref p]))) A.el (.lst (D.eld.map V.int ++ [V.int e]))) y (.lst [])) A.yg (.lst (A.ys.map V.ref ++ [V.ref y]))) A.kn (.dK (kvsOf (D.shs ++ [s]))) = Hm at h1 h2 h3 h4 h5 h6 h7 h8 h10 ⊢
  -- behind the branch
  have fin : ∀ H', (∀ b u, b ∉ A.ys → Hm b = some u → H' b = some u) → (∀ i z, A.ys[i]? = some z → H' z = some (.lst ((yngOf (D.eld ++ [e]) i).map fun j : Nat => V.int j))) → Q (.int (D.n : Int)) H' := fun H' hk hy' => by
    have ly : y ∉ A.ys := fun m => n_ys_y y m rfl
    have nq : ∀ q s', ShAt cls H q s' → q ∉ A.ys := fun q s' h m => by
      obtain ⟨i, hi, e⟩ := List.getElem_of_mem m
      have := R.hys i q (by rw [List.getElem?_eq_getElem hi, e])
      rw [h.choose_spec] at this
      cases this
    have nt : A.t ∉ A.ys := fun m => by
      obtain ⟨i, hi, e⟩ := List.getElem_of_mem m
      have := R.hys i _ (by rw [List.getElem?_eq_getElem hi, e])
      rw [ht] at this
      cases this
    have nkn : A.kn ∉ A.ys := fun m => by
      obtain ⟨i, hi, e⟩ := List.getElem_of_mem m
      have := R.hys i _ (by rw [List.getElem?_eq_getElem hi, e])
      rw [hkn] at this
      cases this
    refine q ⟨A.t, A.dx, A.sh, A.el, A.yg, A.kn, A.ys ++ [y], A.ps ++ [p]⟩ H' rfl ⟨⟨hk _ _ nt h1, ?_, ?_, fun i q' hq => ?_, ?_, ?_, ?_, fun i z hz => ?_, hk _ _ nkn h5⟩, ?_⟩ (fun b u hb hu => ?_) (fun b hb => ?_)
    · rw [List.map_append]
      exact hk _ _ n_sh_ys h2
    · show (A.ps ++ [p]).length = (D.shs ++ [s]).length
      rw [List.length_append, List.length_append, lps]
      rfl
    · have hq : (A.ps ++ [p])[i]? = some q' := hq
      show ShAt cls H' q' ((D.shs ++ [s]).getD i default)
      by_cases hi : i < A.ps.length
      · rw [List.getElem?_append_left hi] at hq
        have a := h8 _ _ (R.hps i q' hq)
        rw [List.getD_eq_getElem?_getD, List.getElem?_append_left (by rw [lps] at hi; exact hi), ← List.getD_eq_getElem?_getD]
        exact ⟨a.choose, hk _ _ (nq _ _ (R.hps i q' hq)) a.choose_spec⟩
      · have hi2 : i = A.ps.length := by
          have := (List.getElem?_eq_some_iff.mp hq).choose
          rw [List.length_append, List.length_singleton] at this
          omega
        subst hi2
        rw [List.getElem?_append_right (Nat.le_refl _), Nat.sub_self] at hq
        obtain rfl : p = q' := Option.some.inj hq
        have a := h8 p s ⟨_, hp⟩
        have e2 : (D.shs ++ [s]).getD A.ps.length default = s := by
          rw [List.getD_eq_getElem?_getD, List.getElem?_append_right (by rw [lps]; exact Nat.le_refl _), show A.ps.length - D.shs.length = 0 by rw [lps]; exact Nat.sub_self _]
          rfl
        rw [e2]
        exact ⟨a.choose, hk _ _ (nq _ _ ⟨_, hp⟩) a.choose_spec⟩
    · show H' A.el = some (.lst ((D.eld ++ [e]).map V.int))
      rw [List.map_append]
      exact hk _ _ n_el_ys h3
    · rw [List.map_append]
      exact hk _ _ n_yg_ys h4
    · show (A.ys ++ [y]).length = (D.shs ++ [s]).length
      rw [List.length_append, List.length_append, lys]
      rfl
    · have hz : (A.ys ++ [y])[i]? = some z := hz
      by_cases hi : i < A.ys.length
      · rw [List.getElem?_append_left hi] at hz
        exact hy' i z hz
      · have hi2 : i = A.ys.length := by
          have := (List.getElem?_eq_some_iff.mp hz).choose
          rw [List.length_append, List.length_singleton] at this
          omega
        subst hi2
        rw [List.getElem?_append_right (Nat.le_refl _), Nat.sub_self] at hz
        obtain rfl : y = z := Option.some.inj hz
        have e3 : yngOf (D.eld ++ [e]) A.ys.length = [] := by
          rw [yng_add, if_neg (by rw [lys]; omega), List.append_nil, List.eq_nil_iff_forall_not_mem]
          intro j hj
          obtain ⟨a1, a2⟩ := yng_lt hj
          have := W.el j (by omega)
          unfold TreeD.e at this
          rw [a2, lys] at this
          omega
        show H' y = some (.lst ((yngOf (D.eld ++ [e]) A.ys.length).map fun j : Nat => V.int j))
        rw [e3]
        exact hk _ _ ly h7
    · have n_y_sh := n_sh_y.symm
      have n_y_el := n_el_y.symm
      simp only [List.nodup_cons, List.mem_cons, not_or, List.mem_append, List.not_mem_nil, or_false, List.nodup_append]
      refine ⟨⟨n_sh_el, n_sh_yg, n_sh_ys, n_sh_y⟩, ⟨n_el_yg, n_el_ys, n_el_y⟩, ⟨n_yg_ys, n_yg_y⟩, n_ys, by simp, fun a ha b hb => ?_⟩
      subst hb
      exact n_ys_y a ha
    · have m : b ∉ A.ys := fun m => hb (by simp only [TA.foot, List.mem_cons]; exact .inr (.inr (.inr (.inr (.inr m)))))
      exact hk b u m (h10 b u hb hu)
    · simp only [TA.foot, List.mem_cons, List.mem_append, List.not_mem_nil, or_false] at hb ⊢
      rcases hb with h | h | h | h | h | h | h
      · exact .inl (.inl h)
      · exact .inl (.inr (.inl h))
      · exact .inl (.inr (.inr (.inl h)))
      · exact .inl (.inr (.inr (.inr (.inl h))))
      · exact .inl (.inr (.inr (.inr (.inr (.inl h)))))
      · exact .inl (.inr (.inr (.inr (.inr (.inr h)))))
      · exact .inr (h ▸ fy)
  refine w_cut (fun σ H' => ∃ n : Nat, σ = [some (.ref A.t), some (.ref p), some (.int e), some (.int (n : Int))] ∧ n = D.n ∧ (∀ b u, b ∉ A.ys → Hm b = some u → H' b = some u) ∧ (∀ i z, A.ys[i]? = some z → H' z = some (.lst ((yngOf (D.eld ++ [e]) i).map fun j : Nat => V.int j)))) ?_ (fun σ H' hm => ?_)
  · walk_at "rd"
    walk_at "if"
    all_goals rename_i c
    all_goals walk_at "rd"
    · have he : 0 ≤ e ∧ e < D.n := by omega
      obtain ⟨i, rfl⟩ : ∃ i : Nat, e = (i : Int) := ⟨e.toNat, by omega⟩
      have hi : i < A.ys.length := by omega
      have hz : A.ys[i]? = some A.ys[i] := List.getElem?_eq_getElem hi
      generalize A.ys[i] = z at hz
      have mz := List.mem_of_getElem? hz
      refine w_ixL (v := .ref z) (SqL.of h4) (at_nat (i := i) rfl (by rw [List.getElem?_append_left (by rw [List.length_map]; exact hi), List.getElem?_map, hz]; rfl)) ?_
      refine w_tyL (SqL.of (h6 i z hz)) ?_
      walk_at "rd"
      have hyl : ((yngOf D.eld i).map fun j : Nat => V.int j).length < PySem.sizeLine := by
        have a1 : (yngOf D.eld i).length ≤ D.eld.length := by
          unfold yngOf
          exact Nat.le_trans (List.length_filter_le _ _) (by rw [List.length_range]; exact Nat.le_refl _)
        have := PySem.sizeLine_eq
        rw [List.length_map]
        omega
      refine w_app (h6 i z hz) hyl ?_
      walk_at "rd"
      refine ⟨_, rfl, rfl, fun b u hb hu => ?_, fun k z' hk' => ?_⟩
      · have : b ≠ z := fun e => hb (e ▸ mz)
        walk_at "hp"
      · rw [yng_add]
        by_cases e : z' = z
        · subst e
          have : k = i := by
            have hi2 : k < A.ys.length := (List.getElem?_eq_some_iff.mp hk').choose
            exact (List.getElem?_inj hi2 n_ys).mp (hk'.trans hz.symm)
          subst this
          rw [upd_same, if_pos rfl, List.map_append, le]
          rfl
        · have : ¬ ((i : Int) = (k : Int)) := fun h => by
            have h : i = k := by omega
            subst h
            exact e (Option.some.inj (hk'.symm.trans hz))
          rw [upd_ne e, if_neg this, List.append_nil]
          exact h6 k z' hk'
    · refine ⟨_, rfl, rfl, fun b u hb hu => hu, fun k z hk' => ?_⟩
      rw [yng_add, if_neg (by omega), List.append_nil]
      exact h6 k z hk'
  · obtain ⟨n, rfl, rfl, hk', hy'⟩ := hm
    walk_at "rd"
    exact fin _ hk' hy'
end
end Mn

namespace Mn
open PySem PySem.Spec PyProof.Rows L2 TL
/-! ### what is read of a tree -/
theorem ShAt.same {cls : Nat → Addr} {H H' : Hp} {p : Addr} {s : Shp} (e : Same H H') (h : ShAt cls H p s) : ShAt cls H' p s := ⟨h.choose, e _ _ h.choose_spec⟩
theorem TR.same {CT : Addr} {cls : Nat → Addr} {A : TA} {D : TreeD} {H H' : Hp} (e : Same H H') (R : TR CT cls A D H) : TR CT cls A D H' :=
  ⟨e _ _ R.ht, e _ _ R.hsh, R.lps, fun i p h => (R.hps i p h).same e, e _ _ R.hel, e _ _ R.hyg, R.lys, fun i y h => e _ _ (R.hys i y h), e _ _ R.hkn⟩
theorem TRm.same {CT : Addr} {cls : Nat → Addr} {A : TA} {D : TreeD} {H H' : Hp} (e : Same H H') (R : TRm CT cls A D H) : TRm CT cls A D H' := { R.toTR.same e with nd := R.nd }
/-- the minder above a row that stands so deep: -1 the top's, -2 none -/
def climb (D : TreeD) (deep : Int) : Nat → Int → Int
  | 0, j => j
  | f + 1, j => if 0 ≤ j ∧ deep ≤ (D.dp j.toNat : Int) then climb D deep f (D.e j.toNat) else j
def elderM (D : TreeD) (deep : Int) : Int :=
  if deep = 0 then (if D.n = 0 then -1 else -2) else if D.n = 0 then -2 else
  if climb D deep (D.n + 1) ((D.n : Int) - 1) < 0 then -2 else
  if (D.dp (climb D deep (D.n + 1) ((D.n : Int) - 1)).toNat : Int) ≠ deep - 1 ∨ (D.sh (climb D deep (D.n + 1) ((D.n : Int) - 1)).toNat).kind < 3 then -2 else climb D deep (D.n + 1) ((D.n : Int) - 1)
theorem TreeD.WF.e_lt {D : TreeD} (W : D.WF) {i : Nat} (h : i < D.n) : -1 ≤ D.e i ∧ D.e i < i := by
  have := W.el i h
  omega
theorem climb_more {D : TreeD} (W : D.WF) (deep : Int) : ∀ (f : Nat) (j : Int), -1 ≤ j → j < D.n → j < (f : Int) → ∀ g, f ≤ g → climb D deep g j = climb D deep f j
  | 0, j, h0, hn, hf, g, hg => by
    have : j = -1 := by omega
    subst this
    cases g with
    | zero => rfl
    | succ g =>
      show climb D deep (g + 1) (-1) = -1
      unfold climb
      exact if_neg (fun z => absurd z.1 (by decide))
  | f + 1, j, h0, hn, hf, g, hg => by
    cases g with
    | zero => omega
    | succ g =>
      rw [climb, climb]
      split
      · rename_i c
        have := W.e_lt (i := j.toNat) (by omega)
        exact climb_more W deep f _ (by omega) (by omega) (by omega) g (by omega)
      · rfl
section
variable {P : Program} {w : World} {K : PySem.W.Frag} {mg : Str → Option Value} {base : Heap}
def spDepth (CT : Addr) (cls : Nat → Addr) : Sp := fun vs H Q _ => ∃ (A : TA) (D : TreeD) (i : Nat), vs = [.ref A.t, .int (i : Int)] ∧ TR CT cls A D H ∧ D.WF ∧ i < D.n ∧ Q (.int (D.dp i : Int)) H
theorem atE {D : TreeD} {i : Nat} (W : D.WF) (h : i < D.n) : (D.eld.map V.int)[i]? = some (.int (D.e i)) := by
  rw [List.getElem?_map, List.getElem?_eq_getElem (by rw [W.le]; exact h)]
  unfold TreeD.e
  rw [List.getD_eq_getElem?_getD, List.getElem?_eq_getElem (by rw [W.le]; exact h)]
  rfl
theorem ok_depth {CT : Addr} {cls : Nat → Addr} {f : Addr} {fd : FuncData} (F : Fun K "depth" "Tree.depth" s_Tree_depth f fd) (cT : ClsF K CT treeN) : FnOk P w K mg base CX0 1 f fd ["self", "at"] (spDepth CT cls) := by
  refine F.ok sc_Tree_depth (fun vs H Q E h => ?_) (fun cdv A outer s H vs Q E hr h => ?_)
  · obtain ⟨A, D, i, rfl, _⟩ := h
    rfl
  obtain ⟨A, D, i, rfl, R, W, hi, q⟩ := h
  have ht := R.ht
  unfold treeF at ht
  have hel := R.hel
  refine ⟨_, (pss_cons (ps_set (i := 2) sc_Tree_depth.nd rfl (Or.inl rfl) pe_int)
    (pss_cons (ps_while PassesOwn.never (pt_cmpR op_ge (pe_ix (kIxL (K := K) rfl) (kFld (K := K) rfl (pv 0)) (pv 1) (fun _ _ => rfl)) pe_int (nomark _)) (pss_cons (ps_set (i := 1) sc_Tree_depth.nd rfl (Or.inl rfl) (pe_ix (kIxL (K := K) rfl) (kFld (K := K) rfl (pv 0)) (pv 1) (fun _ _ => rfl)))
    (pss_one (ps_aug (i := 2) sc_Tree_depth.nd rfl (Or.inl rfl) pe_int ip_add))))
    (pss_one (ps_ret (pv 2))))), ?_⟩
  walk_at "rd"
  refine ⟨fun m σ H' => ∃ j st : Nat, σ = [some (.ref A.t), some (.int (j : Int)), some (.int (st : Int))] ∧ H = H' ∧ j < D.n ∧ st + D.dp j = D.dp i ∧ m = j, ⟨_, i, 0, rfl, rfl, hi, Nat.zero_add _, rfl⟩, fun m σ H' hm => ?_⟩
  obtain ⟨j, st, rfl, rfl, hj, hs, rfl⟩ := hm
  have el := W.el m hj
  have dp := W.dp m hj
  walk_at "rd"
  refine w_ixL (SqL.of hel) (at_nat (i := m) rfl (atE W hj)) ?_
  walk_at "rd"
  walk_at "if"
  · rename_i c
    rw [if_neg (by omega)] at dp
    refine ⟨fun σ H' => ∃ m' : Nat, m' < m ∧ ∃ j st : Nat, σ = [some (.ref A.t), some (.int (j : Int)), some (.int (st : Int))] ∧ H = H' ∧ j < D.n ∧ st + D.dp j = D.dp i ∧ m' = j, fun σ' H' h => h, ?_⟩
    walk_at "rd"
    refine w_ixL (SqL.of hel) (at_nat (i := m) rfl (atE W hj)) ?_
    walk_at "rd"
    refine ⟨(D.e m).toNat, by omega, (D.e m).toNat, st + 1, ?_, rfl, by omega, by omega, rfl⟩
    rw [show (((D.e m).toNat : Nat) : Int) = D.e m by omega]
    rfl
  · rename_i c
    rw [if_pos (by omega)] at dp
    walk_at "rd"
    rw [dp, Nat.add_zero] at hs
    rw [hs]
    exact q
def spElder (CT : Addr) (cls : Nat → Addr) : Sp := fun vs H Q _ => ∃ (A : TA) (D : TreeD) (deep : Int), vs = [.ref A.t, .int deep] ∧ TR CT cls A D H ∧ D.WF ∧ 0 ≤ deep ∧ ∀ H', Same H H' → Q (.int (elderM D deep)) H'
theorem ok_elder {CT : Addr} {cls : Nat → Addr} {f : Addr} {fd : FuncData} (F : Fun K "elder_at" "elder_at" s_elder_at f fd) (T : Bt mg) (cT : ClsF K CT treeN) (kc : KdC K cls) (kl : KdL P w K mg base cls) (MD : Mth P w K mg base CX0 CT "depth" 1 ["self", "at"] [] (spDepth CT cls)) :
    FnOk P w K mg base CX0 2 f fd ["tree", "deep"] (spElder CT cls) := by
  refine F.ok sc_elder_at (fun vs H Q E h => ?_) (fun cdv A outer s H vs Q E hr h => ?_)
  · obtain ⟨A, D, deep, rfl, _⟩ := h
    rfl
  obtain ⟨A, D, deep, rfl, R, W, hd, q⟩ := h
  have ht := R.ht
  unfold treeF at ht
  have hel := R.hel
  have hsh := R.hsh
  have lps := R.lps
  have hsz := W.sz
  refine ⟨_, (pss_cons (ps_if (pt_cmpR op_eq (pv 1) pe_int (nomark _)) (pss_cons (ps_if (pt_cmpR (op_eqE hr.units) (kFld (K := K) rfl (pv 0)) (pe_lst pa_nil) (nomark _)) (pss_one (ps_ret (pe_un un_neg pe_int))) pss_nil)
    (pss_one (ps_ret (pe_un un_neg pe_int)))) pss_nil)
    (pss_cons (ps_if (pt_cmpR (op_eqE hr.units) (kFld (K := K) rfl (pv 0)) (pe_lst pa_nil) (nomark _)) (pss_one (ps_ret (pe_un un_neg pe_int))) pss_nil)
    (pss_cons (ps_set (i := 2) sc_elder_at.nd rfl (Or.inl rfl) (pe_op op_sub (pe_callB (kLenL (K := K) rfl) (by rfl) T.len (by decide +kernel) (pa_cons (kFld (K := K) rfl (pv 0)) pa_nil)) pe_int))
    (C8.pss_cut (ps_while PassesOwn.never (PW.pt (pw_and (pt_cmpR op_ge (pv 2) pe_int (nomark _)) (pw_and1 (pt_cmpR op_ge (pe_ma (P := P) (w := w) (K := K) (mg := mg) (base := base) ⟨rfl, rfl, rfl, rfl, rfl⟩ hr (pv 0) (pa_cons (pv 2) pa_nil)) (pv 1) (nomark _))))) (pss_one (ps_set (i := 2) sc_elder_at.nd rfl (Or.inl rfl) (pe_ix (kIxL (K := K) rfl) (kFld (K := K) rfl (pv 0)) (pv 2) (fun _ _ => rfl)))))
    (pss_cons (ps_if (PW.pt (pw_or (pt_cmpR op_lt (pv 2) pe_int (nomark _)) (pw_or (pt_cmpR op_ne (pe_ma (P := P) (w := w) (K := K) (mg := mg) (base := base) ⟨rfl, rfl, rfl, rfl, rfl⟩ hr (pv 0) (pa_cons (pv 2) pa_nil)) (pe_op op_sub (pv 1) pe_int) (nomark _)) (pw_or1 (pt_val (pe_ma0 (P := P) (w := w) (K := K) (mg := mg) (base := base) ⟨rfl, rfl, rfl, rfl, rfl⟩ hr (pe_ix (kIxL (K := K) rfl) (kFld (K := K) rfl (pv 0)) (pv 2) (fun _ _ => rfl)))))))) (pss_one (ps_ret (pe_un un_neg pe_int))) pss_nil)
    (pss_one (ps_ret (pv 2)))))))), ?_⟩
  have em : (A.ps.map V.ref).isEmpty = decide (D.n = 0) := by
    rw [← lps]
    cases A.ps <;> rfl
  have fin : ∀ v H', v = elderM D deep → Same H H' → Q (.int v) H' := fun v H' e s => by rw [e]; exact q H' s
  walk_at "rd"
  walk_at "if"
  · rename_i c
    have c := V.int.inj c
    subst c
    walk_at "rd"
    refine ⟨Nat.zero_le _, fun b hb => ?_⟩
    have s1 := same_new hb (.lst [])
    walk_at "rd"
    rw [em]
    walk_at "if"
    all_goals rename_i c2
    all_goals walk_at "rd"
    · refine fin _ _ ?_ s1
      unfold elderM
      rw [if_pos rfl, if_pos c2]
    · refine fin _ _ ?_ s1
      unfold elderM
      rw [if_pos rfl, if_neg c2]
  rename_i c
  have c : ¬ deep = 0 := fun e => c (congrArg V.int e)
  walk_at "rd"
  refine ⟨Nat.zero_le _, fun b hb => ?_⟩
  have s1 := same_new hb (.lst [])
  walk_at "rd"
  rw [em]
  have R := R.same s1
  have ht := s1 _ _ ht
  have hel := s1 _ _ hel
  have hsh := s1 _ _ hsh
  generalize upd H b (.lst []) = H1 at s1 R ht hel hsh ⊢
  walk_at "if"
  · rename_i c2
    walk_at "rd"
    refine fin _ _ ?_ s1
    unfold elderM
    rw [if_neg c, if_pos c2]
  rename_i c2
  walk_at "rd"
  rw [List.length_map, lps]
  obtain ⟨n, en⟩ : ∃ n, D.n = n + 1 := ⟨D.n - 1, by omega⟩
  refine w_cut (fun σ H' => ∃ j : Int, σ = [some (.ref A.t), some (.int deep), some (.int j)] ∧ H1 = H' ∧ -1 ≤ j ∧ j < D.n ∧ j = climb D deep (D.n + 1) ((D.n : Int) - 1)) ?_ (fun σ H' hm => ?_)
  · refine ⟨fun m σ H' => ∃ j : Int, σ = [some (.ref A.t), some (.int deep), some (.int j)] ∧ H1 = H' ∧ -1 ≤ j ∧ j < D.n ∧ climb D deep (D.n + 1) j = climb D deep (D.n + 1) ((D.n : Int) - 1) ∧ m = (j + 1).toNat, ⟨_, _, rfl, rfl, by omega, by omega, rfl, rfl⟩, fun m σ H' hm => ?_⟩
    obtain ⟨j, rfl, rfl, j0, jn, ej, rfl⟩ := hm
    walk_at "rd"
    by_cases cj : 0 ≤ j
    · rw [decide_eq_true cj]
      obtain ⟨k, rfl⟩ : ∃ k : Nat, j = (k : Int) := ⟨j.toNat, by omega⟩
      have hk : k < D.n := by omega
      walk_at "rd"
      refine w_ma1 ht cT.cl rfl MD (by decide) ?_
      walk_at "rd"
      refine ⟨A, D, k, rfl, R, W, hk, ?_⟩
      walk_at "rd"
      walk_at "if"
      · rename_i c3
        refine ⟨fun σ H' => ∃ m' : Nat, m' < ((k : Int) + 1).toNat ∧ ∃ j : Int, σ = [some (.ref A.t), some (.int deep), some (.int j)] ∧ H1 = H' ∧ -1 ≤ j ∧ j < D.n ∧ climb D deep (D.n + 1) j = climb D deep (D.n + 1) ((D.n : Int) - 1) ∧ m' = (j + 1).toNat, fun σ' H' h => h, ?_⟩
        walk_at "rd"
        refine w_ixL (SqL.of hel) (at_nat (i := k) rfl (atE W hk)) ?_
        walk_at "rd"
        have := W.e_lt hk
        refine ⟨(D.e k + 1).toNat, by omega, D.e k, rfl, rfl, by omega, by omega, ?_, rfl⟩
        rw [← ej]
        have e2 := climb_more W deep D.n (D.e k) (by omega) (by omega) (by omega) (D.n + 1) (by omega)
        rw [e2]
        show _ = climb D deep (D.n + 1) (k : Int)
        rw [climb, if_pos ⟨by omega, by rw [Int.toNat_natCast]; exact c3⟩, Int.toNat_natCast]
      · rename_i c3
        walk_at "rd"
        refine ⟨k, rfl, rfl, by omega, by omega, ?_⟩
        rw [← ej, climb, if_neg (by rw [Int.toNat_natCast]; exact fun z => c3 z.2)]
    · rw [decide_eq_false cj]
      walk_at "rd"
      refine ⟨j, rfl, rfl, by omega, by omega, ?_⟩
      rw [← ej, climb, if_neg (fun z => cj z.1)]
  obtain ⟨j, rfl, rfl, j0, jn, ej⟩ := hm
  have un : elderM D deep = if j < 0 then -2 else if (D.dp j.toNat : Int) ≠ deep - 1 ∨ (D.sh j.toNat).kind < 3 then -2 else j := by
    rw [ej]
    unfold elderM
    rw [if_neg c, if_neg c2]
  walk_at "rd"
  by_cases cj : j < 0
  · rw [decide_eq_true cj]
    walk_at "rd"
    refine fin _ _ ?_ s1
    rw [un, if_pos cj]
  rw [decide_eq_false cj]
  rw [if_neg cj] at un
  obtain ⟨k, rfl⟩ : ∃ k : Nat, j = (k : Int) := ⟨j.toNat, by omega⟩
  rw [Int.toNat_natCast] at un
  have hk : k < D.n := by omega
  walk_at "rd"
  refine w_ma1 ht cT.cl rfl MD (by decide) ?_
  walk_at "rd"
  refine ⟨A, D, k, rfl, R, W, hk, ?_⟩
  walk_at "rd"
  by_cases cd : (D.dp k : Int) = deep - 1
  case neg =>
    rw [decide_eq_false (fun z => cd (V.int.inj z)), Bool.not_false]
    walk_at "rd"
    refine fin _ _ ?_ s1
    rw [un, if_pos (.inl cd)]
  rw [decide_eq_true (congrArg V.int cd), Bool.not_true]
  walk_at "rd"
  have hp : A.ps[k]? = some A.ps[k] := List.getElem?_eq_getElem (by omega)
  generalize A.ps[k] = p at hp
  have hs := R.hps k p hp
  obtain ⟨dx, hs⟩ := hs
  have ok : OkS (D.sh k) := W.ok _ (by unfold TreeD.sh; rw [List.getD_eq_getElem?_getD, List.getElem?_eq_getElem hk]; exact List.getElem_mem hk)
  refine w_ixL (v := .ref p) (SqL.of hsh) (at_nat (i := k) rfl (by rw [List.getElem?_map, hp]; rfl)) ?_
  refine w_ma1 hs (kc.cf _ ok.kd).cl (fld_leaf _) (kl.leaf _ ok.kd) (by decide) ?_
  walk_at "rd"
  refine ⟨p, dx, _, rfl, hs, ?_⟩
  walk_at "rd"
  walk_at "if"
  all_goals rename_i c3
  all_goals walk_at "rd"
  · refine fin _ _ ?_ s1
    rw [un, if_pos (.inr c3)]
  · refine fin _ _ ?_ s1
    rw [un, if_neg (fun z => z.elim (fun z => z cd) c3)]
end
end Mn

namespace Mn
open PySem PySem.Spec PyProof.Rows L2 TL
/-! ### what a row's words tell -/
def numM (x : Str) : Option Int := match numOf x with
  | some v => if v ≤ 1000000 then some v else none
  | none => none
def wAt (ws : List Str) (i : Nat) : Str := ws.getD i ""
/-- none: NoNumber; some none: None -/
def leafR (ws : List Str) : Option (Option Shp) :=
  match numM (wAt ws 2) with
  | none => none
  | some g => match numM (wAt ws 3) with
    | none => none
    | some s =>
      if wAt ws 4 = "idle" ∧ ws.length = 6 then some (some ⟨0, wAt ws 5, wAt ws 1, g, s, 0⟩)
      else if ws.length = 7 ∧ (wAt ws 4 = "steady" ∨ wAt ws 4 = "falls") then
        match numM (wAt ws 5) with
        | none => none
        | some m => some (some ⟨if wAt ws 4 = "steady" then 1 else 2, wAt ws 6, wAt ws 1, g, s, m⟩)
      else some none
def minderR (ws : List Str) : Option (Option Shp) :=
  match numM (wAt ws 3) with
  | none => none
  | some m => match numM (wAt ws 4) with
    | none => none
    | some s =>
      if s = 0 then some none
      else if wAt ws 2 = "one" then some (some ⟨3, wAt ws 5, wAt ws 1, m, s, 0⟩)
      else if wAt ws 2 = "all" then some (some ⟨4, wAt ws 5, wAt ws 1, m, s, 0⟩)
      else if wAt ws 2 = "rest" then some (some ⟨5, wAt ws 5, wAt ws 1, m, s, 0⟩)
      else some none
def shapeM (ws : List Str) : Option Shp :=
  if ws.length < 6 ∨ wAt ws 1 ∉ keeps3 ∨ fitL (tl (wAt ws (ws.length - 1))) = false then none
  else if wAt ws 0 = "leaf" then (leafR ws).join
  else if wAt ws 0 = "minder" ∧ ws.length = 6 then (minderR ws).join
  else none
def ShV (cls : Nat → Addr) (r : Option Shp) (v : V) (H : Hp) : Prop := match r with
  | none => v = .non
  | some s => ∃ p, v = .ref p ∧ ShAt cls H p s
section
variable {P : Program} {w : World} {K : PySem.W.Frag} {mg : Str → Option Value} {base : Heap}
def spBy (K : PySem.W.Frag) (cls : Nat → Addr) (CN : Addr) (R : List Str → Option (Option Shp)) : Sp := fun vs H Q E => ∃ (a : Addr) (ws : List Str), vs = [.ref a] ∧ SqL K H a (ws.map V.str) ∧ 6 ≤ ws.length ∧ (∀ x ∈ ws, x.length ≤ 640) ∧ (R ws = none → E (.ref CN) none H) ∧
  ∀ r v H', R ws = some r → Same H H' → ShV cls r v H' → Q v H'
theorem wAt_at {ws : List Str} {i : Nat} (h : i < ws.length) : (ws.map V.str)[i]? = some (.str (wAt ws i)) := by
  unfold wAt
  rw [List.getElem?_map, List.getD_eq_getElem?_getD, List.getElem?_eq_getElem h]
  rfl
theorem wAt_mem {ws : List Str} {i : Nat} (h : i < ws.length) : wAt ws i ∈ ws := by
  unfold wAt
  rw [List.getD_eq_getElem?_getD, List.getElem?_eq_getElem h]
  exact List.getElem_mem h
theorem num_yes {x : Str} {v : Int} (h : numOf x = some v) (l : v ≤ 1000000) : numM x = some v := by
  unfold numM
  rw [h]
  exact if_pos l
theorem num_no {x : Str} (h : ∀ v, numOf x = some v → ¬ v ≤ 1000000) : numM x = none := by
  unfold numM
  cases e : numOf x with
  | none => rfl
  | some v => exact if_neg (h v e)
theorem ok_leaf_by {cls : Nat → Addr} {CN f : Addr} {fd : FuncData} (F : Fun K "leaf_by" "leaf_by" s_leaf_by f fd) (T : Bt mg) (kc : KdC K cls) (CM : Cal P w K mg base (CXN P w) "number_in" 1 ["text", "most"] [.int 1000000] (spNum CN))
    (L0 : Mak P w K mg base CX0 "Leaf" (cls 0) 2 ["self", "name", "keep", "grace", "slow"] [] (spLeaf K)) (L1 : Mak P w K mg base CX0 "Steady" (cls 1) 3 ["self", "name", "keep", "many", "grace", "slow"] [] (spMany K (cls 1)))
    (L2 : Mak P w K mg base CX0 "Faller" (cls 2) 3 ["self", "name", "keep", "many", "grace", "slow"] [] (spMany K (cls 2))) : FnOk P w K mg base (CXN P w) 5 f fd ["words"] (spBy K cls CN leafR) := by
  refine okN F sc_leaf_by (fun vs H Q E h => ?_) (fun cdv A outer s H vs Q E hr h => ?_)
  · obtain ⟨a, ws, rfl, _⟩ := h
    rfl
  obtain ⟨a, ws, rfl, hS, l6, hl, qe, q⟩ := h
  have lm := List.length_map (as := ws) V.str
  refine ⟨_, (pss_cons (ps_set (i := 1) sc_leaf_by.nd rfl (Or.inl rfl) (pe_cae (P := P) (w := w) (K := K) (mg := mg) (base := base) ⟨rfl, rfl, rfl, rfl, rfl⟩ hr rfl (L2N.takes_of rfl rfl rfl rfl) (pa_cons (pe_ix (kIxL (K := K) rfl) (pv 0) pe_int (fun _ _ => rfl)) pa_nil)))
    (pss_cons (ps_set (i := 2) sc_leaf_by.nd rfl (Or.inl rfl) (pe_cae (P := P) (w := w) (K := K) (mg := mg) (base := base) ⟨rfl, rfl, rfl, rfl, rfl⟩ hr rfl (L2N.takes_of rfl rfl rfl rfl) (pa_cons (pe_ix (kIxL (K := K) rfl) (pv 0) pe_int (fun _ _ => rfl)) pa_nil)))
    (C8.pss_cut (ps_if (PW.pt (pw_and (pt_cmpR op_eq (pe_ix (kIxL (K := K) rfl) (pv 0) pe_int (fun _ _ => rfl)) pe_str (nomark _)) (pw_and1 (pt_cmpR op_eq (pe_callB (kLenL (K := K) rfl) (by rfl) T.len (by decide +kernel) (pa_cons (pv 0) pa_nil)) pe_int (nomark _))))) (pss_one (ps_ret (pe_mka (P := P) (w := w) (K := K) (mg := mg) (base := base) ⟨rfl, rfl, rfl, rfl, rfl⟩ hr rfl (pa_cons (pe_ix (kIxL (K := K) rfl) (pv 0) pe_int (fun _ _ => rfl)) (pa_cons (pe_ix (kIxL (K := K) rfl) (pv 0) pe_int (fun _ _ => rfl)) (pa_cons (pv 1) (pa_cons (pv 2) pa_nil))))))) pss_nil)
    (C8.pss_cut (ps_if (PW.pt (pw_and (pt_cmpR op_eq (pe_callB (kLenL (K := K) rfl) (by rfl) T.len (by decide +kernel) (pa_cons (pv 0) pa_nil)) pe_int (nomark _)) (pw_and1 (pt_cmpR op_eq (pe_ix (kIxL (K := K) rfl) (pv 0) pe_int (fun _ _ => rfl)) pe_str (nomark _))))) (pss_one (ps_ret (pe_mka (P := P) (w := w) (K := K) (mg := mg) (base := base) ⟨rfl, rfl, rfl, rfl, rfl⟩ hr rfl (pa_cons (pe_ix (kIxL (K := K) rfl) (pv 0) pe_int (fun _ _ => rfl)) (pa_cons (pe_ix (kIxL (K := K) rfl) (pv 0) pe_int (fun _ _ => rfl)) (pa_cons (pe_cae (P := P) (w := w) (K := K) (mg := mg) (base := base) ⟨rfl, rfl, rfl, rfl, rfl⟩ hr rfl (L2N.takes_of rfl rfl rfl rfl) (pa_cons (pe_ix (kIxL (K := K) rfl) (pv 0) pe_int (fun _ _ => rfl)) pa_nil)) (pa_cons (pv 1) (pa_cons (pv 2) pa_nil)))))))) pss_nil)
    (C8.pss_cut (ps_if (PW.pt (pw_and (pt_cmpR op_eq (pe_callB (kLenL (K := K) rfl) (by rfl) T.len (by decide +kernel) (pa_cons (pv 0) pa_nil)) pe_int (nomark _)) (pw_and1 (pt_cmpR op_eq (pe_ix (kIxL (K := K) rfl) (pv 0) pe_int (fun _ _ => rfl)) pe_str (nomark _))))) (pss_one (ps_ret (pe_mka (P := P) (w := w) (K := K) (mg := mg) (base := base) ⟨rfl, rfl, rfl, rfl, rfl⟩ hr rfl (pa_cons (pe_ix (kIxL (K := K) rfl) (pv 0) pe_int (fun _ _ => rfl)) (pa_cons (pe_ix (kIxL (K := K) rfl) (pv 0) pe_int (fun _ _ => rfl)) (pa_cons (pe_cae (P := P) (w := w) (K := K) (mg := mg) (base := base) ⟨rfl, rfl, rfl, rfl, rfl⟩ hr rfl (L2N.takes_of rfl rfl rfl rfl) (pa_cons (pe_ix (kIxL (K := K) rfl) (pv 0) pe_int (fun _ _ => rfl)) pa_nil)) (pa_cons (pv 1) (pa_cons (pv 2) pa_nil)))))))) pss_nil)
    (pss_one (ps_ret pe_non))))))), ?_⟩
  have c0 := kc.cf 0 (by decide)
  walk_at "rd"
  refine w_cae CM (by decide) ?_
  walk_at "rd"
  refine w_ixL hS (at_nat (i := 2) rfl (wAt_at (by omega))) ?_
  walk_at "rd"
  refine ⟨_, _, rfl, hl _ (wAt_mem (by omega)), fun g hg lg => ?_, fun no => ?_⟩
  case refine_2 =>
    refine qe ?_
    unfold leafR
    rw [num_no no]
  have hg := num_yes hg lg
  show gName 1 (V.int g) _ _ _
  walk_at "rd"
  refine w_cae CM (by decide) ?_
  walk_at "rd"
  refine w_ixL hS (at_nat (i := 3) rfl (wAt_at (by omega))) ?_
  walk_at "rd"
  refine ⟨_, _, rfl, hl _ (wAt_mem (by omega)), fun sl hs ls => ?_, fun no => ?_⟩
  case refine_2 =>
    refine qe ?_
    unfold leafR
    rw [hg, num_no no]
  have hs := num_yes hs ls
  show gName 2 (V.int sl) _ _ _
  walk_at "rd"
  have un : leafR ws = if wAt ws 4 = "idle" ∧ ws.length = 6 then some (some ⟨0, wAt ws 5, wAt ws 1, g, sl, 0⟩)
      else if ws.length = 7 ∧ (wAt ws 4 = "steady" ∨ wAt ws 4 = "falls") then
        match numM (wAt ws 5) with
        | none => none
        | some m => some (some ⟨if wAt ws 4 = "steady" then 1 else 2, wAt ws 6, wAt ws 1, g, sl, m⟩)
      else some none := by
    unfold leafR
    rw [hg, hs]
  refine w_cut (fun σ H' => σ = [some (.ref a), some (.int g), some (.int sl)] ∧ H = H' ∧ ¬ (wAt ws 4 = "idle" ∧ ws.length = 6)) ?_ (fun σ H' hm => ?_)
  · walk_at "rd"
    refine w_ixL hS (at_nat (i := 4) rfl (wAt_at (by omega))) ?_
    walk_at "rd"
    by_cases h4 : wAt ws 4 = "idle"
    case neg =>
      rw [decide_eq_false (fun z => h4 (V.str.inj z))]
      walk_at "rd"
      exact ⟨rfl, rfl, fun z => h4 z.1⟩
    rw [decide_eq_true (congrArg V.str h4)]
    walk_at "rd"
    rw [lm]
    by_cases h6 : ws.length = 6
    case neg =>
      rw [decide_eq_false (fun z => h6 (by have := V.int.inj z; omega))]
      walk_at "rd"
      exact ⟨rfl, rfl, fun z => h6 z.2⟩
    rw [decide_eq_true (show V.int (ws.length : Int) = V.int 6 by rw [h6]; rfl)]
    walk_at "rd"
    refine w_mka L0 (by decide) ?_
    walk_at "rd"
    refine w_ixL hS (at_nat (i := 5) rfl (wAt_at (by omega))) ?_
    walk_at "rd"
    refine w_ixL hS (at_nat (i := 1) rfl (wAt_at (by omega))) ?_
    walk_at "rd"
    refine fun x dx hx hdx ne => ⟨x, _, dx, _, _, _, _, rfl, upd_same, c0, rfl, ?_⟩
    refine q (some ⟨0, wAt ws 5, wAt ws 1, g, sl, 0⟩) _ _ (un.trans (if_pos ⟨h4, h6⟩)) (same_mut (same_mut (same_new hdx _) hx) hx) ⟨x, rfl, dx, ?_⟩
    rw [upd_same]
    rfl
  obtain ⟨rfl, rfl, n1⟩ := hm
  refine w_cut (fun σ H' => σ = [some (.ref a), some (.int g), some (.int sl)] ∧ H = H' ∧ ¬ (ws.length = 7 ∧ wAt ws 4 = "steady")) ?_ (fun σ H' hm => ?_)
  · walk_at "rd"
    rw [lm]
    by_cases h7 : ws.length = 7
    case neg =>
      rw [decide_eq_false (fun z => h7 (by have := V.int.inj z; omega))]
      walk_at "rd"
      exact ⟨rfl, rfl, fun z => h7 z.1⟩
    rw [decide_eq_true (show V.int (ws.length : Int) = V.int 7 by rw [h7]; rfl)]
    walk_at "rd"
    refine w_ixL hS (at_nat (i := 4) rfl (wAt_at (by omega))) ?_
    walk_at "rd"
    by_cases h4 : wAt ws 4 = "steady"
    case neg =>
      rw [decide_eq_false (fun z => h4 (V.str.inj z))]
      walk_at "rd"
      exact ⟨rfl, rfl, fun z => h4 z.2⟩
    rw [decide_eq_true (congrArg V.str h4)]
    walk_at "rd"
    refine w_mka L1 (by decide) ?_
    walk_at "rd"
    refine w_ixL hS (at_nat (i := 6) rfl (wAt_at (by omega))) ?_
    walk_at "rd"
    refine w_ixL hS (at_nat (i := 1) rfl (wAt_at (by omega))) ?_
    walk_at "rd"
    refine w_cae CM (by decide) ?_
    walk_at "rd"
    refine w_ixL hS (at_nat (i := 5) rfl (wAt_at (by omega))) ?_
    walk_at "rd"
    refine ⟨_, _, rfl, hl _ (wAt_mem (by omega)), fun m hm lm => ?_, fun no => ?_⟩
    case refine_2 =>
      refine qe ?_
      rw [un, if_neg (fun z => by omega), if_pos ⟨h7, .inl h4⟩, num_no no]
    have hm := num_yes hm lm
    walk_at "rd"
    refine fun x dx hx hdx ne => ⟨x, dx, _, _, _, _, _, rfl, upd_same, rfl, ?_⟩
    refine q (some ⟨1, wAt ws 6, wAt ws 1, g, sl, m⟩) _ _ ?_ (same_mut (same_mut (same_new hdx _) hx) hx) ⟨x, rfl, dx, ?_⟩
    · rw [un, if_neg (fun z => by omega), if_pos ⟨h7, .inl h4⟩, hm, if_pos h4]
    · rw [upd_same]
      rfl
  obtain ⟨rfl, rfl, n2⟩ := hm
  refine w_cut (fun σ H' => σ = [some (.ref a), some (.int g), some (.int sl)] ∧ H = H' ∧ ¬ (ws.length = 7 ∧ wAt ws 4 = "falls")) ?_ (fun σ H' hm => ?_)
  · walk_at "rd"
    rw [lm]
    by_cases h7 : ws.length = 7
    case neg =>
      rw [decide_eq_false (fun z => h7 (by have := V.int.inj z; omega))]
      walk_at "rd"
      exact ⟨rfl, rfl, fun z => h7 z.1⟩
    rw [decide_eq_true (show V.int (ws.length : Int) = V.int 7 by rw [h7]; rfl)]
    walk_at "rd"
    refine w_ixL hS (at_nat (i := 4) rfl (wAt_at (by omega))) ?_
    walk_at "rd"
    by_cases h4 : wAt ws 4 = "falls"
    case neg =>
      rw [decide_eq_false (fun z => h4 (V.str.inj z))]
      walk_at "rd"
      exact ⟨rfl, rfl, fun z => h4 z.2⟩
    rw [decide_eq_true (congrArg V.str h4)]
    walk_at "rd"
    refine w_mka L2 (by decide) ?_
    walk_at "rd"
    refine w_ixL hS (at_nat (i := 6) rfl (wAt_at (by omega))) ?_
    walk_at "rd"
    refine w_ixL hS (at_nat (i := 1) rfl (wAt_at (by omega))) ?_
    walk_at "rd"
    refine w_cae CM (by decide) ?_
    walk_at "rd"
    refine w_ixL hS (at_nat (i := 5) rfl (wAt_at (by omega))) ?_
    walk_at "rd"
    refine ⟨_, _, rfl, hl _ (wAt_mem (by omega)), fun m hm lm => ?_, fun no => ?_⟩
    case refine_2 =>
      refine qe ?_
      rw [un, if_neg (fun z => by omega), if_pos ⟨h7, .inr h4⟩, num_no no]
    have hm := num_yes hm lm
    walk_at "rd"
    refine fun x dx hx hdx ne => ⟨x, dx, _, _, _, _, _, rfl, upd_same, rfl, ?_⟩
    refine q (some ⟨2, wAt ws 6, wAt ws 1, g, sl, m⟩) _ _ ?_ (same_mut (same_mut (same_new hdx _) hx) hx) ⟨x, rfl, dx, ?_⟩
    · rw [un, if_neg (fun z => by omega), if_pos ⟨h7, .inr h4⟩, hm, if_neg (fun z => by rw [z] at h4; exact absurd (congrArg tl h4) (by decide))]
    · rw [upd_same]
      rfl
  obtain ⟨rfl, rfl, n3⟩ := hm
  walk_at "rd"
  refine q none .non _ ?_ (Same.refl _) rfl
  rw [un, if_neg n1, if_neg]
  rintro ⟨h7, h4 | h4⟩
  · exact n2 ⟨h7, h4⟩
  · exact n3 ⟨h7, h4⟩
theorem ok_minder_by {cls : Nat → Addr} {CN f : Addr} {fd : FuncData} (F : Fun K "minder_by" "minder_by" s_minder_by f fd) (T : Bt mg) (kc : KdC K cls) (CM : Cal P w K mg base (CXN P w) "number_in" 1 ["text", "most"] [.int 1000000] (spNum CN))
    (L3 : Mak P w K mg base CX0 "Minder" (cls 3) 2 ["self", "name", "keep", "most", "span"] [] (spMinder K (cls 3))) (L4 : Mak P w K mg base CX0 "AllMinder" (cls 4) 2 ["self", "name", "keep", "most", "span"] [] (spMinder K (cls 4)))
    (L5 : Mak P w K mg base CX0 "RestMinder" (cls 5) 2 ["self", "name", "keep", "most", "span"] [] (spMinder K (cls 5))) : FnOk P w K mg base (CXN P w) 5 f fd ["words"] (spBy K cls CN minderR) := by
  refine okN F sc_minder_by (fun vs H Q E h => ?_) (fun cdv A outer s H vs Q E hr h => ?_)
  · obtain ⟨a, ws, rfl, _⟩ := h
    rfl
  obtain ⟨a, ws, rfl, hS, l6, hl, qe, q⟩ := h
  refine ⟨_, (pss_cons (ps_set (i := 1) sc_minder_by.nd rfl (Or.inl rfl) (pe_cae (P := P) (w := w) (K := K) (mg := mg) (base := base) ⟨rfl, rfl, rfl, rfl, rfl⟩ hr rfl (L2N.takes_of rfl rfl rfl rfl) (pa_cons (pe_ix (kIxL (K := K) rfl) (pv 0) pe_int (fun _ _ => rfl)) pa_nil)))
    (pss_cons (ps_set (i := 2) sc_minder_by.nd rfl (Or.inl rfl) (pe_cae (P := P) (w := w) (K := K) (mg := mg) (base := base) ⟨rfl, rfl, rfl, rfl, rfl⟩ hr rfl (L2N.takes_of rfl rfl rfl rfl) (pa_cons (pe_ix (kIxL (K := K) rfl) (pv 0) pe_int (fun _ _ => rfl)) pa_nil)))
    (pss_cons (ps_if (pt_cmpR op_eq (pv 2) pe_int (nomark _)) (pss_one (ps_ret pe_non)) pss_nil)
    (pss_cons (ps_if (pt_cmpR op_eq (pe_ix (kIxL (K := K) rfl) (pv 0) pe_int (fun _ _ => rfl)) pe_str (nomark _)) (pss_one (ps_ret (pe_mka (P := P) (w := w) (K := K) (mg := mg) (base := base) ⟨rfl, rfl, rfl, rfl, rfl⟩ hr rfl (pa_cons (pe_ix (kIxL (K := K) rfl) (pv 0) pe_int (fun _ _ => rfl)) (pa_cons (pe_ix (kIxL (K := K) rfl) (pv 0) pe_int (fun _ _ => rfl)) (pa_cons (pv 1) (pa_cons (pv 2) pa_nil))))))) pss_nil)
    (pss_cons (ps_if (pt_cmpR op_eq (pe_ix (kIxL (K := K) rfl) (pv 0) pe_int (fun _ _ => rfl)) pe_str (nomark _)) (pss_one (ps_ret (pe_mka (P := P) (w := w) (K := K) (mg := mg) (base := base) ⟨rfl, rfl, rfl, rfl, rfl⟩ hr rfl (pa_cons (pe_ix (kIxL (K := K) rfl) (pv 0) pe_int (fun _ _ => rfl)) (pa_cons (pe_ix (kIxL (K := K) rfl) (pv 0) pe_int (fun _ _ => rfl)) (pa_cons (pv 1) (pa_cons (pv 2) pa_nil))))))) pss_nil)
    (pss_cons (ps_if (pt_cmpR op_eq (pe_ix (kIxL (K := K) rfl) (pv 0) pe_int (fun _ _ => rfl)) pe_str (nomark _)) (pss_one (ps_ret (pe_mka (P := P) (w := w) (K := K) (mg := mg) (base := base) ⟨rfl, rfl, rfl, rfl, rfl⟩ hr rfl (pa_cons (pe_ix (kIxL (K := K) rfl) (pv 0) pe_int (fun _ _ => rfl)) (pa_cons (pe_ix (kIxL (K := K) rfl) (pv 0) pe_int (fun _ _ => rfl)) (pa_cons (pv 1) (pa_cons (pv 2) pa_nil))))))) pss_nil)
    (pss_one (ps_ret pe_non)))))))), ?_⟩
  walk_at "rd"
  refine w_cae CM (by decide) ?_
  walk_at "rd"
  refine w_ixL hS (at_nat (i := 3) rfl (wAt_at (by omega))) ?_
  walk_at "rd"
  refine ⟨_, _, rfl, hl _ (wAt_mem (by omega)), fun m hm lm => ?_, fun no => ?_⟩
  case refine_2 =>
    refine qe ?_
    unfold minderR
    rw [num_no no]
  have hm := num_yes hm lm
  show gName 1 (V.int m) _ _ _
  walk_at "rd"
  refine w_cae CM (by decide) ?_
  walk_at "rd"
  refine w_ixL hS (at_nat (i := 4) rfl (wAt_at (by omega))) ?_
  walk_at "rd"
  refine ⟨_, _, rfl, hl _ (wAt_mem (by omega)), fun sp hs ls => ?_, fun no => ?_⟩
  case refine_2 =>
    refine qe ?_
    unfold minderR
    rw [hm, num_no no]
  have hs := num_yes hs ls
  show gName 2 (V.int sp) _ _ _
  walk_at "rd"
  have un : minderR ws = if sp = 0 then some none
      else if wAt ws 2 = "one" then some (some ⟨3, wAt ws 5, wAt ws 1, m, sp, 0⟩)
      else if wAt ws 2 = "all" then some (some ⟨4, wAt ws 5, wAt ws 1, m, sp, 0⟩)
      else if wAt ws 2 = "rest" then some (some ⟨5, wAt ws 5, wAt ws 1, m, sp, 0⟩)
      else some none := by
    unfold minderR
    rw [hm, hs]
  walk_at "if"
  · rename_i c
    have c := V.int.inj c
    walk_at "rd"
    exact q none .non _ (un.trans (if_pos c)) (Same.refl _) rfl
  rename_i c0
  have c0 : ¬ sp = 0 := fun e => c0 (congrArg V.int e)
  walk_at "rd"
  refine w_ixL hS (at_nat (i := 2) rfl (wAt_at (by omega))) ?_
  walk_at "rd"
  walk_at "if"
  · rename_i c
    have c := V.str.inj c
    walk_at "rd"
    refine w_mka L3 (by decide) ?_
    walk_at "rd"
    refine w_ixL hS (at_nat (i := 5) rfl (wAt_at (by omega))) ?_
    walk_at "rd"
    refine w_ixL hS (at_nat (i := 1) rfl (wAt_at (by omega))) ?_
    walk_at "rd"
    refine fun x dx hx hdx ne => ⟨x, dx, _, _, _, _, rfl, upd_same, rfl, ?_⟩
    refine q (some ⟨3, wAt ws 5, wAt ws 1, m, sp, 0⟩) _ _ ?_ (same_mut (same_mut (same_new hdx _) hx) hx) ⟨x, rfl, dx, ?_⟩
    · rw [un, if_neg c0, if_pos c]
    · rw [upd_same]
      rfl
  rename_i c3
  have c3 : ¬ wAt ws 2 = "one" := fun e => c3 (congrArg V.str e)
  walk_at "rd"
  refine w_ixL hS (at_nat (i := 2) rfl (wAt_at (by omega))) ?_
  walk_at "rd"
  walk_at "if"
  · rename_i c
    have c := V.str.inj c
    walk_at "rd"
    refine w_mka L4 (by decide) ?_
    walk_at "rd"
    refine w_ixL hS (at_nat (i := 5) rfl (wAt_at (by omega))) ?_
    walk_at "rd"
    refine w_ixL hS (at_nat (i := 1) rfl (wAt_at (by omega))) ?_
    walk_at "rd"
    refine fun x dx hx hdx ne => ⟨x, dx, _, _, _, _, rfl, upd_same, rfl, ?_⟩
    refine q (some ⟨4, wAt ws 5, wAt ws 1, m, sp, 0⟩) _ _ ?_ (same_mut (same_mut (same_new hdx _) hx) hx) ⟨x, rfl, dx, ?_⟩
    · rw [un, if_neg c0, if_neg c3, if_pos c]
    · rw [upd_same]
      rfl
  rename_i c4
  have c4 : ¬ wAt ws 2 = "all" := fun e => c4 (congrArg V.str e)
  walk_at "rd"
  refine w_ixL hS (at_nat (i := 2) rfl (wAt_at (by omega))) ?_
  walk_at "rd"
  walk_at "if"
  · rename_i c
    have c := V.str.inj c
    walk_at "rd"
    refine w_mka L5 (by decide) ?_
    walk_at "rd"
    refine w_ixL hS (at_nat (i := 5) rfl (wAt_at (by omega))) ?_
    walk_at "rd"
    refine w_ixL hS (at_nat (i := 1) rfl (wAt_at (by omega))) ?_
    walk_at "rd"
    refine fun x dx hx hdx ne => ⟨x, dx, _, _, _, _, rfl, upd_same, rfl, ?_⟩
    refine q (some ⟨5, wAt ws 5, wAt ws 1, m, sp, 0⟩) _ _ ?_ (same_mut (same_mut (same_new hdx _) hx) hx) ⟨x, rfl, dx, ?_⟩
    · rw [un, if_neg c0, if_neg c3, if_neg c4, if_pos c]
    · rw [upd_same]
      rfl
  rename_i c5
  have c5 : ¬ wAt ws 2 = "rest" := fun e => c5 (congrArg V.str e)
  walk_at "rd"
  refine q none .non _ ?_ (Same.refl _) rfl
  rw [un, if_neg c0, if_neg c3, if_neg c4, if_neg c5]
def spShapeBy (K : PySem.W.Frag) (cls : Nat → Addr) : Sp := fun vs H Q _ => ∃ (a : Addr) (ws : List Str), vs = [.ref a] ∧ SqL K H a (ws.map V.str) ∧ (∀ x ∈ ws, x.length ≤ 640) ∧ ∀ v H', Same H H' → ShV cls (shapeM ws) v H' → Q v H'
theorem in_keeps {wd : Str} : inV (.str wd) (keeps3.map V.str) = decide (wd ∈ keeps3) := by
  rw [Bool.eq_iff_iff, decide_eq_true_eq]
  unfold inV
  rw [List.any_map, List.any_eq_true]
  constructor
  · rintro ⟨y, hy, e⟩
    have e : decide (y = wd) = true := e
    rw [← of_decide_eq_true e]
    exact hy
  · exact fun h => ⟨wd, h, decide_eq_true rfl⟩
theorem ok_shape_by {cls : Nat → Addr} {CN CM f t : Addr} {fd : FuncData} (F : Fun K "shape_by" "shape_by" s_shape_by f fd) (T : Bt mg) (e_MinderError : NamK K mg "MinderError" CM) (eM : PySem.W.exmOne K (.ref CN) (.ref CM) = some true) (hg : mg "KEEPS" = some (.ref t)) (sK : ∀ H : Hp, SqT K H t (keeps3.map V.str))
    (CF : Cal P w K mg base CX0 "fit_name" 1 ["text"] [] spFit) (CL : Cal P w K mg base (CXN P w) "leaf_by" 5 ["words"] [] (spBy K cls CN leafR)) (CD : Cal P w K mg base (CXN P w) "minder_by" 5 ["words"] [] (spBy K cls CN minderR)) :
    FnOk P w K mg base CX0 6 f fd ["words"] (spShapeBy K cls) := by
  refine F.ok sc_shape_by (fun vs H Q E h => ?_) (fun cdv A outer s H vs Q E hr h => ?_)
  · obtain ⟨a, ws, rfl, _⟩ := h
    rfl
  obtain ⟨a, ws, rfl, hS, hl, q⟩ := h
  have lm := List.length_map (as := ws) V.str
  refine ⟨_, (C8.pss_cut (ps_if (PW.pt (pw_or (pt_cmpR op_lt (pe_callB (kLenL (K := K) rfl) (by rfl) T.len (by decide +kernel) (pa_cons (pv 0) pa_nil)) pe_int (nomark _)) (pw_or (pt_cmpR (kNotIn (K := K) rfl) (pe_ix (kIxL (K := K) rfl) (pv 0) pe_int (fun _ _ => rfl)) (pe_gv (mg := mg) rfl rfl) rfl) (pw_or1 (pt_not (pt_val (pe_ca (P := P) (w := w) (K := K) (mg := mg) (base := base) ⟨rfl, rfl, rfl, rfl, rfl⟩ hr rfl (pa_cons (pe_ix (kIxL (K := K) rfl) (pv 0) (pe_un un_neg pe_int) (fun _ _ => rfl)) pa_nil)))))))) (pss_one (ps_ret pe_non)) pss_nil)
    (pss_cons (ps_try_only (Wout := fun _ _ _ _ => False) rfl rfl ⟨rfl, by decide, Or.inl e_MinderError.g⟩ takes0 (fun W pn xe tk _ => by exact (pss_one (ps_if (pt_cmpR op_eq (pe_ix (kIxL (K := K) rfl) (pv 0) pe_int (fun _ _ => rfl)) pe_str (nomark _)) (pss_one (ps_set (i := 1) sc_shape_by.nd rfl (Or.inl rfl) (pe_cae (P := P) (w := w) (K := K) (mg := mg) (base := base) ⟨rfl, rfl, rfl, rfl, rfl⟩ hr rfl (tk_weak tk) (pa_cons (pv 0) pa_nil)))) (pss_one (ps_if (PW.pt (pw_and (pt_cmpR op_eq (pe_ix (kIxL (K := K) rfl) (pv 0) pe_int (fun _ _ => rfl)) pe_str (nomark _)) (pw_and1 (pt_cmpR op_eq (pe_callB (kLenL (K := K) rfl) (by rfl) T.len (by decide +kernel) (pa_cons (pv 0) pa_nil)) pe_int (nomark _))))) (pss_one (ps_set (i := 1) sc_shape_by.nd rfl (Or.inl rfl) (pe_cae (P := P) (w := w) (K := K) (mg := mg) (base := base) ⟨rfl, rfl, rfl, rfl, rfl⟩ hr rfl (tk_weak tk) (pa_cons (pv 0) pa_nil)))) (pss_one (ps_set (i := 1) sc_shape_by.nd rfl (Or.inl rfl) pe_non))))))) (fun a oe cls d pn hz hv => by exact (pss_one (ps_ret pe_non))))
    (pss_one (ps_ret (pv 1))))), ?_⟩
  have none_ : shapeM ws = none → Q .non H := fun e => q _ _ (Same.refl _) (by rw [e]; rfl)
  walk_at "rd"
  refine w_cut (fun σ H' => σ = [some (.ref a), none] ∧ H = H' ∧ 6 ≤ ws.length ∧ wAt ws 1 ∈ keeps3 ∧ fitL (tl (wAt ws (ws.length - 1))) = true) ?_ (fun σ H' hm => ?_)
  · walk_at "rd"
    rw [lm]
    by_cases c6 : ws.length < 6
    · rw [decide_eq_true (show (ws.length : Int) < 6 by omega)]
      walk_at "rd"
      exact none_ (if_pos (.inl c6))
    rw [decide_eq_false (show ¬ (ws.length : Int) < 6 by omega)]
    walk_at "rd"
    refine w_ixL hS (at_nat (i := 1) rfl (wAt_at (by omega))) ?_
    walk_at "rd"
    refine w_gv (v := .ref t) hg rfl ?_
    walk_at "rd"
    refine w_ninT (sK _) rfl rfl ?_
    rw [in_keeps]
    walk_at "rd"
    by_cases ck : wAt ws 1 ∈ keeps3
    case neg =>
      rw [decide_eq_false ck, Bool.not_false]
      walk_at "rd"
      exact none_ (if_pos (.inr (.inl ck)))
    rw [decide_eq_true ck, Bool.not_true]
    walk_at "rd"
    refine w_ca CF (by decide) ?_
    walk_at "rd"
    have hlast : atI (ws.map V.str) (-1) = some (.str (wAt ws (ws.length - 1))) := by
      have hne : ws ≠ [] := fun e => by rw [e] at c6; exact c6 (by decide)
      have e1 : wAt ws (ws.length - 1) = ws.getLast hne := by
        unfold wAt
        rw [List.getD_eq_getElem?_getD, List.getLast_eq_getElem, List.getElem?_eq_getElem (by omega)]
        rfl
      rw [e1]
      have e2 := congrArg (List.map V.str) (List.dropLast_concat_getLast hne).symm
      rw [e2, List.map_append]
      exact atI_last _ _
    refine w_ixL hS hlast ?_
    walk_at "rd"
    refine ⟨_, rfl, by have := hl _ (wAt_mem (ws := ws) (i := ws.length - 1) (by omega)); omega, ?_⟩
    walk_at "rd"
    by_cases cf : fitL (tl (wAt ws (ws.length - 1))) = true
    case neg =>
      rw [Bool.eq_false_iff.mpr cf, Bool.not_false]
      walk_at "rd"
      exact none_ (if_pos (.inr (.inr (Bool.eq_false_iff.mpr cf))))
    rw [cf, Bool.not_true]
    walk_at "rd"
    exact ⟨rfl, rfl, by omega, ck, rfl⟩
  obtain ⟨rfl, rfl, h6, hk, hf⟩ := hm
  have un : shapeM ws = if wAt ws 0 = "leaf" then (leafR ws).join else if wAt ws 0 = "minder" ∧ ws.length = 6 then (minderR ws).join else none := by
    unfold shapeM
    rw [if_neg]
    rintro (z | z | z)
    · omega
    · exact z hk
    · rw [hf] at z
      cases z
  walk_at "rd"
  refine w_ixL hS (at_nat (i := 0) rfl (wAt_at (by omega))) ?_
  walk_at "rd"
  walk_at "if"
  · rename_i c
    have c := V.str.inj c
    rw [if_pos c] at un
    walk_at "rd"
    refine w_cae CL (by decide) ?_
    walk_at "rd"
    refine ⟨a, ws, rfl, hS, h6, hl, fun no => ?_, fun r v H' hr' s1 hv => ?_⟩
    · refine ⟨true, eM, fun _ a0 ha => ?_, fun z => nomatch z⟩
      walk_at "rd"
      exact none_ (by rw [un, no]; rfl)
    · walk_at "rd"
      exact q v _ s1 (by rw [un, hr']; exact hv)
  rename_i c
  have c : ¬ wAt ws 0 = "leaf" := fun e => c (congrArg V.str e)
  rw [if_neg c] at un
  walk_at "rd"
  refine w_ixL hS (at_nat (i := 0) rfl (wAt_at (by omega))) ?_
  walk_at "rd"
  have other : ¬ (wAt ws 0 = "minder" ∧ ws.length = 6) → Q .non H := fun h => none_ (by rw [un, if_neg h])
  by_cases cm : wAt ws 0 = "minder"
  case neg =>
    rw [decide_eq_false (fun z => cm (V.str.inj z))]
    walk_at "rd"
    exact other fun z => cm z.1
  rw [decide_eq_true (congrArg V.str cm)]
  walk_at "rd"
  rw [lm]
  by_cases c6 : ws.length = 6
  case neg =>
    rw [decide_eq_false (fun z => c6 (by have := V.int.inj z; omega))]
    walk_at "rd"
    exact other fun z => c6 z.2
  rw [decide_eq_true (show V.int (ws.length : Int) = V.int 6 by rw [c6]; rfl)]
  rw [if_pos ⟨cm, c6⟩] at un
  walk_at "rd"
  refine w_cae CD (by decide) ?_
  walk_at "rd"
  refine ⟨a, ws, rfl, hS, h6, hl, fun no => ?_, fun r v H' hr' s1 hv => ?_⟩
  · refine ⟨true, eM, fun _ a0 ha => ?_, fun z => nomatch z⟩
    walk_at "rd"
    exact none_ (by rw [un, no]; rfl)
  · walk_at "rd"
    exact q v _ s1 (by rw [un, hr']; exact hv)
end
end Mn

namespace Mn
open PySem PySem.Spec PyProof.Rows L2 TL
/-! ### a text split at one sign -/
def splitL (s : Nat) : List Nat → List (List Nat)
  | [] => [[]]
  | c :: r => if c = s then [] :: splitL s r else match splitL s r with
    | [] => [[c]]
    | p :: ps => (c :: p) :: ps
theorem splitL_ne (s : Nat) : ∀ l, splitL s l ≠ []
  | [] => by simp [splitL]
  | c :: r => by
    unfold splitL
    split
    · simp
    · split <;> simp
theorem splitL_hit (s : Nat) (r : List Nat) : splitL s (s :: r) = [] :: splitL s r := by
  rw [splitL, if_pos rfl]
theorem splitL_miss {s c : Nat} (h : c ≠ s) (r : List Nat) : ∃ p ps, splitL s r = p :: ps ∧ splitL s (c :: r) = (c :: p) :: ps := by
  cases e : splitL s r with
  | nil => exact absurd e (splitL_ne s r)
  | cons p ps => exact ⟨p, ps, rfl, by rw [splitL, if_neg h, e]⟩
theorem splitL_free {s : Nat} : ∀ {l : List Nat}, s ∉ l → splitL s l = [l]
  | [], _ => rfl
  | c :: r, h => by
    obtain ⟨p, ps, e1, e2⟩ := splitL_miss (s := s) (c := c) (fun e => h (e ▸ List.mem_cons_self)) r
    rw [splitL_free (fun m => h (List.mem_cons_of_mem _ m))] at e1
    injection e1 with a b
    rw [e2, ← a, ← b]
theorem splitL_app (s : Nat) : ∀ (a b : List Nat), splitL s (a ++ s :: b) = splitL s a ++ splitL s b
  | [], b => splitL_hit s b
  | c :: r, b => by
    by_cases h : c = s
    · subst h
      rw [List.cons_append, splitL_hit, splitL_hit, splitL_app c r b]
      rfl
    · obtain ⟨p, ps, e1, e2⟩ := splitL_miss h r
      obtain ⟨q, qs, e3, e4⟩ := splitL_miss h (r ++ s :: b)
      rw [splitL_app s r b, e1] at e3
      injection e3 with a1 a2
      rw [List.cons_append, e4, e2, ← a1, ← a2]
      rfl
theorem splitL_len (s : Nat) : ∀ (l p : List Nat), p ∈ splitL s l → p.length ≤ l.length
  | [], p, h => by
    rw [splitL, List.mem_singleton] at h
    rw [h]
    exact Nat.le_refl _
  | c :: r, p, h => by
    by_cases e : c = s
    · subst e
      rw [splitL_hit] at h
      rcases List.mem_cons.mp h with h | h
      · rw [h]; exact Nat.zero_le _
      · exact Nat.le_succ_of_le (splitL_len c r p h)
    · obtain ⟨q, qs, e1, e2⟩ := splitL_miss e r
      rw [e2] at h
      rcases List.mem_cons.mp h with h | h
      · rw [h]
        exact Nat.succ_le_succ (splitL_len s r q (by rw [e1]; exact List.mem_cons_self))
      · exact Nat.le_succ_of_le (splitL_len s r p (by rw [e1]; exact List.mem_cons_of_mem _ h))
theorem splitL_free_of (s : Nat) : ∀ (l p : List Nat), p ∈ splitL s l → s ∉ p
  | [], p, h => by
    rw [splitL, List.mem_singleton] at h
    rw [h]
    exact List.not_mem_nil
  | c :: r, p, h => by
    by_cases e : c = s
    · subst e
      rw [splitL_hit] at h
      rcases List.mem_cons.mp h with h | h
      · rw [h]; exact List.not_mem_nil
      · exact splitL_free_of c r p h
    · obtain ⟨q, qs, e1, e2⟩ := splitL_miss e r
      rw [e2] at h
      rcases List.mem_cons.mp h with h | h
      · rw [h]
        intro m
        rcases List.mem_cons.mp m with m | m
        · exact e m.symm
        · exact splitL_free_of s r q (by rw [e1]; exact List.mem_cons_self) m
      · exact splitL_free_of s r p (by rw [e1]; exact List.mem_cons_of_mem _ h)
theorem spl_is (s : Nat) : ∀ (l acc p : List Nat) (ps : List (List Nat)), splitL s l = p :: ps → spl [s] 0 acc l = (acc ++ p) :: ps
  | [], acc, p, ps, h => by
    rw [splitL] at h
    injection h with a b
    rw [spl_nil, ← a, ← b, List.append_nil]
  | c :: r, acc, p, ps, h => by
    by_cases e : c = s
    · subst e
      rw [splitL_hit] at h
      injection h with a b
      rw [spl_hit (by simp [pre])]
      cases e2 : splitL c r with
      | nil => exact absurd e2 (splitL_ne c r)
      | cons q qs =>
        have := spl_is c r [] q qs e2
        rw [List.nil_append] at this
        rw [show ([c] : List Nat).length - 1 = 0 from rfl, this, ← a, ← b, e2, List.append_nil]
    · obtain ⟨q, qs, e1, e2⟩ := splitL_miss e r
      rw [e2] at h
      injection h with a b
      rw [spl_miss (pre_of_head [] r e), spl_is s r (acc ++ [c]) q qs e1, ← a, ← b]
      simp
theorem split_is {x y : Str} {s : Nat} (ey : tl y = [s]) (hs : s < 256) : (Txt.split x y).map tl = splitL s (tl x) := by
  rw [split_spl x y (by rw [ey]; simp) (kind_ok (by
    have : y = ⟨#[s]⟩ := ext_tl ey
    rw [this]
    simpa using hs)), ey]
  cases e : splitL s (tl x) with
  | nil => exact absurd e (splitL_ne s _)
  | cons p ps =>
    rw [spl_is s (tl x) [] p ps e, List.nil_append]
/-- the words between blanks -/
def wordsL (l : List Nat) : List (List Nat) := (splitL 32 l).filter fun p => decide (p ≠ [])
theorem wordsL_app (a b : List Nat) : wordsL (a ++ 32 :: b) = wordsL a ++ wordsL b := by
  unfold wordsL
  rw [splitL_app, List.filter_append]
theorem wordsL_nil : wordsL [] = [] := rfl
theorem wordsL_word {a : List Nat} (h : 32 ∉ a) (h0 : a ≠ []) : wordsL a = [a] := by
  unfold wordsL
  rw [splitL_free h, List.filter_cons_of_pos (by simpa using h0)]
  rfl
theorem wordsL_blanks : ∀ (n : Nat) (l : List Nat), wordsL (List.replicate n 32 ++ l) = wordsL l
  | 0, l => rfl
  | n + 1, l => by
    rw [List.replicate_succ, List.cons_append]
    have := wordsL_app [] (List.replicate n 32 ++ l)
    rw [List.nil_append, wordsL_nil, List.nil_append] at this
    rw [this, wordsL_blanks n l]
theorem wordsL_only (n : Nat) : wordsL (List.replicate n 32) = [] := by
  have := wordsL_blanks n []
  rw [List.append_nil] at this
  exact this
theorem wordsL_tail (l : List Nat) : ∀ n : Nat, wordsL (l ++ List.replicate n 32) = wordsL l
  | 0 => by rw [List.replicate_zero, List.append_nil]
  | n + 1 => by rw [List.replicate_succ, wordsL_app, wordsL_only, List.append_nil]
/-- words with so many blanks between -/
theorem wordsL_join (g : Nat) : ∀ ws : List (List Nat), (∀ p ∈ ws, 32 ∉ p ∧ p ≠ []) → wordsL (joinL (List.replicate (g + 1) 32) ws) = ws
  | [], _ => rfl
  | [p], h => wordsL_word (h p List.mem_cons_self).1 (h p List.mem_cons_self).2
  | p :: q :: r, h => by
    have ih := wordsL_join g (q :: r) fun z hz => h z (List.mem_cons_of_mem _ hz)
    show wordsL (p ++ (List.replicate (g + 1) 32 ++ joinL (List.replicate (g + 1) 32) (q :: r))) = _
    rw [List.replicate_succ, List.cons_append, wordsL_app, wordsL_blanks, wordsL_word (h p List.mem_cons_self).1 (h p List.mem_cons_self).2]
    rw [← List.replicate_succ, ih]
    rfl
end Mn

namespace Mn
open PySem PySem.Spec PyProof.Rows L2 TL
/-! ### a tree's text, row by row -/
def wordsM (row : Str) : List Str := (Txt.split row " ").filter fun x => decide (x ≠ "")
def blanksM (row : Str) : Nat := row.length - (Txt.lstripChars row " ").length
inductive RS where
  | skip
  | bad
  | many
  | add (s : Shp) (e : Int)
def rowM (D : TreeD) (row : Str) : RS :=
  if wordsM row = [] ∨ Txt.startswith (wAt (wordsM row) 0) "#" = true then .skip else
  match shapeM (wordsM row) with
  | none => .bad
  | some s =>
    if 0 < blanksM row % 2 ∨ 8 < blanksM row / 2 ∨ elderM D ((blanksM row / 2 : Nat) : Int) = -2 ∨ s.name ∈ D.shs.map Shp.name then .bad
    else if elderM D ((blanksM row / 2 : Nat) : Int) = -1 ∧ s.kind < 3 then .bad
    else if D.n = 64 then .many
    else .add s (elderM D ((blanksM row / 2 : Nat) : Int))
inductive RR where
  | ok (D : TreeD)
  | bad (k : Nat)
  | many
  | top
def readGo : List Str → TreeD → Nat → RR
  | [], D, _ => if D.n = 0 then .top else .ok D
  | r :: rs, D, k => match rowM D r with
    | .skip => readGo rs D (k + 1)
    | .bad => .bad (k + 1)
    | .many => .many
    | .add s e => readGo rs (D.add s e) (k + 1)
def rowsM (x : Str) : List Str := Txt.split x "\n"
def readM (x : Str) : RR := readGo (rowsM x) .nil 0
/-! what is read is well formed -/
theorem numOf_nn {x : Str} {v : Int} (h : numOf x = some v) : 0 ≤ v := by
  unfold numOf at h
  split at h
  · rw [← Option.some.inj h]
    omega
  · cases h
theorem numM_ok {x : Str} {v : Int} (h : numM x = some v) : 0 ≤ v ∧ v ≤ 1000000 := by
  unfold numM at h
  cases e : numOf x with
  | none => rw [e] at h; cases h
  | some u =>
    rw [e] at h
    dsimp only at h
    split at h
    · obtain rfl := Option.some.inj h
      exact ⟨numOf_nn e, by assumption⟩
    · cases h
theorem okS_mk {k : Nat} {nm kp : Str} {a b m : Int} (h1 : k < 6) (h2 : kp ∈ keeps3) (h3 : fitL (tl nm) = true) (h4 : 0 ≤ a ∧ a ≤ 1000000) (h5 : 0 ≤ b ∧ b ≤ 1000000) (h6 : 0 ≤ m ∧ m ≤ 1000000) (h7 : k ≠ 1 → k ≠ 2 → m = 0) (h8 : 3 ≤ k → 1 ≤ b) : OkS ⟨k, nm, kp, a, b, m⟩ := ⟨h1, h2, h3, h4, h5, h6, h7, h8⟩
theorem shape_ok {ws : List Str} {s : Shp} (h : shapeM ws = some s) : OkS s := by
  unfold shapeM at h
  split at h
  · cases h
  rename_i c
  simp only [not_or, Bool.not_eq_false, Decidable.not_not] at c
  obtain ⟨c1, c2, c3⟩ := c
  split at h
  · unfold leafR at h
    cases e1 : numM (wAt ws 2) with
    | none => rw [e1] at h; cases h
    | some g =>
      cases e2 : numM (wAt ws 3) with
      | none => rw [e1, e2] at h; cases h
      | some sl =>
        rw [e1, e2] at h
        dsimp only at h
        split at h
        · rename_i d
          obtain rfl := Option.some.inj h
          rw [d.2] at c3
          exact okS_mk (by decide) c2 c3 (numM_ok e1) (numM_ok e2) ⟨by decide, by decide⟩ (fun _ _ => rfl) (fun z => absurd z (by decide))
        · split at h
          · rename_i d
            cases e3 : numM (wAt ws 5) with
            | none => rw [e3] at h; cases h
            | some m =>
              rw [e3] at h
              obtain rfl := Option.some.inj h
              rw [d.1] at c3
              refine ⟨?_, c2, c3, numM_ok e1, numM_ok e2, numM_ok e3, fun z1 z2 => ?_, fun z => ?_⟩
              · dsimp only; split <;> decide
              · dsimp only at z1 z2; split at z1 <;> simp_all
              · dsimp only at z; split at z <;> exact absurd z (by decide)
          · cases h
  · split at h
    · rename_i d
      rw [d.2] at c3
      unfold minderR at h
      cases e1 : numM (wAt ws 3) with
      | none => rw [e1] at h; cases h
      | some m =>
        cases e2 : numM (wAt ws 4) with
        | none => rw [e1, e2] at h; cases h
        | some sp =>
          rw [e1, e2] at h
          dsimp only at h
          have b := numM_ok e2
          split at h
          · cases h
          · rename_i d0
            have b1 : 1 ≤ sp := by omega
            split at h
            · obtain rfl := Option.some.inj h
              exact okS_mk (by decide) c2 c3 (numM_ok e1) b ⟨by decide, by decide⟩ (fun _ _ => rfl) (fun _ => b1)
            · split at h
              · obtain rfl := Option.some.inj h
                exact okS_mk (by decide) c2 c3 (numM_ok e1) b ⟨by decide, by decide⟩ (fun _ _ => rfl) (fun _ => b1)
              · split at h
                · obtain rfl := Option.some.inj h
                  exact okS_mk (by decide) c2 c3 (numM_ok e1) b ⟨by decide, by decide⟩ (fun _ _ => rfl) (fun _ => b1)
                · cases h
    · cases h
theorem elder_cases (D : TreeD) (d : Nat) (W : D.WF) : (elderM D (d : Int) = -1 ∧ D.n = 0 ∧ d = 0) ∨ elderM D (d : Int) = -2 ∨ ∃ j : Nat, elderM D (d : Int) = (j : Int) ∧ j < D.n ∧ D.dp j + 1 = d ∧ 3 ≤ (D.sh j).kind := by
  unfold elderM
  by_cases h0 : (d : Int) = 0
  · rw [if_pos h0]
    by_cases hn : D.n = 0
    · rw [if_pos hn]
      exact .inl ⟨rfl, hn, by omega⟩
    · rw [if_neg hn]
      exact .inr (.inl rfl)
  · rw [if_neg h0]
    by_cases hn : D.n = 0
    · rw [if_pos hn]
      exact .inr (.inl rfl)
    rw [if_neg hn]
    have key : ∀ (f : Nat) (j : Int), -1 ≤ j → j < D.n → -1 ≤ climb D (d : Int) f j ∧ climb D (d : Int) f j < D.n := fun f => by
      induction f with
      | zero => exact fun j h1 h2 => ⟨h1, h2⟩
      | succ f ih =>
        intro j h1 h2
        unfold climb
        split
        · rename_i c
          have := W.e_lt (i := j.toNat) (by omega)
          exact ih _ (by omega) (by omega)
        · exact ⟨h1, h2⟩
    have k2 := key (D.n + 1) ((D.n : Int) - 1) (by omega) (by omega)
    generalize climb D (d : Int) (D.n + 1) ((D.n : Int) - 1) = j at k2
    by_cases hj : j < 0
    · rw [if_pos hj]
      exact .inr (.inl rfl)
    rw [if_neg hj]
    by_cases c : (D.dp j.toNat : Int) ≠ d - 1 ∨ (D.sh j.toNat).kind < 3
    · rw [if_pos c]
      exact .inr (.inl rfl)
    · rw [if_neg c]
      rw [not_or, Decidable.not_not] at c
      exact .inr (.inr ⟨j.toNat, by omega, by omega, by omega, by omega⟩)
theorem getD_snoc_lt {α : Type} (l : List α) (a d : α) {i : Nat} (h : i < l.length) : (l ++ [a]).getD i d = l.getD i d := by
  rw [List.getD_eq_getElem?_getD, List.getD_eq_getElem?_getD, List.getElem?_append_left h]
theorem getD_snoc_eq {α : Type} (l : List α) (a d : α) : (l ++ [a]).getD l.length d = a := by
  rw [List.getD_eq_getElem?_getD, List.getElem?_append_right (Nat.le_refl _), Nat.sub_self]
  rfl
theorem WF_nil : TreeD.nil.WF := by
  refine ⟨rfl, rfl, fun i h => absurd h (Nat.not_lt_zero i), fun i h => absurd h (Nat.not_lt_zero i), List.nodup_nil, Nat.zero_le _, fun s h => absurd h List.not_mem_nil, fun i h => absurd h (Nat.not_lt_zero i), fun i h => absurd h (Nat.not_lt_zero i), fun h => absurd h (Nat.lt_irrefl 0)⟩
theorem WF_add {D : TreeD} (W : D.WF) {s : Shp} {d : Nat} (ok : OkS s) (hn : s.name ∉ D.shs.map Shp.name) (h64 : D.n ≠ 64) (h8 : d ≤ 8) {e : Int} (he : (e = -1 ∧ D.n = 0 ∧ d = 0 ∧ 3 ≤ s.kind) ∨ ∃ j : Nat, e = (j : Int) ∧ j < D.n ∧ D.dp j + 1 = d ∧ 3 ≤ (D.sh j).kind) : (D.add s e).WF := by
  have le := W.le
  have ld := W.ld
  have sz := W.sz
  have n' : (D.add s e).n = D.n + 1 := by show (D.shs ++ [s]).length = _; rw [List.length_append]; rfl
  have e_lt : ∀ i, i < D.n → (D.add s e).e i = D.e i := fun i h => getD_snoc_lt _ _ _ (by rw [le]; exact h)
  have e_eq : (D.add s e).e D.n = e := by have := getD_snoc_eq D.eld e (-1); rw [le] at this; exact this
  have d_lt : ∀ i, i < D.n → (D.add s e).dp i = D.dp i := fun i h => getD_snoc_lt _ _ _ (by rw [ld]; exact h)
  have d_eq : (D.add s e).dp D.n = d := by
    have h1 := getD_snoc_eq D.dps (if e < 0 then 0 else D.dp e.toNat + 1) 0
    rw [ld] at h1
    refine h1.trans ?_
    rcases he with ⟨rfl, _, rfl, _⟩ | ⟨j, rfl, _, hd, _⟩
    · rfl
    · rw [if_neg (by omega), Int.toNat_natCast, hd]
  have s_lt : ∀ i, i < D.n → (D.add s e).sh i = D.sh i := fun i h => getD_snoc_lt _ _ _ h
  have s_eq : (D.add s e).sh D.n = s := getD_snoc_eq D.shs s default
  refine ⟨?_, ?_, fun i h => ?_, fun i h => ?_, ?_, ?_, fun t ht => ?_, fun i h h0 => ?_, fun i h => ?_, fun h => ?_⟩
  · rw [n']; show (D.eld ++ [e]).length = _; rw [List.length_append, le]; rfl
  · rw [n']; show (D.dps ++ [_]).length = _; rw [List.length_append, ld]; rfl
  · by_cases hi : i < D.n
    · rw [e_lt i hi]; exact W.el i hi
    · have : i = D.n := by omega
      subst this
      rw [e_eq]
      rcases he with ⟨rfl, h1, _⟩ | ⟨j, rfl, h1, _⟩
      · exact .inl ⟨rfl, h1⟩
      · exact .inr ⟨by omega, by omega⟩
  · by_cases hi : i < D.n
    · have := W.el i hi
      rw [e_lt i hi, d_lt i hi, W.dp i hi]
      split
      · rfl
      · rw [d_lt _ (by omega)]
    · have : i = D.n := by omega
      subst this
      rw [e_eq, d_eq]
      rcases he with ⟨rfl, _, rfl, _⟩ | ⟨j, rfl, h1, hd, _⟩
      · rfl
      · rw [if_neg (by omega), Int.toNat_natCast, d_lt j h1, hd]
  · show ((D.shs ++ [s]).map Shp.name).Nodup
    rw [List.map_append, List.nodup_append]
    refine ⟨W.nm, by simp, fun a ha b hb => ?_⟩
    simp only [List.map_cons, List.map_nil, List.mem_cons, List.not_mem_nil, or_false] at hb
    subst hb
    exact fun e => hn (e ▸ ha)
  · omega
  · have ht : t ∈ D.shs ++ [s] := ht
    rcases List.mem_append.mp ht with ht | ht
    · exact W.ok t ht
    · rw [List.mem_singleton] at ht
      exact ht ▸ ok
  · by_cases hi : i < D.n
    · have := W.el i hi
      rw [e_lt i hi] at h0 ⊢
      rw [s_lt _ (by omega)]
      exact W.mi i hi h0
    · have : i = D.n := by omega
      subst this
      rw [e_eq] at h0 ⊢
      rcases he with ⟨rfl, _⟩ | ⟨j, rfl, h1, _, hk⟩
      · exact absurd h0 (by decide)
      · rw [Int.toNat_natCast, s_lt j h1]
        exact hk
  · by_cases hi : i < D.n
    · rw [d_lt i hi]; exact W.d8 i hi
    · have : i = D.n := by omega
      subst this
      rw [d_eq]
      exact h8
  · by_cases hi : 0 < D.n
    · rw [s_lt 0 hi]; exact W.top hi
    · have : D.n = 0 := by omega
      rw [show (D.add s e).sh 0 = s by rw [← this]; exact s_eq]
      rcases he with ⟨_, _, _, hk⟩ | ⟨j, _, h1, _⟩
      · exact hk
      · omega
theorem row_add {D : TreeD} (W : D.WF) {row : Str} {s : Shp} {e : Int} (h : rowM D row = .add s e) : (D.add s e).WF ∧ shapeM (wordsM row) = some s ∧ e = elderM D ((blanksM row / 2 : Nat) : Int) ∧ s.name ∉ D.shs.map Shp.name ∧ (e = -1 ∨ (0 ≤ e ∧ e < D.n)) ∧ D.n ≠ 64 := by
  unfold rowM at h
  split at h
  · cases h
  cases hs : shapeM (wordsM row) with
  | none => rw [hs] at h; cases h
  | some s' =>
    rw [hs] at h
    dsimp only at h
    split at h
    · cases h
    rename_i c1
    split at h
    · cases h
    rename_i c2
    split at h
    · cases h
    rename_i c3
    injection h with h1 h2
    subst h1 h2
    simp only [not_or] at c1
    obtain ⟨d1, d2, d3, d4⟩ := c1
    have hc := elder_cases D (blanksM row / 2) W
    refine ⟨WF_add W (shape_ok hs) d4 c3 (d := blanksM row / 2) (by omega) ?_, rfl, rfl, d4, ?_, c3⟩
    · rcases hc with ⟨h1, h2, h3⟩ | h1 | h1
      · exact .inl ⟨h1, h2, h3, by omega⟩
      · exact absurd h1 d3
      · exact .inr h1
    · rcases hc with ⟨h1, h2, h3⟩ | h1 | ⟨j, h1, h2, _⟩
      · exact .inl h1
      · exact absurd h1 d3
      · exact .inr ⟨by omega, by omega⟩
section
variable {P : Program} {w : World} {K : PySem.W.Frag} {mg : Str → Option Value} {base : Heap}
theorem readGo_step {rows : List Str} {D : TreeD} {k : Nat} {row : Str} (h : rows[k]? = some row) : readGo (rows.drop k) D k = match rowM D row with
    | .skip => readGo (rows.drop (k + 1)) D (k + 1)
    | .bad => .bad (k + 1)
    | .many => .many
    | .add s e => readGo (rows.drop (k + 1)) (D.add s e) (k + 1) := by
  have hk := (List.getElem?_eq_some_iff.mp h).choose
  rw [List.drop_eq_getElem_cons hk, (List.getElem?_eq_some_iff.mp h).choose_spec]
  rfl
theorem TR.some_ {CT : Addr} {cls : Nat → Addr} {A : TA} {D : TreeD} {H : Hp} (R : TR CT cls A D H) : ∀ b ∈ A.foot, ∃ o, H b = some o := fun b hb => by
  simp only [TA.foot, List.mem_cons] at hb
  rcases hb with rfl | rfl | rfl | rfl | rfl | h
  · exact ⟨_, R.ht⟩
  · exact ⟨_, R.hsh⟩
  · exact ⟨_, R.hel⟩
  · exact ⟨_, R.hyg⟩
  · exact ⟨_, R.hkn⟩
  · obtain ⟨i, hi, e⟩ := List.getElem_of_mem h
    exact ⟨_, R.hys i b (by rw [List.getElem?_eq_getElem hi, e])⟩
def spRead (CT : Addr) (cls : Nat → Addr) : Sp := fun vs H Q _ => ∃ (x : Str) (Df : TreeD), vs = [.str x] ∧ x.length ≤ 100000 ∧ (∀ r ∈ rowsM x, r.length ≤ 640) ∧ readM x = .ok Df ∧ ∀ A H', Same H H' → TRm CT cls A Df H' → Df.WF → Df.n ≠ 0 → (∀ b ∈ A.foot, H b = none) → Q (.ref A.t) H'
theorem wordsM_tl (row : Str) : (wordsM row).map tl = wordsL (tl row) := by
  unfold wordsM wordsL
  rw [← split_is (x := row) (y := " ") (s := 32) rfl (by decide), List.filter_map]
  congr 1
  refine List.filter_congr fun x _ => ?_
  refine decide_eq_decide.mpr ?_
  exact not_congr eq_nil_tl
theorem wordsM_len {row : Str} (h : row.length ≤ 640) : ∀ x ∈ wordsM row, x.length ≤ 640 := by
  intro x hx
  have hx := (List.mem_filter.mp hx).1
  have e := split_is (x := row) (y := " ") (s := 32) rfl (by decide)
  have := splitL_len 32 (tl row) (tl x) (by rw [← e]; exact List.mem_map_of_mem hx)
  rw [← len_tl, ← len_tl] at this
  omega
/-- the comprehension's words -/
def keepW : V → Option V := fun v => match v with
  | .str z => if z = "" then none else some (.str z)
  | _ => none
theorem keepW_map : ∀ l : List Str, (l.map V.str).filterMap keepW = (l.filter fun x => decide (x ≠ ("" : Str))).map V.str
  | [] => rfl
  | a :: r => by
    by_cases h : a = ""
    · have e : keepW (.str a) = none := if_pos h
      rw [List.map_cons, List.filterMap_cons_none e, keepW_map r, List.filter_cons_of_neg (by simpa using h)]
    · have e : keepW (.str a) = some (.str a) := if_neg h
      rw [List.map_cons, List.filterMap_cons_some e, keepW_map r, List.filter_cons_of_pos (by simpa using h)]
      rfl
/-- what stands ahead of row i -/
def RInv (CT : Addr) (cls : Nat → Addr) (x : Str) (r : Addr) (H : Hp) (Df : TreeD) (i : Nat) (σ : L2.St) (H' : Hp) : Prop := ∃ (v3 v4 v5 v6 v7 v8 v9 v10 : Option V) (A' : TA) (D : TreeD), σ = [some (.str x), some (.ref A'.t), some (.ref r), v3, v4, v5, v6, v7, v8, v9, v10] ∧ Same H H' ∧ TRm CT cls A' D H' ∧ D.WF ∧ H' r = some (.lst ((rowsM x).map V.str)) ∧ r ∉ A'.foot ∧ (∀ b ∈ A'.foot, H b = none) ∧ readGo ((rowsM x).drop i) D i = .ok Df
theorem ok_read {CT : Addr} {cls : Nat → Addr} {f : Addr} {fd : FuncData} {tk1 tk2 : Tok} (F : Fun K "read" "read" s_read f fd) (T : Bt mg) (cT : ClsF K CT treeN) (kc : KdC K cls) (kl : KdL P w K mg base cls) (gB : mg "BOUND" = some (.int 64 tk1)) (gD : mg "DEEPEST" = some (.int 8 tk2))
    (MT : Mak P w K mg base CX0 "Tree" CT 1 ["self"] [] (spTInit CT cls)) (MA : Mth P w K mg base CX0 CT "add" 1 ["self", "shape", "elder"] [] (spAdd CT cls)) (CS : Cal P w K mg base CX0 "shape_by" 6 ["words"] [] (spShapeBy K cls)) (CE : Cal P w K mg base CX0 "elder_at" 2 ["tree", "deep"] [] (spElder CT cls)) :
    FnOk P w K mg base CX0 7 f fd ["text"] (spRead CT cls) := by
  refine F.ok sc_read (fun vs H Q E h => ?_) (fun cdv A outer s H vs Q E hr h => ?_)
  · obtain ⟨x, Df, rfl, _⟩ := h
    rfl
  obtain ⟨x, Df, rfl, hl, hrow, hM, q⟩ := h
  have hu := hu_of hr
  have hz := PySem.sizeLine_eq
  refine ⟨_, (pss_cons (ps_set (i := 1) sc_read.nd rfl (Or.inl rfl) (pe_mka0 (P := P) (w := w) (K := K) (mg := mg) (base := base) ⟨rfl, rfl, rfl, rfl, rfl⟩ hr rfl))
    (pss_cons (ps_set (i := 2) sc_read.nd rfl (Or.inl rfl) (pe_split (pv 0) pe_str))
    (pss_cons (ps_for PassesOwn.never rfl (pi_range1 rfl T.range (pa_cons (pe_callB (kLenL (K := K) rfl) (by rfl) T.len (by decide +kernel) (pa_cons (pv 2) pa_nil)) pa_nil)) (pg_name (i := 3) sc_read.nd rfl (Or.inl rfl)) (pss_cons (ps_set (i := 4) sc_read.nd rfl (Or.inl rfl) (pe_split (pe_ix (kIxL (K := K) rfl) (pv 2) (pv 3) (fun _ _ => rfl)) pe_str))
    (pss_cons (ps_setLc (i := 4) (own := [("word", 10)]) (g := gName 10) (by rfl) sc_read.nd rfl rfl (sw_true rfl rfl rfl (by decide +kernel)) (kPiL (K := K) rfl (pv 4)) (blkOk_by (own := [("word", 10)]) (N := ["text", "tree", "rows", "k", "words", "blanks", "shape", "elder", "deep", "odd", "word"]) (sc := defScope s_read) (by decide +kernel)) (fun _ _ _ _ _ => pg_name (i := 10) sc_read.nd rfl (Or.inl rfl)) (fun _ _ _ _ _ => pts_one (by exact (pt_cmpR op_ne (pv 10) pe_str (nomark _)))) (fun _ _ _ _ _ => by exact (pv 10)))
    (pss_cons (ps_if (PW.pt (pw_or (pt_cmpR (op_eqE hr.units) (pv 4) (pe_lst pa_nil) (nomark _)) (pw_or1 (pt_val (pe_m1 PySem.F.slot_str_startswith PySem.F.type_str_startswith mt_startswith (pe_ix (kIxL (K := K) rfl) (pv 4) pe_int (fun _ _ => rfl)) pe_str))))) (pss_one ps_continue) pss_nil)
    (pss_cons (ps_set (i := 5) sc_read.nd rfl (Or.inl rfl) (pe_op op_sub (pe_callB call_lenS (by rfl) T.len (by decide +kernel) (pa_cons (pe_ix (kIxL (K := K) rfl) (pv 2) (pv 3) (fun _ _ => rfl)) pa_nil)) (pe_callB call_lenS (by rfl) T.len (by decide +kernel) (pa_cons (kBm (K := K) rfl PySem.F.plainAttrs_str PySem.F.slot_str_lstrip PySem.F.type_str_lstrip mt_lstripChars (pe_ix (kIxL (K := K) rfl) (pv 2) (pv 3) (fun _ _ => rfl)) (pa_cons pe_str pa_nil)) pa_nil))))
    (pss_cons (ps_asg (pe_callB call_divmodI (by rfl) T.divmod (by decide +kernel) (pa_cons (pv 5) (pa_cons pe_int pa_nil))) (kTup (K := K) rfl rfl (pgs_cons (pg_name (i := 8) sc_read.nd rfl (Or.inl rfl)) (pgs_cons (pg_name (i := 9) sc_read.nd rfl (Or.inl rfl)) pgs_nil))))
    (pss_cons (ps_set (i := 6) sc_read.nd rfl (Or.inl rfl) (pe_ca (P := P) (w := w) (K := K) (mg := mg) (base := base) ⟨rfl, rfl, rfl, rfl, rfl⟩ hr rfl (pa_cons (pv 4) pa_nil)))
    (pss_cons (ps_set (i := 7) sc_read.nd rfl (Or.inl rfl) (pe_ca (P := P) (w := w) (K := K) (mg := mg) (base := base) ⟨rfl, rfl, rfl, rfl, rfl⟩ hr rfl (pa_cons (pv 1) (pa_cons (pv 8) pa_nil))))
    (pss_cons (ps_if (PW.pt (pw_or (pt_cmpR op_gt (pv 9) pe_int (nomark _)) (pw_or (pt_cmpR op_gt (pv 8) (pe_gv (mg := mg) rfl rfl) (nomark _)) (pw_or (pt_cmpR op_isNn (pv 6) pe_non (nomark _)) (pw_or (pt_cmpR op_eq (pv 7) (pe_un un_neg pe_int) (nomark _)) (pw_or1 (pt_cmp (pc_din hu (kFld (K := K) rfl (pv 6)) (kFld (K := K) rfl (pv 1)))))))))) (pss_one ps_never) pss_nil)
    (C8.pss_cut (ps_if (PW.pt (pw_and (pt_cmpR op_eq (pv 7) (pe_un un_neg pe_int) (nomark _)) (pw_and1 (pt_val (pe_ma0 (P := P) (w := w) (K := K) (mg := mg) (base := base) ⟨rfl, rfl, rfl, rfl, rfl⟩ hr (pv 6)))))) (pss_one ps_never) pss_nil)
    (pss_cons (ps_if (pt_cmpR op_eq (pe_callB (kLenL (K := K) rfl) (by rfl) T.len (by decide +kernel) (pa_cons (kFld (K := K) rfl (pv 1)) pa_nil)) (pe_gv (mg := mg) rfl rfl) (nomark _)) (pss_one ps_never) pss_nil)
    (pss_one (ps_expr (pe_ma (P := P) (w := w) (K := K) (mg := mg) (base := base) ⟨rfl, rfl, rfl, rfl, rfl⟩ hr (pv 1) (pa_cons (pv 6) (pa_cons (pv 7) pa_nil))))))))))))))))
    (pss_cons (ps_if (pt_cmpR (op_eqE hr.units) (kFld (K := K) rfl (pv 1)) (pe_lst pa_nil) (nomark _)) (pss_one ps_never) pss_nil)
    (pss_one (ps_ret (pv 1))))))), ?_⟩
  walk_at "rd"
  refine w_mka MT (by decide) ?_
  walk_at "rd"
  refine fun t dx ht hdx ne => ⟨t, dx, rfl, upd_same, fun A H1 et R o1 n1 => ?_⟩
  subst et
  refine ⟨rfl, ?_⟩
  have fresh : ∀ b ∈ A.foot, H b = none := fun b hb => by
    rcases n1 b hb with h | h
    · rw [List.mem_singleton] at h
      rw [h]
      exact ht
    · exact updN (updN h)
  have s1 : Same H H1 := fun b u hu => by
    have e1 : b ≠ A.t := neN ht hu
    have e2 : b ≠ dx := neN hdx hu
    refine o1 b u (by simpa using e1) ?_
    walk_at "hp"
  clear o1 n1 ne hdx ht
  walk_at "rd"
  refine ⟨x, _, rfl, rfl, rfl, by omega, fun r hr2 => ?_⟩
  have el : (rowsM x).length ≤ 100002 := Nat.le_trans (split_le x "\n") (by omega)
  have s2 := same_upd (o := .lst ((rowsM x).map V.str)) s1 hr2
  have R0 := R
  have R := R.same (same_new hr2 (.lst ((rowsM x).map V.str)))
  have hrows : upd H1 r (.lst ((rowsM x).map V.str)) r = some (.lst ((rowsM x).map V.str)) := upd_same
  have rf : r ∉ A.foot := fun hm => (R0.some_ r hm).elim fun o ho => absurd ho (by rw [hr2]; exact fun z => by cases z)
  show gName 2 (V.ref r) _ (upd H1 r (.lst ((rowsM x).map V.str))) _
  generalize upd H1 r (.lst ((rowsM x).map V.str)) = H2 at s2 R hrows ⊢
  walk_at "rd"
  rw [List.length_map]
  refine w_forR (RInv CT cls x r H Df)
    (by omega) (by omega) ⟨_, _, _, _, _, _, _, _, A, .nil, rfl, s2, R, WF_nil, hrows, rf, fresh, hM⟩ (fun i σ H3 hi hm => ?_) (fun σ H3 hm => ?_)
  · obtain ⟨v3, v4, v5, v6, v7, v8, v9, v10, A', D, rfl, s3, R3, W, hr3, rf3, fr3, hgo⟩ := hm
    have hi : i < (rowsM x).length := by omega
    obtain ⟨row, hrw⟩ : ∃ row, (rowsM x)[i]? = some row := ⟨_, List.getElem?_eq_getElem hi⟩
    have lrow := hrow row (List.mem_of_getElem? hrw)
    have hix : ((rowsM x).map V.str)[i]? = some (.str row) := by rw [List.getElem?_map, hrw]; rfl
    have hstep := (readGo_step (D := D) hrw).symm.trans hgo
    walk_at "rd"
    refine w_ixL (SqL.of hr3) (at_nat (i := i) (by omega) hix) ?_
    walk_at "rd"
    refine ⟨row, _, rfl, rfl, rfl, by omega, fun p hp => ?_⟩
    have s4 := same_new hp (.lst ((Txt.split row " ").map V.str))
    have hp4 : upd H3 p (.lst ((Txt.split row " ").map V.str)) p = some (.lst ((Txt.split row " ").map V.str)) := upd_same
    show gName 4 (V.ref p) _ (upd H3 p (.lst ((Txt.split row " ").map V.str))) _
    have lsp : (Txt.split row " ").length ≤ 642 := Nat.le_trans (split_le row " ") (by omega)
    have R4 := R3.same s4
    have hr4 := s4 _ _ hr3
    have s34 := s3.trans s4
    generalize upd H3 p (.lst ((Txt.split row " ").map V.str)) = H4 at s4 hp4 R4 hr4 s34 ⊢
    walk_at "rd"
    refine w_lcL (xs := (Txt.split row " ").map V.str) (LcF H4 ((Txt.split row " ").map V.str) keepW) (SqL.of hp4) (fun C h => lcF_0 h) (fun C i H' _ _ p => p.1.seq (SqL.of hp4)) (fun C j v H' hC hx p => ?_) (fun C H5 hC p => ?_)
    · rw [List.getElem?_map] at hx
      obtain ⟨z, hz', rfl⟩ := Option.map_eq_some_iff.mp hx
      walk_at "rd"
      walk_at "if"
      all_goals rename_i c
      all_goals walk_at "rd"
      · refine lcF_yes p hC (by rw [List.getElem?_map, hz']; rfl) (show keepW (.str z) = some (.str z) from if_neg fun e => c (congrArg V.str e)) (by rw [List.length_map]; omega)
      · refine lcF_no p (by rw [List.getElem?_map, hz']; rfl) (show keepW (.str z) = none from if_pos (V.str.inj c))
    have hC5 := p.2
    rw [List.take_length, keepW_map] at hC5
    have hC5 : H5 C = some (.lst ((wordsM row).map V.str)) := hC5
    have s5 := p.1
    have lws := wordsM_len lrow
    have R5 := R4.same s5
    have hr5 := s5 _ _ hr4
    have s35 := s34.trans s5
    clear p hp4 hr4 R4 s34
    walk_at "rd"
    have hbad : rowM D row = .bad → False := fun e => by
      rw [e] at hstep
      cases hstep
    have hmany : rowM D row = .many → False := fun e => by
      rw [e] at hstep
      cases hstep
    have skip : ∀ H', Same H5 H' → rowM D row = .skip → ∀ v3 v4 v5 v6 v7 v8 v9 v10 : Option V, RInv CT cls x r H Df (i + 1) [some (V.str x), some (.ref A'.t), some (.ref r), v3, v4, v5, v6, v7, v8, v9, v10] H' := fun H' s' e v3 v4 v5 v6 v7 v8 v9 v10 => by
      rw [e] at hstep
      exact ⟨_, _, _, _, _, _, _, _, A', D, rfl, s35.trans s', R5.same s', W, s' _ _ hr5, rf3, fr3, hstep⟩
    refine ⟨Nat.zero_le _, fun b hb => ?_⟩
    have s6 := same_new hb (.lst [])
    walk_at "rd"
    have em : ((wordsM row).map V.str).isEmpty = decide (wordsM row = []) := by cases wordsM row <;> rfl
    rw [em]
    by_cases c1 : wordsM row = []
    · rw [decide_eq_true c1]
      walk_at "rd"
      exact skip _ s6 (if_pos (.inl c1)) _ _ _ _ _ _ _ _
    rw [decide_eq_false c1]
    have R6 := R5.same s6
    have hr6 := s6 _ _ hr5
    have hC6 := s6 _ _ hC5
    generalize upd H5 b (.lst []) = H6 at s6 R6 hr6 hC6 ⊢
    walk_at "rd"
    have lpos : 0 < (wordsM row).length := List.length_pos_iff.mpr c1
    refine w_ixL (SqL.of hC6) (at_nat (i := 0) rfl (wAt_at lpos)) ?_
    walk_at "rd"
    refine ⟨_, _, rfl, rfl, ?_⟩
    walk_at "rd"
    walk_at "if"
    · rename_i c2
      walk_at "rd"
      exact skip _ s6 (if_pos (.inr c2)) _ _ _ _ _ _ _ _
    rename_i c2
    have un : rowM D row = match shapeM (wordsM row) with
      | none => .bad
      | some s =>
        if 0 < blanksM row % 2 ∨ 8 < blanksM row / 2 ∨ elderM D ((blanksM row / 2 : Nat) : Int) = -2 ∨ s.name ∈ D.shs.map Shp.name then .bad
        else if elderM D ((blanksM row / 2 : Nat) : Int) = -1 ∧ s.kind < 3 then .bad
        else if D.n = 64 then .many
        else .add s (elderM D ((blanksM row / 2 : Nat) : Int)) := by
      unfold rowM
      rw [if_neg]
      rintro (z | z)
      · exact c1 z
      · rw [z] at c2; cases c2
    walk_at "rd"
    refine w_ixL (SqL.of hr6) (at_nat (i := i) (by omega) hix) ?_
    walk_at "rd"
    refine w_ixL (SqL.of hr6) (at_nat (i := i) (by omega) hix) ?_
    walk_at "rd"
    refine ⟨row, _, rfl, rfl, by omega, ?_⟩
    have lst : (Txt.lstripChars row " ").length ≤ row.length := len_stripBy _ _ _ _
    walk_at "rd"
    have eb : (row.length : Int) - ((Txt.lstripChars row " ").length : Int) = (blanksM row : Int) := by unfold blanksM; omega
    rw [eb]
    refine w_divmod ⟨by decide, by decide⟩ fun q2 hq2 => ?_
    have ed : (blanksM row : Int) / 2 = ((blanksM row / 2 : Nat) : Int) := by omega
    have eo : (blanksM row : Int) % 2 = ((blanksM row % 2 : Nat) : Int) := by omega
    rw [ed, eo]
    have s7 := same_upd (o := .tup [V.int ((blanksM row / 2 : Nat) : Int), V.int ((blanksM row % 2 : Nat) : Int)]) s6 hq2
    walk_at "rd"
    have s67 := same_new hq2 (.tup [V.int ((blanksM row / 2 : Nat) : Int), V.int ((blanksM row % 2 : Nat) : Int)])
    have R7 := R6.same s67
    have hr7 := s67 _ _ hr6
    have hC7 := s67 _ _ hC6
    generalize upd H6 q2 (.tup [V.int ((blanksM row / 2 : Nat) : Int), V.int ((blanksM row % 2 : Nat) : Int)]) = H7 at s7 R7 hr7 hC7 ⊢
    clear s67 hr6 hC6 R6 s6 hb hq2
    refine w_ca CS (by decide) ?_
    walk_at "rd"
    refine ⟨C, wordsM row, rfl, SqL.of hC7, lws, fun v H8 s8 hv => ?_⟩
    have R8 := R7.same s8
    have hr8 := s8 _ _ hr7
    have s58 := s7.trans s8
    clear R7 hr7 hC7
    walk_at "rd"
    refine w_ca CE (by decide) ?_
    walk_at "rd"
    refine ⟨A', D, _, rfl, R8.toTR, W, by omega, fun H9 s9 => ?_⟩
    have R9 := R8.same s9
    have hr9 := s9 _ _ hr8
    have s59 := s58.trans s9
    have hv : ShV cls (shapeM (wordsM row)) v H9 := by
      unfold ShV at hv ⊢
      split
      · rename_i e; rw [e] at hv; exact hv
      · rename_i s' e
        rw [e] at hv
        obtain ⟨p, hp, sp⟩ := hv
        exact ⟨p, hp, sp.same s9⟩
    clear R8 hr8 s58 s8 s9 s7
    have hel := elder_cases D (blanksM row / 2) W
    walk_at "rd"
    by_cases c3 : 0 < blanksM row % 2
    · rw [decide_eq_true (show (0 : Int) < ((blanksM row % 2 : Nat) : Int) by omega)]
      walk_at "rd"
      refine (hbad ?_).elim
      rw [un]
      split
      · rfl
      · exact if_pos (.inl c3)
    rw [decide_eq_false (show ¬ (0 : Int) < ((blanksM row % 2 : Nat) : Int) by omega)]
    walk_at "rd"
    refine w_gv (v := .int 8) gD ⟨_, rfl⟩ ?_
    walk_at "rd"
    by_cases c4 : 8 < blanksM row / 2
    · rw [decide_eq_true (show (8 : Int) < ((blanksM row / 2 : Nat) : Int) by omega)]
      walk_at "rd"
      refine (hbad ?_).elim
      rw [un]
      split
      · rfl
      · exact if_pos (.inr (.inl c4))
    rw [decide_eq_false (show ¬ (8 : Int) < ((blanksM row / 2 : Nat) : Int) by omega)]
    walk_at "rd"
    cases hs : shapeM (wordsM row) with
    | none => exact (hbad (by rw [un, hs])).elim
    | some sh =>
      rw [hs] at hv
      rw [hs] at un
      dsimp only at un
      obtain ⟨p, rfl, sp⟩ := hv
      rw [decide_eq_false (show ¬ V.ref p = V.non from fun z => by cases z)]
      walk_at "rd"
      by_cases c5 : elderM D ((blanksM row / 2 : Nat) : Int) = -2
      · rw [decide_eq_true (show V.int (elderM D ((blanksM row / 2 : Nat) : Int)) = V.int (-2) by rw [c5])]
        walk_at "rd"
        exact (hbad (un.trans (if_pos (.inr (.inr (.inl c5)))))).elim
      rw [decide_eq_false (show ¬ V.int (elderM D ((blanksM row / 2 : Nat) : Int)) = V.int (-2) from fun z => c5 (V.int.inj z))]
      walk_at "rd"
      have ok := shape_ok hs
      have cp := kc.cf sh.kind ok.kd
      obtain ⟨dxp, hp⟩ := sp
      refine w_fld1 hp cp.cl (cp.no _ (attr_name _)) (fld_name sh) ?_
      have ht9 := R9.ht
      unfold treeF at ht9
      walk_at "rd"
      refine w_dget1 (k := Sum.inr sh.name) R9.hkn rfl ?_
      walk_at "rd"
      by_cases c6 : sh.name ∈ D.shs.map Shp.name
      · refine (hbad (un.trans (if_pos (.inr (.inr (.inr c6)))))).elim
      rw [kvs_none c6]
      walk_at "rd"
      rw [Option.isSome_none]
      walk_at "rd"
      generalize he : elderM D ((blanksM row / 2 : Nat) : Int) = e at un c5 hel
      refine w_cut (fun σ H' => σ = [some (.str x), some (.ref A'.t), some (.ref r), some (.int (0 + (i : Int))), some (.ref C), some (.int (blanksM row : Int)), some (.ref p), some (.int e), some (.int ((blanksM row / 2 : Nat) : Int)), some (.int ((blanksM row % 2 : Nat) : Int)), v10] ∧ H9 = H' ∧ ¬ (e = -1 ∧ sh.kind < 3)) ?_ (fun σ H' hm => ?_)
      · walk_at "rd"
        by_cases c7 : e = -1
        case neg =>
          rw [decide_eq_false (show ¬ V.int e = V.int (-1) from fun z => c7 (V.int.inj z))]
          walk_at "rd"
          exact ⟨rfl, rfl, fun z => c7 z.1⟩
        rw [decide_eq_true (show V.int e = V.int (-1) by rw [c7])]
        walk_at "rd"
        refine w_ma1 hp cp.cl (fld_leaf _) (kl.leaf _ ok.kd) (by decide) ?_
        walk_at "rd"
        refine ⟨p, dxp, _, rfl, hp, ?_⟩
        walk_at "rd"
        walk_at "if"
        all_goals rename_i c8
        all_goals walk_at "rd"
        · refine (hbad (un.trans ?_)).elim
          rw [if_neg, if_pos ⟨c7, c8⟩]
          rintro (z | z | z | z)
          · exact c3 z
          · exact c4 z
          · exact c5 z
          · exact c6 z
        · exact ⟨rfl, rfl, fun z => c8 z.2⟩
      obtain ⟨rfl, rfl, c7⟩ := hm
      have hsh9 := R9.hsh
      walk_at "rd"
      rw [List.length_map, R9.lps]
      refine w_gv (v := .int 64) gB ⟨_, rfl⟩ ?_
      walk_at "rd"
      have un2 : rowM D row = if D.n = 64 then .many else .add sh e := by
        rw [un, if_neg, if_neg c7]
        rintro (z | z | z | z)
        · exact c3 z
        · exact c4 z
        · exact c5 z
        · exact c6 z
      by_cases c8 : D.n = 64
      · exact (hmany (un2.trans (if_pos c8))).elim
      rw [decide_eq_false (show ¬ V.int (D.n : Int) = V.int 64 from fun z => c8 (by have := V.int.inj z; omega))]
      walk_at "rd"
      rw [if_neg c8] at un2
      have hadd := row_add W un2
      refine w_ma1 ht9 cT.cl rfl MA (by decide) ?_
      walk_at "rd"
      refine ⟨A', D, p, sh, e, rfl, R9, W, ⟨dxp, hp⟩, ok.kd, c6, hadd.2.2.2.2.1, fun A2 H2' et2 R2 o2 n2 => ?_⟩
      rw [un2] at hstep
      walk_at "rd"
      refine ⟨_, _, _, _, _, _, _, _, A2, D.add sh e, by rw [et2], fun b u hb => ?_, R2, hadd.1, ?_, ?_, ?_, hstep⟩
      · refine o2 b u (fun hm => ?_) (s59 b u (s5 b u (s4 b u (s3 b u hb))))
        rw [fr3 b hm] at hb
        cases hb
      · exact o2 _ _ rf3 hr9
      · intro hm
        rcases n2 r hm with z | z
        · exact rf3 z
        · rw [hr9] at z
          cases z
      · intro b hb
        rcases n2 b hb with z | z
        · exact fr3 b z
        · cases hb2 : H b with
          | none => rfl
          | some u =>
            have := s59 b u (s5 b u (s4 b u (s3 b u hb2)))
            rw [z] at this
            cases this
  · obtain ⟨v3, v4, v5, v6, v7, v8, v9, v10, A', D, rfl, s3, R3, W, hr3, rf3, fr3, hgo⟩ := hm
    have ht3 := R3.ht
    unfold treeF at ht3
    have hsh3 := R3.hsh
    walk_at "rd"
    refine ⟨Nat.zero_le _, fun b hb => ?_⟩
    have s4 := same_new hb (.lst [])
    walk_at "rd"
    have en : ((rowsM x).length : Int).toNat = (rowsM x).length := Int.toNat_natCast _
    rw [en, List.drop_length] at hgo
    have hgo : (if D.n = 0 then RR.top else .ok D) = .ok Df := hgo
    by_cases c : D.n = 0
    · rw [if_pos c] at hgo
      cases hgo
    rw [if_neg c] at hgo
    injection hgo with hgo
    subst hgo
    have em : (A'.ps.map V.ref).isEmpty = false := by
      have := R3.lps
      cases e : A'.ps with
      | nil => rw [e] at this; exact absurd this.symm c
      | cons => rfl
    rw [em]
    walk_at "rd"
    exact q A' _ (s3.trans s4) (R3.same s4) W c fr3
end
end Mn

namespace Mn
open PySem PySem.Spec PyProof.Rows L2 TL
/-! ### trees as the laws make them: their text is read as they are -/
def TreeD.takeN (D : TreeD) (i : Nat) : TreeD := ⟨D.shs.take i, D.eld.take i, D.dps.take i⟩
structure Good (D : TreeD) : Prop where
  wf : D.WF
  pos : 0 < D.n
  eld : ∀ i, i < D.n → elderM (D.takeN i) (D.dp i : Int) = D.e i
theorem Good.takeN_n {D : TreeD} {i : Nat} (h : i ≤ D.n) : (D.takeN i).n = i := by
  show (D.shs.take i).length = i
  rw [List.length_take]
  exact Nat.min_eq_left h
theorem getD_take {α : Type} (l : List α) (d : α) {i k : Nat} (h : k < i) : (l.take i).getD k d = l.getD k d := by
  rw [List.getD_eq_getElem?_getD, List.getD_eq_getElem?_getD, List.getElem?_take_of_lt h]
theorem take_snoc {α : Type} (l : List α) (d : α) {i : Nat} (h : i < l.length) : l.take (i + 1) = l.take i ++ [l.getD i d] := by
  rw [List.take_add_one, List.getD_eq_getElem?_getD, List.getElem?_eq_getElem h]
  rfl
theorem Good.add {D : TreeD} (g : Good D) {i : Nat} (h : i < D.n) : (D.takeN i).add (D.sh i) (D.e i) = D.takeN (i + 1) := by
  have W := g.wf
  have e1 : D.shs.take (i + 1) = D.shs.take i ++ [D.sh i] := take_snoc _ _ h
  have e2 : D.eld.take (i + 1) = D.eld.take i ++ [D.e i] := take_snoc _ _ (by rw [W.le]; exact h)
  have e3 : D.dps.take (i + 1) = D.dps.take i ++ [D.dp i] := take_snoc _ _ (by rw [W.ld]; exact h)
  have e4 : D.dp i = if D.e i < 0 then 0 else (D.takeN i).dp (D.e i).toNat + 1 := by
    have el := W.el i h
    rw [W.dp i h]
    split
    · rfl
    · rw [show (D.takeN i).dp (D.e i).toNat = D.dp (D.e i).toNat from getD_take _ _ (by omega)]
  unfold TreeD.add
  rw [← e4]
  show (⟨D.shs.take i ++ [D.sh i], D.eld.take i ++ [D.e i], D.dps.take i ++ [D.dp i]⟩ : TreeD) = ⟨_, _, _⟩
  rw [← e1, ← e2, ← e3]
/-! words of a row, read back -/
theorem keep_free : ∀ k ∈ keeps3, (32 ∉ tl k ∧ 10 ∉ tl k) ∧ k ≠ "" := by decide +kernel
theorem num_free {i : Int} (h : 0 ≤ i) : (32 ∉ tl (Str.ofString (toString i)) ∧ 10 ∉ tl (Str.ofString (toString i))) ∧ Str.ofString (toString i) ≠ "" := by
  obtain ⟨n, rfl⟩ : ∃ n : Nat, i = (n : Int) := ⟨i.toNat, by omega⟩
  refine ⟨?_, fun e => ?_⟩
  · rw [tl_num]
    exact ⟨numL_free (.inl (by decide)), numL_free (.inl (by decide))⟩
  · have := congrArg tl e
    rw [tl_num] at this
    exact numL_ne n this
theorem numM_str {i : Int} (h : 0 ≤ i ∧ i ≤ 1000000) : numM (Str.ofString (toString i)) = some i := by
  obtain ⟨n, rfl⟩ : ∃ n : Nat, i = (n : Int) := ⟨i.toNat, by omega⟩
  exact num_yes (numOf_str n) h.2
theorem fit_ne {x : Str} (h : fitL (tl x) = true) : (32 ∉ tl x ∧ 10 ∉ tl x) ∧ x ≠ "" := by
  refine ⟨⟨fun m => ?_, fun m => ?_⟩, fun e => ?_⟩
  · unfold fitL at h
    rw [Bool.and_eq_true, List.all_eq_true] at h
    have := h.2 32 m
    revert this
    decide
  · unfold fitL at h
    rw [Bool.and_eq_true, List.all_eq_true] at h
    have := h.2 10 m
    revert this
    decide
  · rw [e] at h
    revert h
    decide
theorem kind6 {k : Nat} (h : k < 6) : k = 0 ∨ k = 1 ∨ k = 2 ∨ k = 3 ∨ k = 4 ∨ k = 5 := by omega
theorem shW_0 (nm kp : Str) (a b m : Int) : shW ⟨0, nm, kp, a, b, m⟩ = (["leaf", kp, toString a, toString b, "idle"] : List Str) := rfl
theorem shW_1 (nm kp : Str) (a b m : Int) : shW ⟨1, nm, kp, a, b, m⟩ = (["leaf", kp, toString a, toString b, "steady", toString m] : List Str) := rfl
theorem shW_2 (nm kp : Str) (a b m : Int) : shW ⟨2, nm, kp, a, b, m⟩ = (["leaf", kp, toString a, toString b, "falls", toString m] : List Str) := rfl
theorem shW_3 (nm kp : Str) (a b m : Int) : shW ⟨3, nm, kp, a, b, m⟩ = (["minder", kp, "one", toString a, toString b] : List Str) := rfl
theorem shW_4 (nm kp : Str) (a b m : Int) : shW ⟨4, nm, kp, a, b, m⟩ = (["minder", kp, "all", toString a, toString b] : List Str) := rfl
theorem shW_5 (nm kp : Str) (a b m : Int) : shW ⟨5, nm, kp, a, b, m⟩ = (["minder", kp, "rest", toString a, toString b] : List Str) := rfl
theorem shW_free {s : Shp} (ok : OkS s) : ∀ x ∈ shW s ++ [s.name], (32 ∉ tl x ∧ 10 ∉ tl x) ∧ x ≠ "" := by
  obtain ⟨k, nm, kp, a, b, m⟩ := s
  have f1 := keep_free kp ok.kp
  have f2 := num_free ok.a0.1
  have f3 := num_free ok.b0.1
  have f4 := num_free ok.m0.1
  have f5 := fit_ne ok.nm
  have lits : ∀ x ∈ (["leaf", "idle", "steady", "falls", "minder", "one", "all", "rest"] : List Str), (32 ∉ tl x ∧ 10 ∉ tl x) ∧ x ≠ "" := by decide +kernel
  have g := ok.kd
  dsimp only at f2 f3 f4 f5 g
  intro x hx
  rcases kind6 g with rfl | rfl | rfl | rfl | rfl | rfl
  · rw [shW_0] at hx
    simp only [List.cons_append, List.nil_append, List.mem_cons, List.not_mem_nil, or_false] at hx
    rcases hx with rfl | rfl | rfl | rfl | rfl | rfl
    · exact lits _ (by decide)
    · exact f1
    · exact f2
    · exact f3
    · exact lits _ (by decide)
    · exact f5
  · rw [shW_1] at hx
    simp only [List.cons_append, List.nil_append, List.mem_cons, List.not_mem_nil, or_false] at hx
    rcases hx with rfl | rfl | rfl | rfl | rfl | rfl | rfl
    · exact lits _ (by decide)
    · exact f1
    · exact f2
    · exact f3
    · exact lits _ (by decide)
    · exact f4
    · exact f5
  · rw [shW_2] at hx
    simp only [List.cons_append, List.nil_append, List.mem_cons, List.not_mem_nil, or_false] at hx
    rcases hx with rfl | rfl | rfl | rfl | rfl | rfl | rfl
    · exact lits _ (by decide)
    · exact f1
    · exact f2
    · exact f3
    · exact lits _ (by decide)
    · exact f4
    · exact f5
  · rw [shW_3] at hx
    simp only [List.cons_append, List.nil_append, List.mem_cons, List.not_mem_nil, or_false] at hx
    rcases hx with rfl | rfl | rfl | rfl | rfl | rfl
    · exact lits _ (by decide)
    · exact f1
    · exact lits _ (by decide)
    · exact f2
    · exact f3
    · exact f5
  · rw [shW_4] at hx
    simp only [List.cons_append, List.nil_append, List.mem_cons, List.not_mem_nil, or_false] at hx
    rcases hx with rfl | rfl | rfl | rfl | rfl | rfl
    · exact lits _ (by decide)
    · exact f1
    · exact lits _ (by decide)
    · exact f2
    · exact f3
    · exact f5
  · rw [shW_5] at hx
    simp only [List.cons_append, List.nil_append, List.mem_cons, List.not_mem_nil, or_false] at hx
    rcases hx with rfl | rfl | rfl | rfl | rfl | rfl
    · exact lits _ (by decide)
    · exact f1
    · exact lits _ (by decide)
    · exact f2
    · exact f3
    · exact f5
theorem lit_ne {a b : Str} (h : tl a ≠ tl b) : a ≠ b := fun e => h (congrArg tl e)
section
variable {ws : List Str} {g sl m : Int}
theorem shapeM_in (l : 6 ≤ ws.length) (hk : wAt ws 1 ∈ keeps3) (hf : fitL (tl (wAt ws (ws.length - 1))) = true) : shapeM ws = if wAt ws 0 = "leaf" then (leafR ws).join else if wAt ws 0 = "minder" ∧ ws.length = 6 then (minderR ws).join else none := by
  unfold shapeM
  rw [if_neg]
  rintro (z | z | z)
  · omega
  · exact z hk
  · rw [hf] at z
    cases z
theorem leafR_in (hg : numM (wAt ws 2) = some g) (hs : numM (wAt ws 3) = some sl) : leafR ws = if wAt ws 4 = "idle" ∧ ws.length = 6 then some (some ⟨0, wAt ws 5, wAt ws 1, g, sl, 0⟩)
      else if ws.length = 7 ∧ (wAt ws 4 = "steady" ∨ wAt ws 4 = "falls") then
        match numM (wAt ws 5) with
        | none => none
        | some m => some (some ⟨if wAt ws 4 = "steady" then 1 else 2, wAt ws 6, wAt ws 1, g, sl, m⟩)
      else some none := by
  unfold leafR
  rw [hg, hs] <;> rfl
theorem minderR_in (hm : numM (wAt ws 3) = some m) (hs : numM (wAt ws 4) = some sl) : minderR ws = if sl = 0 then some none
      else if wAt ws 2 = "one" then some (some ⟨3, wAt ws 5, wAt ws 1, m, sl, 0⟩)
      else if wAt ws 2 = "all" then some (some ⟨4, wAt ws 5, wAt ws 1, m, sl, 0⟩)
      else if wAt ws 2 = "rest" then some (some ⟨5, wAt ws 5, wAt ws 1, m, sl, 0⟩)
      else some none := by
  unfold minderR
  rw [hm, hs]
end
theorem shapeM_back {s : Shp} (ok : OkS s) : shapeM (shW s ++ [s.name]) = some s := by
  obtain ⟨k, nm, kp, a, b, m⟩ := s
  have g := ok.kd
  have na := numM_str ok.a0
  have nb := numM_str ok.b0
  have nm' := numM_str ok.m0
  have hk := ok.kp
  have hf := ok.nm
  have mz := ok.mz
  have b1 := ok.b1
  dsimp only at g na nb nm' hk hf mz b1 ⊢
  have l2 : ("minder" : Str) ≠ "leaf" := by decide
  have l4 : ("falls" : Str) ≠ "steady" := by decide
  have l5 : ("all" : Str) ≠ "one" := by decide
  have l6 : ("rest" : Str) ≠ "one" := by decide
  have l7 : ("rest" : Str) ≠ "all" := by decide
  rcases kind6 g with rfl | rfl | rfl | rfl | rfl | rfl
  · obtain rfl := mz (by decide) (by decide)
    rw [shW_0]
    obtain ⟨ws, e⟩ : ∃ ws, (["leaf", kp, toString a, toString b, "idle"] : List Str) ++ [nm] = ws := ⟨_, rfl⟩
    have h0 : wAt ws 0 = "leaf" := by rw [← e]; rfl
    have h1 : wAt ws 1 = kp := by rw [← e]; rfl
    have h2 : wAt ws 2 = Str.ofString (toString a) := by rw [← e]; rfl
    have h3 : wAt ws 3 = Str.ofString (toString b) := by rw [← e]; rfl
    have h4 : wAt ws 4 = "idle" := by rw [← e]; rfl
    have h5 : wAt ws 5 = nm := by rw [← e]; rfl
    have hl : ws.length = 6 := by rw [← e]; rfl
    have hx : wAt ws (ws.length - 1) = nm := by rw [hl]; exact h5
    rw [e, shapeM_in (by omega) (by rw [h1]; exact hk) (by rw [hx]; exact hf), if_pos h0, leafR_in (by rw [h2]; exact na) (by rw [h3]; exact nb), if_pos ⟨h4, hl⟩, h5, h1]
    rfl
  · rw [shW_1]
    obtain ⟨ws, e⟩ : ∃ ws, (["leaf", kp, toString a, toString b, "steady", toString m] : List Str) ++ [nm] = ws := ⟨_, rfl⟩
    have h0 : wAt ws 0 = "leaf" := by rw [← e]; rfl
    have h1 : wAt ws 1 = kp := by rw [← e]; rfl
    have h2 : wAt ws 2 = Str.ofString (toString a) := by rw [← e]; rfl
    have h3 : wAt ws 3 = Str.ofString (toString b) := by rw [← e]; rfl
    have h4 : wAt ws 4 = "steady" := by rw [← e]; rfl
    have h5 : wAt ws 5 = Str.ofString (toString m) := by rw [← e]; rfl
    have h6 : wAt ws 6 = nm := by rw [← e]; rfl
    have hl : ws.length = 7 := by rw [← e]; rfl
    have hx : wAt ws (ws.length - 1) = nm := by rw [hl]; exact h6
    rw [e, shapeM_in (by omega) (by rw [h1]; exact hk) (by rw [hx]; exact hf), if_pos h0, leafR_in (by rw [h2]; exact na) (by rw [h3]; exact nb), if_neg (fun z => by omega), if_pos ⟨hl, .inl h4⟩, h5, nm', if_pos h4, h6, h1]
    rfl
  · rw [shW_2]
    obtain ⟨ws, e⟩ : ∃ ws, (["leaf", kp, toString a, toString b, "falls", toString m] : List Str) ++ [nm] = ws := ⟨_, rfl⟩
    have h0 : wAt ws 0 = "leaf" := by rw [← e]; rfl
    have h1 : wAt ws 1 = kp := by rw [← e]; rfl
    have h2 : wAt ws 2 = Str.ofString (toString a) := by rw [← e]; rfl
    have h3 : wAt ws 3 = Str.ofString (toString b) := by rw [← e]; rfl
    have h4 : wAt ws 4 = "falls" := by rw [← e]; rfl
    have h5 : wAt ws 5 = Str.ofString (toString m) := by rw [← e]; rfl
    have h6 : wAt ws 6 = nm := by rw [← e]; rfl
    have hl : ws.length = 7 := by rw [← e]; rfl
    have hx : wAt ws (ws.length - 1) = nm := by rw [hl]; exact h6
    rw [e, shapeM_in (by omega) (by rw [h1]; exact hk) (by rw [hx]; exact hf), if_pos h0, leafR_in (by rw [h2]; exact na) (by rw [h3]; exact nb), if_neg (fun z => by omega), if_pos ⟨hl, .inr h4⟩, h5, nm', if_neg (by rw [h4]; exact l4), h6, h1]
    rfl
  · obtain rfl := mz (by decide) (by decide)
    have := b1 (by decide)
    rw [shW_3]
    obtain ⟨ws, e⟩ : ∃ ws, (["minder", kp, "one", toString a, toString b] : List Str) ++ [nm] = ws := ⟨_, rfl⟩
    have h0 : wAt ws 0 = "minder" := by rw [← e]; rfl
    have h1 : wAt ws 1 = kp := by rw [← e]; rfl
    have h2 : wAt ws 2 = "one" := by rw [← e]; rfl
    have h3 : wAt ws 3 = Str.ofString (toString a) := by rw [← e]; rfl
    have h4 : wAt ws 4 = Str.ofString (toString b) := by rw [← e]; rfl
    have h5 : wAt ws 5 = nm := by rw [← e]; rfl
    have hl : ws.length = 6 := by rw [← e]; rfl
    have hx : wAt ws (ws.length - 1) = nm := by rw [hl]; exact h5
    rw [e, shapeM_in (by omega) (by rw [h1]; exact hk) (by rw [hx]; exact hf), if_neg (by rw [h0]; exact l2), if_pos ⟨h0, hl⟩, minderR_in (by rw [h3]; exact na) (by rw [h4]; exact nb), if_neg (by omega), if_pos h2, h5, h1]
    rfl
  · obtain rfl := mz (by decide) (by decide)
    have := b1 (by decide)
    rw [shW_4]
    obtain ⟨ws, e⟩ : ∃ ws, (["minder", kp, "all", toString a, toString b] : List Str) ++ [nm] = ws := ⟨_, rfl⟩
    have h0 : wAt ws 0 = "minder" := by rw [← e]; rfl
    have h1 : wAt ws 1 = kp := by rw [← e]; rfl
    have h2 : wAt ws 2 = "all" := by rw [← e]; rfl
    have h3 : wAt ws 3 = Str.ofString (toString a) := by rw [← e]; rfl
    have h4 : wAt ws 4 = Str.ofString (toString b) := by rw [← e]; rfl
    have h5 : wAt ws 5 = nm := by rw [← e]; rfl
    have hl : ws.length = 6 := by rw [← e]; rfl
    have hx : wAt ws (ws.length - 1) = nm := by rw [hl]; exact h5
    rw [e, shapeM_in (by omega) (by rw [h1]; exact hk) (by rw [hx]; exact hf), if_neg (by rw [h0]; exact l2), if_pos ⟨h0, hl⟩, minderR_in (by rw [h3]; exact na) (by rw [h4]; exact nb), if_neg (by omega), if_neg (by rw [h2]; exact l5), if_pos h2, h5, h1]
    rfl
  · obtain rfl := mz (by decide) (by decide)
    have := b1 (by decide)
    rw [shW_5]
    obtain ⟨ws, e⟩ : ∃ ws, (["minder", kp, "rest", toString a, toString b] : List Str) ++ [nm] = ws := ⟨_, rfl⟩
    have h0 : wAt ws 0 = "minder" := by rw [← e]; rfl
    have h1 : wAt ws 1 = kp := by rw [← e]; rfl
    have h2 : wAt ws 2 = "rest" := by rw [← e]; rfl
    have h3 : wAt ws 3 = Str.ofString (toString a) := by rw [← e]; rfl
    have h4 : wAt ws 4 = Str.ofString (toString b) := by rw [← e]; rfl
    have h5 : wAt ws 5 = nm := by rw [← e]; rfl
    have hl : ws.length = 6 := by rw [← e]; rfl
    have hx : wAt ws (ws.length - 1) = nm := by rw [hl]; exact h5
    rw [e, shapeM_in (by omega) (by rw [h1]; exact hk) (by rw [hx]; exact hf), if_neg (by rw [h0]; exact l2), if_pos ⟨h0, hl⟩, minderR_in (by rw [h3]; exact na) (by rw [h4]; exact nb), if_neg (by omega), if_neg (by rw [h2]; exact l6), if_neg (by rw [h2]; exact l7), if_pos h2, h5, h1]
    rfl
end Mn

namespace Mn
open PySem PySem.Spec PyProof.Rows L2 TL
/-! ### rows of a good tree's text -/
def mkS (l : List Nat) : Str := ⟨l.toArray⟩
theorem tl_mkS (l : List Nat) : tl (mkS l) = l := rfl
theorem mkS_tl (x : Str) : mkS (tl x) = x := mk_tl x
theorem tl_lstrip1 (x : Str) (c : Nat) : tl (Txt.lstripChars x ⟨#[c]⟩) = (tl x).dropWhile (fun d => decide (d = c)) := by
  have h0 : ∀ d, (⟨#[c]⟩ : Str).cps.contains d = decide (d = c) := fun d => by
    show (Array.contains #[c] d) = _
    rw [Bool.eq_iff_iff]
    simp [Array.contains_eq_mem]
  have e : (⟨#[c]⟩ : Str).cps.contains = fun d => decide (d = c) := funext h0
  unfold Txt.lstripChars
  rw [stripBy_eq, tl_strSub, e]
  unfold stripLo stripHi
  rw [if_pos rfl, if_neg (by decide), len_tl x, List.take_of_length_le (by rw [List.length_drop]; exact Nat.le_refl _)]
  have : ∀ l : List Nat, l.drop (l.takeWhile (fun d => decide (d = c))).length = l.dropWhile (fun d => decide (d = c)) := fun l => by
    induction l with
    | nil => rfl
    | cons a r ih =>
      by_cases h : a = c
      · rw [List.takeWhile_cons_of_pos (by simpa using h), List.dropWhile_cons_of_pos (by simpa using h)]
        exact ih
      · rw [List.takeWhile_cons_of_neg (by simpa using h), List.dropWhile_cons_of_neg (by simpa using h)]
        rfl
  exact this _
theorem drop_blanks (c : Nat) {l : List Nat} (h : ∀ d r, l = d :: r → d ≠ c) : ∀ n : Nat, (List.replicate n c ++ l).dropWhile (fun d => decide (d = c)) = l
  | 0 => by
    cases l with
    | nil => rfl
    | cons d r => rw [List.replicate_zero, List.nil_append, List.dropWhile_cons_of_neg (by simpa using h d r rfl)]
  | n + 1 => by
    rw [List.replicate_succ, List.cons_append, List.dropWhile_cons_of_pos (by simp)]
    exact drop_blanks c h n
theorem blanks_is {row : Str} {n : Nat} {l : List Nat} (e : tl row = List.replicate n 32 ++ l) (h : ∀ d r, l = d :: r → d ≠ 32) : blanksM row = n := by
  have e2 := tl_lstrip1 row 32
  rw [e, drop_blanks 32 h] at e2
  unfold blanksM
  have e3 : (Txt.lstripChars row " ").length = l.length := by
    rw [len_tl]
    exact congrArg List.length e2
  rw [e3, len_tl, e, List.length_append, List.length_replicate]
  omega
theorem joinL_head {S : List Nat} {w : List Nat} {ws : List (List Nat)} (h : w ≠ []) : ∃ c r r', w = c :: r ∧ joinL S (w :: ws) = c :: r' := by
  obtain ⟨c, r, rfl⟩ := List.exists_cons_of_ne_nil h
  cases ws with
  | nil => exact ⟨c, r, r, rfl, rfl⟩
  | cons q qs => exact ⟨c, r, _, rfl, rfl⟩
def SkipL (p : List Nat) : Prop := (∃ n, p = List.replicate n 32) ∨ ∃ n r, p = List.replicate n 32 ++ 35 :: r
theorem wordsM_of {row : Str} {ws : List Str} (h : wordsL (tl row) = ws.map tl) : wordsM row = ws := map_tl_inj ((wordsM_tl row).trans h)
theorem row_skip {p : List Nat} (h : SkipL p) (D : TreeD) : rowM D (mkS p) = .skip := by
  rcases h with ⟨n, rfl⟩ | ⟨n, r, rfl⟩
  · refine if_pos (.inl (wordsM_of (ws := []) ?_))
    rw [tl_mkS, wordsL_only]
    rfl
  · refine if_pos (.inr ?_)
    have e : wordsL (tl (mkS (List.replicate n 32 ++ 35 :: r))) = wordsL (35 :: r) := by rw [tl_mkS, wordsL_blanks]
    obtain ⟨q, qs, e1, e2⟩ := splitL_miss (s := 32) (c := 35) (by decide) r
    have e3 : wordsL (35 :: r) = (35 :: q) :: qs.filter fun p => decide (p ≠ []) := by
      unfold wordsL
      rw [e2, List.filter_cons_of_pos (by simp)]
    have e4 : (wordsM (mkS (List.replicate n 32 ++ 35 :: r))).map tl = (35 :: q) :: qs.filter fun p => decide (p ≠ []) := by rw [wordsM_tl, e, e3]
    cases h : wordsM (mkS (List.replicate n 32 ++ 35 :: r)) with
    | nil => rw [h] at e4; cases e4
    | cons a as =>
      rw [h] at e4
      injection e4 with e5 _
      show Txt.startswith a "#" = true
      have := starts_one a 35
      rw [e5] at this
      exact this.trans (decide_eq_true rfl)
def RowL (D : TreeD) (i : Nat) (l : List Nat) : Prop := ∃ gp tr : Nat, l = List.replicate (2 * D.dp i) 32 ++ (joinL (List.replicate (gp + 1) 32) ((shW (D.sh i) ++ [(D.sh i).name]).map tl) ++ List.replicate tr 32)
theorem shW_ne (s : Shp) : shW s ++ [s.name] ≠ [] := by simp
theorem sh_mem {D : TreeD} {i : Nat} (h : i < D.n) : D.sh i ∈ D.shs := by
  unfold TreeD.sh
  rw [List.getD_eq_getElem?_getD, List.getElem?_eq_getElem h]
  exact List.getElem_mem h
theorem name_new {D : TreeD} (W : D.WF) {i : Nat} (h : i < D.n) : (D.sh i).name ∉ (D.takeN i).shs.map Shp.name := by
  intro hm
  have nd := W.nm
  have e : D.shs.map Shp.name = (D.shs.take i).map Shp.name ++ (D.shs.drop i).map Shp.name := by rw [← List.map_append, List.take_append_drop]
  rw [e, List.nodup_append] at nd
  refine nd.2.2 _ hm (D.sh i).name ?_ rfl
  refine List.mem_map_of_mem ?_
  have e2 : D.shs.drop i = D.sh i :: D.shs.drop (i + 1) := by
    rw [List.drop_eq_getElem_cons h]
    unfold TreeD.sh
    rw [List.getD_eq_getElem?_getD, List.getElem?_eq_getElem h]
    rfl
  rw [e2]
  exact List.mem_cons_self
theorem row_good {D : TreeD} (g : Good D) {i : Nat} (hi : i < D.n) {l : List Nat} (h : RowL D i l) : rowM (D.takeN i) (mkS l) = .add (D.sh i) (D.e i) := by
  obtain ⟨gp, tr, h⟩ := h
  have W := g.wf
  have ok := W.ok _ (sh_mem hi)
  have fr := shW_free ok
  have fr' : ∀ p ∈ (shW (D.sh i) ++ [(D.sh i).name]).map tl, 32 ∉ p ∧ p ≠ [] := fun p hp => by
    obtain ⟨x, hx, rfl⟩ := List.mem_map.mp hp
    exact ⟨(fr x hx).1.1, fun e => (fr x hx).2 (eq_nil_tl.mpr e)⟩
  have hw : wordsM (mkS l) = shW (D.sh i) ++ [(D.sh i).name] := by
    refine wordsM_of ?_
    rw [tl_mkS, h, wordsL_blanks, wordsL_tail, wordsL_join gp _ fr']
  have hb : blanksM (mkS l) = 2 * D.dp i := by
    refine blanks_is (by rw [tl_mkS, h]) fun d r e => ?_
    cases e2 : (shW (D.sh i) ++ [(D.sh i).name]).map tl with
    | nil => simp at e2
    | cons w ws =>
      rw [e2] at fr' e
      have fw := fr' w List.mem_cons_self
      obtain ⟨c, r1, r2, e3, e4⟩ := joinL_head (S := List.replicate (gp + 1) 32) (ws := ws) fw.2
      rw [e4, List.cons_append] at e
      injection e with e5 _
      rw [← e5]
      exact fun z => fw.1 (by rw [e3, z]; exact List.mem_cons_self)
  have hn : (D.takeN i).n = i := Good.takeN_n (by omega)
  have ed : (2 * D.dp i) / 2 = D.dp i := by omega
  have eo : (2 * D.dp i) % 2 = 0 := by omega
  have he := g.eld i hi
  have hc := elder_cases (D.takeN i) (D.dp i)
  have d8 := W.d8 i hi
  have sz := W.sz
  unfold rowM
  rw [hw, hb, ed, eo, he, shapeM_back ok, if_neg ?_]
  · dsimp only
    rw [if_neg ?_, if_neg ?_, if_neg (by rw [hn]; omega)]
    · rintro ⟨z1, z2⟩
      have := W.el i hi
      have e0 : i = 0 := by omega
      subst e0
      have := W.top hi
      omega
    · rintro (z | z | z | z)
      · omega
      · omega
      · have := W.el i hi
        omega
      · exact name_new W hi z
  · rintro (z | z)
    · exact shW_ne _ z
    · have hd : wAt (shW (D.sh i) ++ [(D.sh i).name]) 0 = "leaf" ∨ wAt (shW (D.sh i) ++ [(D.sh i).name]) 0 = "minder" := by
        have hk := ok.kd
        generalize D.sh i = s at hk ⊢
        obtain ⟨k, nm, kp, a, b, m⟩ := s
        dsimp only at hk
        rcases kind6 hk with e | e | e | e | e | e <;> subst e
        · exact .inl rfl
        · exact .inl rfl
        · exact .inl rfl
        · exact .inr rfl
        · exact .inr rfl
        · exact .inr rfl
      rcases hd with e | e
      · rw [e] at z
        revert z
        decide +kernel
      · rw [e] at z
        revert z
        decide +kernel
def GoodRow (D : TreeD) (i : Nat) (l : List Nat) : Prop := ∃ pre post row, splitL 10 l = pre ++ row :: post ∧ (∀ p ∈ pre, SkipL p) ∧ (∀ p ∈ post, SkipL p) ∧ RowL D i row
theorem rows_is (x : Str) : rowsM x = (splitL 10 (tl x)).map mkS := by
  refine map_tl_inj ?_
  rw [List.map_map]
  have e := split_is (x := x) (y := "\n") (s := 10) rfl (by decide)
  refine e.trans ?_
  exact (List.map_id _).symm
theorem go_skips (D : TreeD) : ∀ (ps : List (List Nat)) (rs : List Str) (k : Nat), (∀ p ∈ ps, SkipL p) → readGo (ps.map mkS ++ rs) D k = readGo rs D (k + ps.length)
  | [], rs, k, _ => rfl
  | p :: ps, rs, k, h => by
    rw [List.map_cons, List.cons_append]
    show (match rowM D (mkS p) with
      | .skip => readGo (ps.map mkS ++ rs) D (k + 1)
      | .bad => .bad (k + 1)
      | .many => .many
      | .add s e => readGo (ps.map mkS ++ rs) (D.add s e) (k + 1)) = _
    rw [row_skip (h p List.mem_cons_self)]
    dsimp only
    rw [go_skips D ps rs (k + 1) fun q hq => h q (List.mem_cons_of_mem _ hq), List.length_cons, Nat.add_assoc, Nat.add_comm 1]
theorem splitL_join (s : Nat) : ∀ (ps : List (List Nat)), ps ≠ [] → splitL s (joinL [s] ps) = ps.flatMap (splitL s)
  | [p], _ => by simp [joinL]
  | p :: q :: r, _ => by
    show splitL s (p ++ ([s] ++ joinL [s] (q :: r))) = _
    rw [List.singleton_append, splitL_app, splitL_join s (q :: r) (by simp)]
    rfl
theorem go_good {D : TreeD} (g : Good D) (R : Nat → List Nat) : ∀ (m i k : Nat), i + m = D.n → (∀ j, i ≤ j → j < D.n → GoodRow D j (R j)) → readGo ((((List.range' i m).map R).flatMap (splitL 10)).map mkS) (D.takeN i) k = .ok D
  | 0, i, k, h, _ => by
    have hi : i = D.n := by omega
    subst hi
    have e : D.takeN D.n = D := by
      have W := g.wf
      unfold TreeD.takeN
      rw [List.take_of_length_le (show D.shs.length ≤ D.n from Nat.le_refl _), List.take_of_length_le (by rw [W.le]; exact Nat.le_refl _), List.take_of_length_le (by rw [W.ld]; exact Nat.le_refl _)]
    rw [e]
    show (if D.n = 0 then RR.top else .ok D) = _
    have := g.pos
    rw [if_neg (by omega)]
  | m + 1, i, k, h, hR => by
    obtain ⟨pre, post, row, e, h1, h2, h3⟩ := hR i (Nat.le_refl i) (by omega)
    rw [List.range'_succ, List.map_cons, List.flatMap_cons, e, List.append_assoc, List.cons_append, List.map_append, List.map_cons, go_skips _ _ _ _ h1]
    show (match rowM (D.takeN i) (mkS row) with
      | .skip => _
      | .bad => _
      | .many => _
      | .add s e => readGo _ ((D.takeN i).add s e) _) = _
    rw [row_good g (by omega) h3]
    dsimp only
    rw [g.add (by omega), List.map_append, go_skips _ _ _ _ h2]
    exact go_good g R m (i + 1) _ (by omega) fun j a b => hR j (by omega) b
theorem read_good {D : TreeD} (g : Good D) {x : Str} (R : Nat → List Nat) (hx : tl x = joinL [10] ((List.range D.n).map R)) (hR : ∀ i, i < D.n → GoodRow D i (R i)) : readM x = .ok D := by
  unfold readM
  have hne : (List.range D.n).map R ≠ [] := by
    have := g.pos
    intro e
    have := congrArg List.length e
    simp at this
    omega
  rw [rows_is, hx, splitL_join 10 _ hne, List.range_eq_range']
  exact go_good g R D.n 0 0 (by omega) fun j _ hj => hR j hj
theorem rows_len {D : TreeD} (g : Good D) {x : Str} (R : Nat → List Nat) (hx : tl x = joinL [10] ((List.range D.n).map R)) {m : Nat} (hR : ∀ i, i < D.n → (R i).length ≤ m) : ∀ r ∈ rowsM x, r.length ≤ m := by
  intro r hr
  have hne : (List.range D.n).map R ≠ [] := by
    have := g.pos
    intro e
    have := congrArg List.length e
    simp at this
    omega
  rw [rows_is, hx, splitL_join 10 _ hne] at hr
  obtain ⟨p, hp, rfl⟩ := List.mem_map.mp hr
  obtain ⟨q, hq, hp⟩ := List.mem_flatMap.mp hp
  obtain ⟨i, hi, rfl⟩ := List.mem_map.mp hq
  rw [len_tl, tl_mkS]
  exact Nat.le_trans (splitL_len 10 _ _ hp) (hR i (List.mem_range.mp hi))
end Mn

namespace Mn
open PySem PySem.Spec PyProof.Rows L2 TL
/-! ### the path of minders, row by row -/
structure PathOK (D : TreeD) (p : List Nat) : Prop where
  ne : 0 < p.length
  le : p.length ≤ 8
  at_ : ∀ i a : Nat, p[i]? = some a → a < D.n ∧ D.dp a = i ∧ 3 ≤ (D.sh a).kind
  up : ∀ i a b : Nat, p[i]? = some a → p[i + 1]? = some b → D.e b = (a : Int)
  last : ∀ a : Nat, p[p.length - 1]? = some a → a + 1 = D.n ∨ (D.e (D.n - 1) = (a : Int) ∧ D.dp (D.n - 1) = p.length)
theorem climb_path {D : TreeD} {p : List Nat} (P : PathOK D p) {j : Nat} (hj : 1 ≤ j) : ∀ (i f : Nat) (a : Nat), p[i]? = some a → j ≤ i + 1 → i < j + f → ∃ b, p[j - 1]? = some b ∧ climb D (j : Int) (f + 1) (a : Int) = (b : Int)
  | i, f, a, ha, h1, h2 => by
    obtain ⟨hn, hd, hk⟩ := P.at_ i a ha
    by_cases h : i + 1 = j
    · refine ⟨a, by rw [← h]; exact ha, ?_⟩
      rw [climb, if_neg]
      rintro ⟨_, z⟩
      rw [Int.toNat_natCast, hd] at z
      omega
    · obtain ⟨i', rfl⟩ : ∃ i', i = i' + 1 := ⟨i - 1, by omega⟩
      obtain ⟨f', rfl⟩ : ∃ f', f = f' + 1 := ⟨f - 1, by omega⟩
      have hl := (List.getElem?_eq_some_iff.mp ha).choose
      have hb : p[i']? = some p[i'] := List.getElem?_eq_getElem (by omega)
      have e := P.up i' _ a hb ha
      obtain ⟨b, h3, h4⟩ := climb_path P hj i' f' _ hb (by omega) (by omega)
      refine ⟨b, h3, ?_⟩
      rw [climb, if_pos ⟨by omega, by rw [Int.toNat_natCast, hd]; omega⟩, Int.toNat_natCast, e]
      exact h4
theorem elder_path {D : TreeD} {p : List Nat} (W : D.WF) (P : PathOK D p) {j : Nat} (hj : 1 ≤ j) (hp : j ≤ p.length) {b : Nat} (hb : p[j - 1]? = some b) : elderM D (j : Int) = (b : Int) := by
  have ne := P.ne
  have hl : p[p.length - 1]? = some p[p.length - 1] := List.getElem?_eq_getElem (by omega)
  have n0 : D.n ≠ 0 := by
    have := (P.at_ _ _ hl).1
    omega
  have n64 := W.sz
  have l8 := P.le
  have dpn : p.length ≤ D.n := by
    -- depths on the path are told by places of the tree: each is another row
    have : ∀ i a : Nat, p[i]? = some a → i ≤ a := fun i => by
      induction i with
      | zero => exact fun a _ => Nat.zero_le _
      | succ i ih =>
        intro a ha
        have hl := (List.getElem?_eq_some_iff.mp ha).choose
        have hb : p[i]? = some p[i] := List.getElem?_eq_getElem (by omega)
        have := ih _ hb
        have e := P.up i _ a hb ha
        have := W.e_lt (P.at_ _ _ ha).1
        omega
    have := this _ _ hl
    have := (P.at_ _ _ hl).1
    omega
  have key : climb D (j : Int) (D.n + 1) ((D.n : Int) - 1) = (b : Int) := by
    rcases P.last _ hl with h | ⟨h1, h2⟩
    · obtain ⟨b', h3, h4⟩ := climb_path P hj (p.length - 1) D.n _ hl (by omega) (by omega)
      rw [hb] at h3
      obtain rfl := Option.some.inj h3
      rw [show (D.n : Int) - 1 = ((p[p.length - 1] : Nat) : Int) by omega]
      exact h4
    · obtain ⟨m, em⟩ : ∃ m, D.n = m + 1 := ⟨D.n - 1, by omega⟩
      obtain ⟨b', h3, h4⟩ := climb_path P hj (p.length - 1) m _ hl (by omega) (by omega)
      rw [hb] at h3
      obtain rfl := Option.some.inj h3
      have e1 : ((D.n : Int) - 1).toNat = D.n - 1 := by omega
      rw [climb, if_pos ⟨by omega, by rw [e1, h2]; omega⟩, e1, h1, em]
      exact h4
  obtain ⟨hn, hd, hk⟩ := P.at_ _ _ hb
  unfold elderM
  rw [if_neg (by omega), if_neg n0, key, if_neg (by omega), Int.toNat_natCast, if_neg]
  rintro (z | z)
  · rw [hd] at z
    omega
  · omega
theorem add_n (D : TreeD) (s : Shp) (e : Int) : (D.add s e).n = D.n + 1 := by
  show (D.shs ++ [s]).length = _
  rw [List.length_append]
  rfl
theorem add_e_lt {D : TreeD} (W : D.WF) {s : Shp} {e : Int} {i : Nat} (h : i < D.n) : (D.add s e).e i = D.e i := getD_snoc_lt _ _ _ (by rw [W.le]; exact h)
theorem add_e_eq {D : TreeD} (W : D.WF) {s : Shp} {e : Int} : (D.add s e).e D.n = e := by
  have := getD_snoc_eq D.eld e (-1)
  rw [W.le] at this
  exact this
theorem add_dp_lt {D : TreeD} (W : D.WF) {s : Shp} {e : Int} {i : Nat} (h : i < D.n) : (D.add s e).dp i = D.dp i := getD_snoc_lt _ _ _ (by rw [W.ld]; exact h)
theorem add_dp_eq {D : TreeD} (W : D.WF) {s : Shp} {e : Int} : (D.add s e).dp D.n = if e < 0 then 0 else D.dp e.toNat + 1 := by
  have := getD_snoc_eq D.dps (if e < 0 then 0 else D.dp e.toNat + 1) 0
  rw [W.ld] at this
  exact this
theorem add_sh_lt {D : TreeD} {s : Shp} {e : Int} {i : Nat} (h : i < D.n) : (D.add s e).sh i = D.sh i := getD_snoc_lt _ _ _ h
theorem add_sh_eq {D : TreeD} {s : Shp} {e : Int} : (D.add s e).sh D.n = s := getD_snoc_eq D.shs s default
theorem add_takeN {D : TreeD} (W : D.WF) {s : Shp} {e : Int} {i : Nat} (h : i ≤ D.n) : (D.add s e).takeN i = D.takeN i := by
  show (⟨(D.shs ++ [s]).take i, (D.eld ++ [e]).take i, (D.dps ++ [_]).take i⟩ : TreeD) = ⟨_, _, _⟩
  rw [List.take_append_of_le_length h, List.take_append_of_le_length (by rw [W.le]; exact h), List.take_append_of_le_length (by rw [W.ld]; exact h)]
theorem takeN_all {D : TreeD} (W : D.WF) : D.takeN D.n = D := by
  unfold TreeD.takeN
  rw [List.take_of_length_le (show D.shs.length ≤ D.n from Nat.le_refl _), List.take_of_length_le (by rw [W.le]; exact Nat.le_refl _), List.take_of_length_le (by rw [W.ld]; exact Nat.le_refl _)]
/-- the top -/
theorem good_top {s : Shp} (ok : OkS s) (hk : 3 ≤ s.kind) : Good (TreeD.nil.add s (-1)) ∧ PathOK (TreeD.nil.add s (-1)) [0] := by
  have W : (TreeD.nil.add s (-1)).WF := WF_add WF_nil ok (d := 0) List.not_mem_nil (by decide) (by decide) (.inl ⟨rfl, rfl, rfl, hk⟩)
  refine ⟨⟨W, Nat.zero_lt_one, fun i hi => ?_⟩, ⟨by decide, by decide, fun i a h => ?_, fun i a b h1 h2 => ?_, fun a h => ?_⟩⟩
  · have : i = 0 := by have : i < 1 := hi; omega
    subst this
    rfl
  · have hi := (List.getElem?_eq_some_iff.mp h).choose
    have : i = 0 := by have : i < 1 := hi; omega
    subst this
    obtain rfl := Option.some.inj h
    exact ⟨Nat.zero_lt_one, rfl, hk⟩
  · have hi := (List.getElem?_eq_some_iff.mp h2).choose
    have : i + 1 < 1 := hi
    omega
  · obtain rfl := Option.some.inj h
    exact .inl rfl
/-- one more row -/
theorem good_row {D : TreeD} {p : List Nat} (g : Good D) (P : PathOK D p) {j b : Nat} (hj : 1 ≤ j) (hp : j ≤ p.length) (hb : p[j - 1]? = some b) {s : Shp} (ok : OkS s) (hn : s.name ∉ D.shs.map Shp.name) (h64 : D.n < 64) :
    Good (D.add s (b : Int)) ∧ (j < 8 → 3 ≤ s.kind → PathOK (D.add s (b : Int)) (p.take j ++ [D.n])) ∧ PathOK (D.add s (b : Int)) (p.take j) := by
  have W := g.wf
  obtain ⟨hbn, hbd, hbk⟩ := P.at_ _ _ hb
  have l8 := P.le
  have W' : (D.add s (b : Int)).WF := WF_add W ok hn (by omega) (d := j) (by omega) (.inr ⟨b, rfl, hbn, by omega, hbk⟩)
  have dn : (D.add s (b : Int)).dp D.n = j := by
    rw [add_dp_eq W, if_neg (by omega), Int.toNat_natCast, hbd]
    omega
  have lt : (p.take j).length = j := by rw [List.length_take]; omega
  have at1 : ∀ i a : Nat, (p.take j)[i]? = some a → a < (D.add s (b : Int)).n ∧ (D.add s (b : Int)).dp a = i ∧ 3 ≤ ((D.add s (b : Int)).sh a).kind := fun i a h => by
    have hi := (List.getElem?_eq_some_iff.mp h).choose
    rw [List.getElem?_take_of_lt (by omega)] at h
    obtain ⟨h1, h2, h3⟩ := P.at_ i a h
    exact ⟨by rw [add_n]; omega, by rw [add_dp_lt W h1, h2], by rw [add_sh_lt h1]; exact h3⟩
  have up1 : ∀ i a c : Nat, (p.take j)[i]? = some a → (p.take j)[i + 1]? = some c → (D.add s (b : Int)).e c = (a : Int) := fun i a c h1 h2 => by
    have hi := (List.getElem?_eq_some_iff.mp h2).choose
    rw [List.getElem?_take_of_lt (by omega)] at h1 h2
    rw [add_e_lt W (P.at_ _ _ h2).1]
    exact P.up i a c h1 h2
  have lastb : (p.take j)[j - 1]? = some b := by rw [List.getElem?_take_of_lt (by omega)]; exact hb
  refine ⟨⟨W', by rw [add_n]; omega, fun i hi => ?_⟩, fun h8 hk => ⟨by simp, by simp; omega, fun i a h => ?_, fun i a c h1 h2 => ?_, fun a h => ?_⟩, ⟨by omega, by omega, at1, up1, fun a h => ?_⟩⟩
  · rw [add_n] at hi
    rw [add_takeN W (by omega)]
    by_cases e : i < D.n
    · rw [add_dp_lt W e, add_e_lt W e]
      exact g.eld i e
    · have : i = D.n := by omega
      subst this
      rw [dn, add_e_eq W, takeN_all W]
      exact elder_path W P hj hp hb
  · have hi := (List.getElem?_eq_some_iff.mp h).choose
    rw [List.length_append, lt, List.length_singleton] at hi
    by_cases e : i < j
    · rw [List.getElem?_append_left (by omega)] at h
      exact at1 i a h
    · have : i = j := by omega
      subst this
      rw [List.getElem?_append_right (by omega), lt, Nat.sub_self] at h
      obtain rfl := Option.some.inj h
      exact ⟨by rw [add_n]; omega, dn, by rw [add_sh_eq]; exact hk⟩
  · have hi := (List.getElem?_eq_some_iff.mp h2).choose
    rw [List.length_append, lt, List.length_singleton] at hi
    by_cases e : i + 1 < j
    · rw [List.getElem?_append_left (by omega)] at h1 h2
      exact up1 i a c h1 h2
    · have : i + 1 = j := by omega
      rw [List.getElem?_append_right (by omega), lt, this, Nat.sub_self] at h2
      obtain rfl := Option.some.inj h2
      rw [List.getElem?_append_left (by omega)] at h1
      have e2 : i = j - 1 := by omega
      rw [e2, lastb] at h1
      obtain rfl := Option.some.inj h1
      exact add_e_eq W
  · rw [List.length_append, lt, List.length_singleton, Nat.add_sub_cancel, List.getElem?_append_right (by omega), lt, Nat.sub_self] at h
    obtain rfl := Option.some.inj h
    exact .inl (add_n D s _).symm
  · rw [lt, lastb] at h
    obtain rfl := Option.some.inj h
    refine .inr ⟨?_, ?_⟩
    · rw [add_n, Nat.add_sub_cancel]
      exact add_e_eq W
    · rw [add_n, Nat.add_sub_cancel, lt]
      exact dn
/-! names -/
def sg (i : Nat) : Nat := (tl signs36).getD i 0
theorem sg_at : ∀ i, i < 36 → (tl signs36)[i]? = some (sg i) ∧ alnum (sg i) = true := by decide +kernel
theorem sg_inj : ∀ i, i < 36 → ∀ j, j < 36 → sg i = sg j → i = j := by decide +kernel
def nameL (k : Nat) (mark : Int) : List Nat :=
  if mark % 11 = 5 ∧ k < 36 then [sg k] else
  List.replicate (mark % 7).toNat 113 ++ ([sg (k % 36), sg (((k / 36 : Nat) + mark) % 36).toNat] ++ List.replicate (mark / 7 % 5).toNat 113)
theorem nameL_fit (k : Nat) (mark : Int) : fitL (nameL k mark) = true := by
  unfold nameL fitL
  split
  · rename_i c
    rw [List.all_cons, (sg_at k c.2).2]
    rfl
  · have a1 := (sg_at (k % 36) (Nat.mod_lt _ (by decide))).2
    have a2 := (sg_at ((((k / 36 : Nat) : Int) + mark) % 36).toNat (by omega)).2
    rw [List.all_append, List.all_append, List.all_replicate, List.all_replicate, List.all_cons, List.all_cons, a1, a2, List.length_append, List.length_append, List.length_replicate, List.length_replicate]
    simp only [List.length_cons, List.length_nil, List.all_nil, Bool.and_true]
    rw [decide_eq_true (by omega), decide_eq_true (by omega)]
    have : alnum 113 = true := by decide
    rw [this]
    simp
theorem nameL_inj {k k' : Nat} {mark : Int} (h : k < 64) (h' : k' < 64) (e : nameL k mark = nameL k' mark) : k = k' := by
  unfold nameL at e
  split at e
  · rename_i c
    split at e
    · rename_i c'
      exact sg_inj k c.2 k' c'.2 (List.cons.inj e).1
    · have := congrArg List.length e
      simp at this
      omega
  · rename_i c
    split at e
    · have := congrArg List.length e
      simp at this
      omega
    · have e := List.append_cancel_left e
      have e := List.append_cancel_right e
      obtain ⟨e1, e2⟩ := List.cons.inj e
      have e2 := (List.cons.inj e2).1
      have h1 := sg_inj _ (Nat.mod_lt k (by decide)) _ (Nat.mod_lt k' (by decide)) e1
      have h2 := sg_inj _ (by omega) _ (by omega) e2
      omega
end Mn

namespace Mn
open PySem PySem.Spec PyProof.Rows L2 TL
/-! ### a tree's text, written -/
def rowTextL (D : TreeD) (i : Nat) : List Nat := List.replicate (2 * D.dp i) 32 ++ joinL [32] ((shW (D.sh i) ++ [(D.sh i).name]).map tl)
def writtenL (D : TreeD) : List Nat := joinL [10] ((List.range D.n).map (rowTextL D))
theorem num_len {i : Int} (h : 0 ≤ i ∧ i ≤ 1000000) : (Str.ofString (toString i)).length ≤ 7 := by
  obtain ⟨n, rfl⟩ : ∃ n : Nat, i = (n : Int) := ⟨i.toNat, by omega⟩
  rw [len_tl, tl_num]
  exact numL_len (by decide) (show n < 10 ^ 7 by omega)
theorem shW_len {s : Shp} (ok : OkS s) : (∀ x ∈ shW s ++ [s.name], x.length ≤ 12) ∧ (shW s ++ [s.name]).length ≤ 7 := by
  obtain ⟨k, nm, kp, a, b, m⟩ := s
  have f1 : kp.length ≤ 6 := (by decide +kernel : ∀ k ∈ keeps3, k.length ≤ 6) kp ok.kp
  have f2 := num_len ok.a0
  have f3 := num_len ok.b0
  have f4 := num_len ok.m0
  have f5 : nm.length ≤ 12 := by rw [len_tl]; exact (by have := ok.nm; unfold fitL at this; rw [Bool.and_eq_true, Bool.and_eq_true, decide_eq_true_eq, decide_eq_true_eq] at this; exact this.1.2)
  have lits : ∀ x ∈ (["leaf", "idle", "steady", "falls", "minder", "one", "all", "rest"] : List Str), x.length ≤ 12 := by decide +kernel
  have g := ok.kd
  dsimp only at f2 f3 f4 g
  rcases kind6 g with rfl | rfl | rfl | rfl | rfl | rfl
  · rw [shW_0]
    refine ⟨fun x hx => ?_, by show 6 ≤ 7; decide⟩
    simp only [List.cons_append, List.nil_append, List.mem_cons, List.not_mem_nil, or_false] at hx
    rcases hx with rfl | rfl | rfl | rfl | rfl | rfl
    · exact lits _ (by decide)
    · omega
    · omega
    · omega
    · exact lits _ (by decide)
    · exact f5
  · rw [shW_1]
    refine ⟨fun x hx => ?_, by show 7 ≤ 7; decide⟩
    simp only [List.cons_append, List.nil_append, List.mem_cons, List.not_mem_nil, or_false] at hx
    rcases hx with rfl | rfl | rfl | rfl | rfl | rfl | rfl
    · exact lits _ (by decide)
    · omega
    · omega
    · omega
    · exact lits _ (by decide)
    · omega
    · exact f5
  · rw [shW_2]
    refine ⟨fun x hx => ?_, by show 7 ≤ 7; decide⟩
    simp only [List.cons_append, List.nil_append, List.mem_cons, List.not_mem_nil, or_false] at hx
    rcases hx with rfl | rfl | rfl | rfl | rfl | rfl | rfl
    · exact lits _ (by decide)
    · omega
    · omega
    · omega
    · exact lits _ (by decide)
    · omega
    · exact f5
  · rw [shW_3]
    refine ⟨fun x hx => ?_, by show 6 ≤ 7; decide⟩
    simp only [List.cons_append, List.nil_append, List.mem_cons, List.not_mem_nil, or_false] at hx
    rcases hx with rfl | rfl | rfl | rfl | rfl | rfl
    · exact lits _ (by decide)
    · omega
    · exact lits _ (by decide)
    · omega
    · omega
    · exact f5
  · rw [shW_4]
    refine ⟨fun x hx => ?_, by show 6 ≤ 7; decide⟩
    simp only [List.cons_append, List.nil_append, List.mem_cons, List.not_mem_nil, or_false] at hx
    rcases hx with rfl | rfl | rfl | rfl | rfl | rfl
    · exact lits _ (by decide)
    · omega
    · exact lits _ (by decide)
    · omega
    · omega
    · exact f5
  · rw [shW_5]
    refine ⟨fun x hx => ?_, by show 6 ≤ 7; decide⟩
    simp only [List.cons_append, List.nil_append, List.mem_cons, List.not_mem_nil, or_false] at hx
    rcases hx with rfl | rfl | rfl | rfl | rfl | rfl
    · exact lits _ (by decide)
    · omega
    · exact lits _ (by decide)
    · omega
    · omega
    · exact f5
theorem sum_le {m : Nat} : ∀ ws : List Str, (∀ x ∈ ws, x.length ≤ m) → (ws.map fun x => x.length).sum ≤ ws.length * m
  | [], _ => Nat.zero_le _
  | a :: r, h => by
    have := sum_le r fun x hx => h x (List.mem_cons_of_mem _ hx)
    have h1 := h a List.mem_cons_self
    rw [List.map_cons, List.sum_cons, List.length_cons, Nat.succ_mul]
    omega
theorem joinL_len (S : List Nat) {m : Nat} : ∀ ws : List (List Nat), (∀ p ∈ ws, p.length ≤ m) → (joinL S ws).length ≤ ws.length * (m + S.length)
  | [], _ => Nat.zero_le _
  | [p], h => by
    have := h p List.mem_cons_self
    show p.length ≤ 1 * _
    omega
  | p :: q :: r, h => by
    have := joinL_len S (q :: r) fun x hx => h x (List.mem_cons_of_mem _ hx)
    have h1 := h p List.mem_cons_self
    show (p ++ (S ++ joinL S (q :: r))).length ≤ _
    rw [List.length_append, List.length_append, List.length_cons, Nat.succ_mul]
    omega
theorem tl_joinT (y : Str) (ws : List Str) : tl (Txt.join y ws) = joinL (tl y) (ws.map tl) := by rw [join_eq, tl_join]
theorem mem_joinL (S : List Nat) {c : Nat} : ∀ ws : List (List Nat), c ∈ joinL S ws → c ∈ S ∨ ∃ p ∈ ws, c ∈ p
  | [], h => absurd h List.not_mem_nil
  | [p], h => .inr ⟨p, List.mem_cons_self, h⟩
  | p :: q :: r, h => by
    have h : c ∈ p ++ (S ++ joinL S (q :: r)) := h
    rcases List.mem_append.mp h with h | h
    · exact .inr ⟨p, List.mem_cons_self, h⟩
    rcases List.mem_append.mp h with h | h
    · exact .inl h
    rcases mem_joinL S (q :: r) h with h | ⟨x, hx, h⟩
    · exact .inl h
    · exact .inr ⟨x, List.mem_cons_of_mem _ hx, h⟩
theorem row_free {D : TreeD} (W : D.WF) {i : Nat} (hi : i < D.n) : 10 ∉ rowTextL D i := by
  intro h
  unfold rowTextL at h
  rcases List.mem_append.mp h with h | h
  · have := (List.mem_replicate.mp h).2
    omega
  rcases mem_joinL _ _ h with h | ⟨p, hp, h⟩
  · have := List.mem_singleton.mp h
    omega
  · obtain ⟨x, hx, rfl⟩ := List.mem_map.mp hp
    exact (shW_free (W.ok _ (sh_mem hi)) x hx).1.2 h
theorem good_plain {D : TreeD} (W : D.WF) {i : Nat} (hi : i < D.n) : GoodRow D i (rowTextL D i) :=
  ⟨[], [], rowTextL D i, by rw [splitL_free (row_free W hi)]; rfl, fun p hp => absurd hp List.not_mem_nil, fun p hp => absurd hp List.not_mem_nil, 0, 0, by
    rw [List.replicate_zero, List.append_nil]
    rfl⟩
theorem rowText_len {D : TreeD} (W : D.WF) {i : Nat} (hi : i < D.n) : (rowTextL D i).length ≤ 107 := by
  have ok := W.ok _ (sh_mem hi)
  have d8 := W.d8 i hi
  unfold rowTextL
  rw [List.length_append, List.length_replicate]
  have := joinL_len (m := 12) [32] ((shW (D.sh i) ++ [(D.sh i).name]).map tl) fun p hp => by
    obtain ⟨x, hx, rfl⟩ := List.mem_map.mp hp
    rw [← len_tl]
    exact (shW_len ok).1 x hx
  have h2 : ((shW (D.sh i) ++ [(D.sh i).name]).map tl).length * (12 + [32].length) ≤ 7 * 13 := by
    rw [List.length_map]
    exact Nat.mul_le_mul (shW_len ok).2 (Nat.le_refl _)
  omega
/-- a text of the rows as they are told is read as the tree -/
theorem read_written {D : TreeD} (g : Good D) {x : Str} (hx : tl x = writtenL D) : readM x = .ok D ∧ (∀ r ∈ rowsM x, r.length ≤ 640) ∧ x.length ≤ 100000 := by
  have W := g.wf
  refine ⟨read_good g _ hx fun i hi => good_plain W hi, rows_len g _ hx fun i hi => Nat.le_trans (rowText_len W hi) (by decide), ?_⟩
  rw [len_tl, hx]
  have := joinL_len (m := 107) [10] ((List.range D.n).map (rowTextL D)) fun p hp => by
    obtain ⟨i, hi, rfl⟩ := List.mem_map.mp hp
    exact rowText_len W (List.mem_range.mp hi)
  have sz := W.sz
  have h2 : ((List.range D.n).map (rowTextL D)).length * (107 + [10].length) ≤ 64 * 108 := by
    rw [List.length_map, List.length_range]
    exact Nat.mul_le_mul sz (Nat.le_refl _)
  unfold writtenL
  omega
end Mn

namespace Mn
open PySem
/-! ### bits of rows -/
def bitsOf : List Bool → Nat
  | [] => 0
  | b :: r => (if b then 1 else 0) + 2 * bitsOf r
theorem bitsOf_bit : ∀ (l : List Bool) (k : Nat), (bitsOf l).testBit k = l.getD k false
  | [], k => by simp [bitsOf]
  | b :: r, 0 => by cases b <;> simp [bitsOf, Nat.testBit_zero, Nat.add_mul_mod_self_left]
  | b :: r, k + 1 => by
    have e : (bitsOf (b :: r)) / 2 = bitsOf r := by cases b <;> simp [bitsOf] <;> omega
    rw [Nat.testBit_succ, e, bitsOf_bit r k]
    simp
theorem bitsOf_snoc : ∀ (l : List Bool) (b : Bool), bitsOf (l ++ [b]) = bitsOf l + if b then 2 ^ l.length else 0
  | [], b => by cases b <;> simp [bitsOf]
  | c :: r, b => by
    rw [List.cons_append, bitsOf, bitsOf_snoc r b, bitsOf, List.length_cons, Nat.pow_succ]
    cases b <;> simp <;> omega
theorem bitsOf_lt : ∀ l : List Bool, bitsOf l < 2 ^ l.length
  | [] => by simp [bitsOf]
  | b :: r => by
    have := bitsOf_lt r
    rw [bitsOf, List.length_cons, Nat.pow_succ]
    cases b <;> simp <;> omega
theorem bitsOf_eq {l : List Bool} {n : Nat} (h : ∀ k, n.testBit k = l.getD k false) : bitsOf l = n :=
  Nat.eq_of_testBit_eq fun k => (bitsOf_bit l k).trans (h k).symm
def andNot (a b : Nat) : Nat := a ^^^ (a &&& b)
theorem andNot_bit (a b k : Nat) : (andNot a b).testBit k = (a.testBit k && !b.testBit k) := by
  unfold andNot
  rw [Nat.testBit_xor, Nat.testBit_and]
  cases a.testBit k <;> cases b.testBit k <;> rfl
theorem andNot_add (a b : Nat) : andNot a b + (a &&& b) = a := by
  have h := Bits.nat_xor_add_and a (a &&& b)
  have e : a &&& (a &&& b) = a &&& b := by
    refine Nat.eq_of_testBit_eq fun k => ?_
    rw [Nat.testBit_and, Nat.testBit_and]
    cases a.testBit k <;> simp
  rw [e] at h
  unfold andNot
  omega
theorem and_not_int (a b : Nat) : Builtin.bitAnd (a : Int) (Builtin.bitNot (b : Int)) = ((andNot a b : Nat) : Int) := by
  rw [PyProof.Rows.bitAnd_not, PyProof.Rows.bitAnd_pp (by omega) (by omega), Int.toNat_natCast, Int.toNat_natCast]
  have := andNot_add a b
  omega
theorem and_int (a b : Nat) : Builtin.bitAnd (a : Int) (b : Int) = ((a &&& b : Nat) : Int) := by
  rw [PyProof.Rows.bitAnd_pp (by omega) (by omega), Int.toNat_natCast, Int.toNat_natCast]
theorem or_int (a b : Nat) : Builtin.bitOr (a : Int) (b : Int) = ((a ||| b : Nat) : Int) := by
  rw [Bits.bitOr_pp (by omega) (by omega), Int.toNat_natCast, Int.toNat_natCast]
theorem xor_int (a b : Nat) : Builtin.bitXor (a : Int) (b : Int) = ((a ^^^ b : Nat) : Int) := by
  rw [Bits.bitXor_pp (by omega) (by omega), Int.toNat_natCast, Int.toNat_natCast]
theorem shl_int (n : Nat) : (1 : Int) * 2 ^ ((n : Int)).toNat = ((2 ^ n : Nat) : Int) := by
  rw [Int.toNat_natCast, Int.one_mul]
  exact (Int.natCast_pow 2 n).symm
theorem below_int (n : Nat) : (1 : Int) * 2 ^ ((n : Int)).toNat - 1 = ((2 ^ n - 1 : Nat) : Int) := by
  rw [shl_int]
  have := Nat.two_pow_pos n
  omega
/-! ### the three ways -/
def chOne (p _c _o _g : Nat) : Nat × Nat := (0, 2 ^ p)
def chAll (_p c o g : Nat) : Nat × Nat := (o, andNot (2 ^ c - 1) g)
def chRest (p c o g : Nat) : Nat × Nat := (o &&& ((2 ^ c - 1) ^^^ (2 ^ (p + 1) - 1)), andNot (((2 ^ c - 1) ^^^ (2 ^ (p + 1) - 1)) ||| 2 ^ p) g)
end Mn
namespace Mn
/-- what the law reckons by rows: who is put away, who is begun -/
def putB (way : Int) (p : Nat) (k : Nat) (o : Bool) : Bool := if way = 0 then false else if way = 1 then o else (o && decide (p < k))
def anewB (way : Int) (p : Nat) (k : Nat) (g : Bool) : Bool := if way = 0 then decide (k = p) else if way = 1 then !g else (decide (p ≤ k) && !g)
def putL (way : Int) (p : Nat) (on : List Bool) : List Bool := (List.range on.length).map fun k => putB way p k (on.getD k false)
def anewL (way : Int) (p : Nat) (good : List Bool) (n : Nat) : List Bool := (List.range n).map fun k => anewB way p k (good.getD k false)
theorem getD_map_range {α : Type} (f : Nat → α) (n k : Nat) (d : α) : ((List.range n).map f).getD k d = if k < n then f k else d := by
  by_cases h : k < n
  · simp [List.getD, List.getElem?_map, h]
  · rw [if_neg h]
    simp [List.getD, List.getElem?_eq_none, Nat.le_of_not_lt h]
def chOf (way : Int) : Nat → Nat → Nat → Nat → Nat × Nat := if way = 0 then chOne else if way = 1 then chAll else chRest
theorem put_is (way : Int) (p : Nat) (on good : List Bool) (hp : p < on.length) : bitsOf (putL way p on) = (chOf way p on.length (bitsOf on) (bitsOf good)).1 := by
  refine bitsOf_eq fun k => ?_
  unfold putL
  rw [getD_map_range]
  unfold chOf putB
  by_cases h0 : way = 0
  · simp [h0, chOne]
  · by_cases h1 : way = 1
    · simp only [if_neg h0, if_pos h1, chAll, bitsOf_bit]
      by_cases hk : k < on.length
      · simp [hk]
      · simp [hk, List.getD, List.getElem?_eq_none (Nat.le_of_not_lt hk)]
    · simp only [h0, h1, if_false, chRest, Nat.testBit_and, Nat.testBit_xor, Nat.testBit_two_pow_sub_one, bitsOf_bit]
      by_cases hk : k < on.length
      · by_cases hq : p < k
        · have : ¬ k < p + 1 := by omega
          simp [hk, hq, this]
        · have : k < p + 1 := by omega
          simp [hk, hq, this]
      · simp [hk, List.getD, List.getElem?_eq_none (Nat.le_of_not_lt hk)]
theorem anew_is (way : Int) (p : Nat) (on good : List Bool) (hp : p < on.length) : bitsOf (anewL way p good on.length) = (chOf way p on.length (bitsOf on) (bitsOf good)).2 := by
  refine bitsOf_eq fun k => ?_
  unfold anewL
  rw [getD_map_range]
  unfold chOf anewB
  by_cases h0 : way = 0
  · simp only [h0, chOne, Nat.testBit_two_pow, if_true]
    by_cases hk : k < on.length
    · simp only [hk, if_true]
      exact decide_eq_decide.mpr eq_comm
    · rw [if_neg hk]
      exact decide_eq_false (by omega)
  · by_cases h1 : way = 1
    · simp only [if_neg h0, if_pos h1, chAll, andNot_bit, Nat.testBit_two_pow_sub_one, bitsOf_bit]
      by_cases hk : k < on.length <;> simp [hk]
    · simp only [h0, h1, if_false, chRest, andNot_bit, Nat.testBit_or, Nat.testBit_xor, Nat.testBit_two_pow_sub_one, Nat.testBit_two_pow, bitsOf_bit]
      by_cases hk : k < on.length
      · by_cases hq : p ≤ k
        · by_cases hr : p = k
          · subst hr
            simp [hk]
          · have : ¬ k < p + 1 := by omega
            simp [hk, hq, this, hr]
        · have h3 : k < p + 1 := by omega
          have h4 : ¬ p = k := by omega
          simp [hk, hq, h3, h4]
      · have h3 : ¬ k < p + 1 := by omega
        have h4 : ¬ p = k := by omega
        simp [hk, h3, h4]
end Mn

namespace Mn
open PySem L2
/-- recent: those less than the span ahead -/
def recF (c s : Int) (ns : List Int) : List Int := ns.filter fun t => decide (c - t < s)
theorem recF_le (c s : Int) (ns : List Int) : (recF c s ns).length ≤ ns.length := List.length_filter_le _ _
theorem recF_map (c s : Int) (ns : List Int) : (ns.map V.int).filterMap (fun v => match v with | .int t => if c - t < s then some (.int t) else none | _ => none) = (recF c s ns).map V.int := by
  induction ns with
  | nil => rfl
  | cons n r ih =>
    unfold recF at ih ⊢
    by_cases h : c - n < s <;> simp [h, ih]
end Mn

namespace Mn
open PySem PySem.Spec PyProof.Rows L2 TL
/-! ### the house as the program keeps it, in plain Lean -/
inductive Ph where
  | off | on | told | turning | down
deriving DecidableEq, Inhabited
def Ph.s : Ph → Str
  | .off => "off" | .on => "on" | .told => "told" | .turning => "turning" | .down => "down"
inductive Wd where
  | begun | told | done | fallen | ended | cut | answers | givesup | gaveup
deriving DecidableEq, Inhabited
def Wd.s : Wd → Str
  | .begun => "begun" | .told => "told" | .done => "done" | .fallen => "fallen" | .ended => "ended" | .cut => "cut" | .answers => "answers" | .givesup => "gives up" | .gaveup => "gave up"
structure Post where
  phase : Ph := .off
  planned : Bool := false
  born : Nat := 0
  steps : Nat := 0
  slow : Int := 0
  grace : Int := 0
  good : Nat := 0
  put : Nat := 0
  anew : Nat := 0
  falls : List Int := []
  waiting : List Nat := []
  gave : Bool := false
deriving Inhabited
structure Ent where
  t : Nat
  w : Wd
  a : Nat
structure HS where
  clock : Nat
  book : List Ent
  posts : Nat → Post
  heard : List (Nat × Bool)
def HS.put (h : HS) (i : Nat) (p : Post) : HS := { h with posts := fun j => if j = i then p else h.posts j }
def HS.note (h : HS) (w : Wd) (i : Nat) : HS := { h with book := h.book ++ [⟨h.clock, w, i⟩] }
def TreeD.yng (D : TreeD) (i : Nat) : List Nat := yngOf D.eld i
def TreeD.place (D : TreeD) (i : Nat) : Nat := (D.yng (D.e i).toNat).findIdx (fun j => decide (j = i))
def HS.onOf (D : TreeD) (h : HS) (i : Nat) : Nat := bitsOf ((D.yng i).map fun c => decide ((h.posts c).phase ≠ .off))
/-- those below, a minder ahead of its children -/
def subF (D : TreeD) : Nat → Nat → List Nat
  | 0, _ => []
  | f + 1, i => i :: (D.yng i).flatMap (subF D f)
def TreeD.sub (D : TreeD) (i : Nat) : List Nat := subF D (9 - D.dp i) i
def HS.fresh (h : HS) (i : Nat) : HS := (h.put i { phase := .on, born := h.clock }).note .begun i
def HS.begin (D : TreeD) (h : HS) (i : Nat) : HS := (D.sub i).foldl HS.fresh h
def HS.over (D : TreeD) (h : HS) (i : Nat) (w : Wd) : HS :=
  let p := h.posts i
  let h1 := (h.put i { p with phase := .off }).note w i
  if D.e i < 0 then h1 else
  let e := (D.e i).toNat
  let h2 := if p.planned = false ∧ again (D.sh i).keep w.s = false then h1.put e { h1.posts e with good := (h1.posts e).good ||| 2 ^ D.place i } else h1
  { h2 with heard := h2.heard ++ [(i, p.planned)] }
def HS.ease (D : TreeD) (h : HS) (i : Nat) : HS :=
  if (h.posts i).slow = 0 then h.over D i .ended else if (h.posts i).grace = 0 then h.over D i .cut else h
def chK (k : Nat) : Nat → Nat → Nat → Nat → Nat × Nat := if k = 3 then chOne else if k = 4 then chAll else chRest
def placesOf (b : Nat) : List Nat := (List.range (bitLen b)).filter fun k => b.testBit k
inductive Op where
  | tell (i : Nat)
  | goDown (i : Nat) (gave : Bool)
  | goOn (i : Nat)
  | comeUp (i : Nat)
  | decide (e i : Nat)
/-- the loop that puts children away; true: it waits for the one that was told -/
abbrev LIM : Nat := 10000000
structure HS.okB (D : TreeD) (h : HS) : Prop where
  bk : h.book.length < LIM
  hd : h.heard.length < LIM
  wa : ∀ i, i < D.n → (h.posts i).waiting.length < LIM
  fa : ∀ i, i < D.n → (h.posts i).falls.length < LIM
  po : ∀ i, i < D.n → (h.posts i).put < 2 ^ (D.yng i).length ∧ (h.posts i).anew < 2 ^ (D.yng i).length ∧ ∀ d ∈ (h.posts i).waiting, d < D.n ∧ D.e d = (i : Int)
  he : ∀ x ∈ h.heard, x.1 < D.n ∧ 0 ≤ D.e x.1
open Classical in
noncomputable def goLoop (D : TreeD) (tell : Nat → HS → Option HS) (i : Nat) : Nat → HS → Option (HS × Bool)
  | 0, _ => none
  | k + 1, h => if ¬ h.okB D then none else
    if (h.posts i).put = 0 then some (h, false) else
    let pl := (h.posts i).put.log2
    let c := (D.yng i).getD pl 0
    match (if (h.posts c).phase ≠ .off ∧ (h.posts c).planned = false then tell c h else some h) with
    | none => none
    | some h1 =>
      if (h1.posts c).phase ≠ .off then some (h1, true)
      else goLoop D tell i k (h1.put i { h1.posts i with put := andNot (h1.posts i).put (2 ^ pl) })
open Classical in
noncomputable def waitLoop (D : TreeD) (dec : Nat → HS → Option HS) (i : Nat) : List Nat → HS → Option HS
  | [], h => some h
  | c :: r, h => if ¬ (h.okB D ∧ c < D.n ∧ D.e c = (i : Int)) then none else
    if (h.posts c).phase = .off ∧ (h.posts i).phase = .on then
      match dec c h with
      | none => none
      | some h1 => waitLoop D dec i r h1
    else if (h.posts c).phase = .off ∧ (h.posts i).phase = .turning then waitLoop D dec i r (h.put i { h.posts i with waiting := (h.posts i).waiting ++ [c] })
    else waitLoop D dec i r h
open Classical in
/-- an operation, so deep at most; none: too deep, or a list too long -/
noncomputable def run (D : TreeD) : Nat → Op → HS → Option HS
  | 0, _, _ => none
  | f + 1, op, h => if ¬ h.okB D then none else match op with
  | .tell i =>
    let h1 := (h.put i { h.posts i with planned := true }).note .told i
    if (D.sh i).kind < 3 then some ((h1.put i { h1.posts i with phase := .told, slow := (D.sh i).b, grace := (D.sh i).a }).ease D i)
    else if (h1.posts i).phase ≠ .down then run D f (.goDown i false) h1 else some h1
  | .goDown i gave =>
    let h1 := h.put i { h.posts i with phase := .down, gave := gave, anew := 0, waiting := [] }
    run D f (.goOn i) (h1.put i { h1.posts i with put := h1.onOf D i })
  | .goOn i =>
    match goLoop D (fun c h => run D f (.tell c) h) i 65 h with
    | none => none
    | some (h1, true) => some h1
    | some (h1, false) =>
      if (h1.posts i).phase = .down then some (h1.over D i (if (h1.posts i).gave then .gaveup else .ended))
      else run D f (.comeUp i) h1
  | .comeUp i =>
    let h1 := h.put i { h.posts i with phase := .on }
    let h2 := (placesOf (andNot (h1.posts i).anew (h1.posts i).good)).foldl (fun h pl => h.begin D ((D.yng i).getD pl 0)) h1
    let w := (h2.posts i).waiting
    let h3 := h2.put i { h2.posts i with anew := 0, waiting := [] }
    waitLoop D (fun c h => run D f (.decide i c) h) i w h3
  | .decide e i =>
    let p := h.posts e
    if p.good.testBit (D.place i) = true then some h
    else if ((recF h.clock (D.sh e).b p.falls).length : Int) + 1 > (D.sh e).a then run D f (.goDown e true) (h.note .givesup e)
    else
      let h1 := (h.put e { p with falls := recF h.clock (D.sh e).b p.falls ++ [(h.clock : Int)] }).note .answers i
      let ch := chK (D.sh e).kind (D.place i) (D.yng e).length (h1.onOf D e) p.good
      run D f (.goOn e) (h1.put e { h1.posts e with put := ch.1, anew := ch.2, phase := .turning })
abbrev FUEL : Nat := 40
open Classical in
noncomputable def HS.hear (D : TreeD) (h : HS) (i : Nat) (planned : Bool) : Option HS :=
  if ¬ h.okB D then none else
  let e := (D.e i).toNat
  let ph := (h.posts e).phase
  if planned = true then (if ph = .turning ∨ ph = .down then run D FUEL (.goOn e) h else some h)
  else if (h.posts i).phase = .off ∧ ph = .on then run D FUEL (.decide e i) h
  else if (h.posts i).phase = .off ∧ ph = .turning then some (h.put e { h.posts e with waiting := (h.posts e).waiting ++ [i] })
  else some h
open Classical in
noncomputable def HS.settle (D : TreeD) : Nat → HS → Option HS
  | 0, _ => none
  | k + 1, h => if ¬ h.okB D then none else match h.heard with
    | [] => some h
    | (i, pl) :: r => match HS.hear D { h with heard := r } i pl with
      | none => none
      | some h1 => HS.settle D k h1
def endW (s : Shp) (steps : Nat) : Option Wd := if s.kind = 0 then none else if (steps : Int) = s.m then some (if s.kind = 1 then .done else .fallen) else none
def HS.step (D : TreeD) (h : HS) (i : Nat) : HS :=
  let p := h.posts i
  if p.phase = .told then HS.ease D (h.put i { p with slow := p.slow - 1, grace := p.grace - 1 }) i
  else
    let h1 := h.put i { p with steps := p.steps + 1 }
    match endW (D.sh i) p.steps with
    | none => h1
    | some w => h1.over D i w
def SET : Nat := 10000000
open Classical in
noncomputable def HS.turnAt (D : TreeD) (h : HS) (i : Nat) : Option HS :=
  if ¬ h.okB D then none else
  if (D.sh i).kind < 3 ∧ (h.posts i).phase ≠ .off ∧ (h.posts i).born < h.clock then HS.settle D SET (h.step D i) else some h
noncomputable def turnL' (D : TreeD) : List Nat → HS → Option HS
  | [], h => some h
  | i :: r, h => match h.turnAt D i with
    | none => none
    | some h1 => turnL' D r h1
noncomputable def HS.turn (D : TreeD) (h : HS) : Option HS := turnL' D (List.range D.n) { h with clock := h.clock + 1 }
def HS.built (D : TreeD) : HS := HS.begin D { clock := 0, book := [], posts := fun _ => {}, heard := [] } 0
end Mn

namespace Mn
open PySem PySem.Spec PyProof.Rows L2 TL
/-! ### those below -/
theorem mem_yng {D : TreeD} (W : D.WF) {i j : Nat} : j ∈ D.yng i ↔ j < D.n ∧ D.e j = (i : Int) := by
  unfold TreeD.yng yngOf TreeD.e
  rw [List.mem_filter, List.mem_range, decide_eq_true_eq, W.le]
theorem yng_nodup (D : TreeD) (i : Nat) : (D.yng i).Nodup := List.Pairwise.filter _ List.nodup_range
theorem yng_len {D : TreeD} (W : D.WF) (i : Nat) : (D.yng i).length ≤ 64 := by
  unfold TreeD.yng yngOf
  have := List.length_filter_le (fun j => decide (D.eld.getD j (-1) = (i : Int))) (List.range D.eld.length)
  rw [List.length_range] at this
  have := W.sz
  have := W.le
  omega
theorem yng_gt {D : TreeD} (W : D.WF) {i j : Nat} (h : j ∈ D.yng i) : i < j ∧ j < D.n ∧ D.dp j = D.dp i + 1 := by
  obtain ⟨h1, h2⟩ := (mem_yng W).mp h
  have a := W.el j h1
  have b := W.dp j h1
  rw [h2] at a b
  rw [if_neg (by omega), Int.toNat_natCast] at b
  exact ⟨by omega, h1, b⟩
theorem sub_mem {D : TreeD} (W : D.WF) : ∀ (f i j : Nat), i < D.n → j ∈ subF D f i → i ≤ j ∧ j < D.n ∧ (j = i ∨ ∃ c ∈ D.yng i, j ∈ subF D (f - 1) c)
  | 0, i, j, _, h => absurd h List.not_mem_nil
  | f + 1, i, j, hi, h => by
    rcases List.mem_cons.mp h with h | h
    · subst h
      exact ⟨Nat.le_refl _, hi, .inl rfl⟩
    · obtain ⟨c, hc, h⟩ := List.mem_flatMap.mp h
      obtain ⟨h1, h2, _⟩ := yng_gt W hc
      obtain ⟨h4, h5, _⟩ := sub_mem W f c j h2 h
      exact ⟨by omega, h5, .inr ⟨c, hc, h⟩⟩
/-- the one above j that stands at the depth of i -/
theorem sub_climb {D : TreeD} (W : D.WF) : ∀ (f i j : Nat), i < D.n → j ∈ subF D f i → climb D ((D.dp i + 1 : Nat) : Int) (D.n + 1) (j : Int) = (i : Int)
  | 0, i, j, _, h => absurd h List.not_mem_nil
  | f + 1, i, j, hi, h => by
    rcases List.mem_cons.mp h with h | h
    · subst h
      rw [climb, if_neg]
      rintro ⟨_, z⟩
      rw [Int.toNat_natCast] at z
      omega
    · obtain ⟨c, hc, h⟩ := List.mem_flatMap.mp h
      obtain ⟨h1, h2, h3⟩ := yng_gt W hc
      have hj := (sub_mem W f c j h2 h)
      have ih := sub_climb W f c j h2 h
      -- climbing on from c one step more
      have go : ∀ (m : Nat) (x : Int), -1 ≤ x → x < D.n → x < (m : Int) → climb D ((D.dp c + 1 : Nat) : Int) m x = (c : Int) → climb D ((D.dp i + 1 : Nat) : Int) (D.n + 1) x = (i : Int) := fun m => by
        induction m with
        | zero =>
          intro x a1 a2 a3 e
          have e : x = (c : Int) := e
          omega
        | succ m ihm =>
          intro x a1 a2 a3 e
          rw [climb] at e
          split at e
          · rename_i z
            have el := W.e_lt (i := x.toNat) (by omega)
            have := ihm _ el.1 (by omega) (by omega) e
            rw [climb, if_pos ⟨z.1, by omega⟩]
            rw [climb_more W _ D.n (D.e x.toNat) el.1 (by omega) (by omega) (D.n + 1) (by omega)] at this
            exact this
          · subst e
            have ec := ((mem_yng W).mp hc).2
            rw [climb, if_pos ⟨by omega, by rw [Int.toNat_natCast]; omega⟩, Int.toNat_natCast, ec]
            have hn : 0 < D.n := by omega
            obtain ⟨k, ek⟩ : ∃ k, D.n = k + 1 := ⟨D.n - 1, by omega⟩
            rw [ek, climb, if_neg]
            rintro ⟨_, z⟩
            rw [Int.toNat_natCast] at z
            omega
      exact go (D.n + 1) j (by omega) (by omega) (by omega) ih
theorem subs_nodup_of {D : TreeD} (W : D.WF) (f i : Nat) (ih : ∀ c, c < D.n → (subF D f c).Nodup) : ∀ (l : List Nat), (∀ c ∈ l, c ∈ D.yng i) → l.Nodup → (l.flatMap (subF D f)).Nodup
  | [], _, _ => List.nodup_nil
  | c :: r, h, nd => by
    rw [List.nodup_cons] at nd
    rw [List.flatMap_cons, List.nodup_append]
    have hc := yng_gt W (h c List.mem_cons_self)
    refine ⟨ih c hc.2.1, subs_nodup_of W f i ih r (fun d hd => h d (List.mem_cons_of_mem _ hd)) nd.2, fun a ha b hb e => ?_⟩
    subst e
    obtain ⟨d, hd, hb⟩ := List.mem_flatMap.mp hb
    have hd' := yng_gt W (h d (List.mem_cons_of_mem _ hd))
    have e1 := sub_climb W f c a hc.2.1 ha
    have e2 := sub_climb W f d a hd'.2.1 hb
    rw [hc.2.2] at e1
    rw [hd'.2.2] at e2
    have : c = d := by omega
    exact nd.1 (this ▸ hd)
theorem sub_nodup {D : TreeD} (W : D.WF) : ∀ (f i : Nat), i < D.n → (subF D f i).Nodup
  | 0, _, _ => List.nodup_nil
  | f + 1, i, hi => by
    show (i :: (D.yng i).flatMap (subF D f)).Nodup
    rw [List.nodup_cons]
    refine ⟨fun hm => ?_, subs_nodup_of W f i (fun c hc => sub_nodup W f c hc) (D.yng i) (fun c hc => hc) (yng_nodup D i)⟩
    obtain ⟨c, hc, h⟩ := List.mem_flatMap.mp hm
    obtain ⟨h1, h2, _⟩ := yng_gt W hc
    have := (sub_mem W f c i h2 h).1
    omega
theorem subs_nodup {D : TreeD} (W : D.WF) (f i : Nat) (l : List Nat) (h : ∀ c ∈ l, c ∈ D.yng i) (nd : l.Nodup) : (l.flatMap (subF D f)).Nodup := subs_nodup_of W f i (fun c hc => sub_nodup W f c hc) l h nd
theorem sub_step {D : TreeD} (W : D.WF) {i : Nat} (hi : i < D.n) : D.sub i = i :: (D.yng i).flatMap D.sub := by
  have d8 := W.d8 i hi
  unfold TreeD.sub
  obtain ⟨k, e⟩ : ∃ k, 9 - D.dp i = k + 1 := ⟨8 - D.dp i, by omega⟩
  rw [e]
  show i :: (D.yng i).flatMap (subF D k) = _
  congr 1
  have : ∀ l : List Nat, (∀ c ∈ l, c ∈ D.yng i) → l.flatMap (subF D k) = l.flatMap fun j => subF D (9 - D.dp j) j := fun l => by
    induction l with
    | nil => exact fun _ => rfl
    | cons c r ih =>
      intro h
      have hc := yng_gt W (h c List.mem_cons_self)
      rw [List.flatMap_cons, List.flatMap_cons, ih fun d hd => h d (List.mem_cons_of_mem _ hd), show 9 - D.dp c = k by omega]
  exact this _ fun c hc => hc
theorem place_of {D : TreeD} (W : D.WF) {i : Nat} (hi : i < D.n) (h0 : 0 ≤ D.e i) : D.place i < (D.yng (D.e i).toNat).length ∧ (D.yng (D.e i).toNat).getD (D.place i) 0 = i := by
  have hm : i ∈ D.yng (D.e i).toNat := (mem_yng W).mpr ⟨hi, by omega⟩
  have h : D.place i < (D.yng (D.e i).toNat).length := List.findIdx_lt_length_of_exists ⟨i, hm, decide_eq_true rfl⟩
  refine ⟨h, ?_⟩
  have := List.findIdx_getElem (w := h)
  rw [List.getD_eq_getElem?_getD, List.getElem?_eq_getElem h]
  exact of_decide_eq_true this
end Mn

namespace Mn
open PySem PySem.Spec PyProof.Rows L2 TL
/-! ### what is still to come: a bound of the book's length and of all that waits -/
def potB (D : TreeD) : Nat := 4 * D.n
def potU (D : TreeD) : Nat := 4 * D.n + 2
def wsum (D : TreeD) (l : List Nat) : Nat := (l.map fun c => potU D * D.dp c).sum
def pot (D : TreeD) (i : Nat) (p : Post) : Nat := (if p.phase = .off then 0 else if p.planned = true then 2 else 3) + (if p.phase = .turning then potB D else 0) + wsum D p.waiting + (if p.phase = .down ∧ p.gave = true ∧ p.planned = false then potU D * D.dp i else 0)
def heardW (D : TreeD) (l : List (Nat × Bool)) : Nat := (l.map fun x => 1 + if x.2 = true then 0 else potU D * D.dp x.1).sum
def potS (D : TreeD) (s : HS) : Nat := ((List.range D.n).map fun j => pot D j (s.posts j)).sum
def Phi (D : TreeD) (s : HS) : Nat := s.book.length + potS D s + heardW D s.heard
theorem sum_upd (f g : Nat → Nat) (i : Nat) : ∀ n, i < n → (∀ j, j ≠ i → g j = f j) → ((List.range n).map g).sum + f i = ((List.range n).map f).sum + g i
  | 0, h, _ => absurd h (Nat.not_lt_zero i)
  | n + 1, h, e => by
    rw [List.range_succ, List.map_append, List.map_append, List.sum_append, List.sum_append]
    simp only [List.map_cons, List.map_nil, List.sum_cons, List.sum_nil, Nat.add_zero]
    by_cases hi : i < n
    · have := sum_upd f g i n hi e
      rw [e n (by omega)]
      omega
    · have : i = n := by omega
      subst this
      have : (List.range i).map g = (List.range i).map f := List.map_congr_left fun j hj => e j (by have := List.mem_range.mp hj; omega)
      rw [this]
      omega
theorem pot_put {D : TreeD} {s : HS} {i : Nat} {p : Post} (hi : i < D.n) : potS D (s.put i p) + pot D i (s.posts i) = potS D s + pot D i p := by
  have := sum_upd (fun j => pot D j (s.posts j)) (fun j => pot D j ((s.put i p).posts j)) i D.n hi fun j hj => by show pot D j (if j = i then p else s.posts j) = _; rw [if_neg hj]
  have e : pot D i ((s.put i p).posts i) = pot D i p := by show pot D i (if i = i then p else s.posts i) = _; rw [if_pos rfl]
  rw [e] at this
  exact this
theorem put_same (s : HS) (i : Nat) (p : Post) : (s.put i p).posts i = p := if_pos rfl
theorem put_ne (s : HS) {i j : Nat} (p : Post) (h : j ≠ i) : (s.put i p).posts j = s.posts j := if_neg h
/-- what holds of a post -/
structure PI (D : TreeD) (i : Nat) (p : Post) (bl : Nat) : Prop where
  pl : p.put < 2 ^ (D.yng i).length
  an : p.anew < 2 ^ (D.yng i).length
  wt : p.phase ≠ .turning → p.waiting = []
  we : ∀ c ∈ p.waiting, c < D.n ∧ D.e c = (i : Int)
  gv : p.phase = .down → p.gave = true ∨ p.planned = true
  lf : (D.sh i).kind < 3 → p.phase ≠ .turning ∧ p.phase ≠ .down
  mi : 3 ≤ (D.sh i).kind → p.phase ≠ .told
  tp : p.phase = .told → p.planned = true
  fb : p.falls.length ≤ bl
theorem PI.mono {D : TreeD} {i : Nat} {p : Post} {a b : Nat} (h : PI D i p a) (l : a ≤ b) : PI D i p b := { h with fb := Nat.le_trans h.fb l }
structure SI (D : TreeD) (s : HS) : Prop where
  po : ∀ i, i < D.n → PI D i (s.posts i) s.book.length
  he : ∀ x ∈ s.heard, x.1 < D.n ∧ 0 ≤ D.e x.1
theorem SI.put {D : TreeD} {s : HS} {i : Nat} {p : Post} (h : SI D s) (q : PI D i p s.book.length) : SI D (s.put i p) := by
  refine ⟨fun j hj => ?_, h.he⟩
  show PI D j (if j = i then p else s.posts j) _
  by_cases e : j = i
  · subst e; rw [if_pos rfl]; exact q
  · rw [if_neg e]; exact h.po j hj
theorem SI.note {D : TreeD} {s : HS} (h : SI D s) (w : Wd) (i : Nat) : SI D (s.note w i) := ⟨fun j hj => (h.po j hj).mono (by show _ ≤ (s.book ++ [_]).length; rw [List.length_append]; omega), h.he⟩
theorem phi_note (D : TreeD) (s : HS) (w : Wd) (i : Nat) : Phi D (s.note w i) = Phi D s + 1 := by
  show (s.book ++ [_]).length + potS D s + heardW D s.heard = _
  rw [List.length_append]
  unfold Phi
  simp only [List.length_cons, List.length_nil]
  omega
theorem phi_put {D : TreeD} {s : HS} {i : Nat} {p : Post} (hi : i < D.n) : Phi D (s.put i p) + pot D i (s.posts i) = Phi D s + pot D i p := by
  have := pot_put (s := s) (p := p) hi
  show s.book.length + potS D (s.put i p) + heardW D s.heard + _ = _
  unfold Phi
  omega
structure TP (D : TreeD) (t ext : Nat) (h h' : HS) : Prop where
  si : SI D h'
  le : Phi D h' ≤ Phi D h + ext
  bk : h.book.length ≤ h'.book.length
  fr : ∀ j, j < t → h'.posts j = { h.posts j with good := (h'.posts j).good }
  ck : h'.clock = h.clock
theorem TP.refl {D : TreeD} {t ext : Nat} {h : HS} (s : SI D h) : TP D t ext h h := ⟨s, Nat.le_add_right _ _, Nat.le_refl _, fun _ _ => rfl, rfl⟩
theorem TP.trans {D : TreeD} {t a b c : Nat} {h h1 h2 : HS} (x : TP D t a h h1) (y : TP D t b h1 h2) (e : a + b ≤ c) : TP D t c h h2 :=
  ⟨y.si, by have := x.le; have := y.le; omega, Nat.le_trans x.bk y.bk, fun j hj => by rw [y.fr j hj, x.fr j hj], y.ck.trans x.ck⟩
theorem TP.low {D : TreeD} {t u a b : Nat} {h h1 : HS} (x : TP D t a h h1) (e : u ≤ t) (l : a ≤ b) : TP D u b h h1 := ⟨x.si, by have := x.le; omega, x.bk, fun j hj => x.fr j (by omega), x.ck⟩
/-- nothing of the bounds is reached -/
theorem wsum_len {D : TreeD} (W : D.WF) {i : Nat} : ∀ l : List Nat, (∀ c ∈ l, c < D.n ∧ D.e c = (i : Int)) → l.length ≤ wsum D l
  | [], _ => Nat.zero_le _
  | c :: r, h => by
    have ih := wsum_len W r fun d hd => h d (List.mem_cons_of_mem _ hd)
    obtain ⟨h1, h2⟩ := h c List.mem_cons_self
    have h3 : 1 ≤ D.dp c := by
      rw [W.dp c h1, h2, if_neg (by omega)]
      omega
    unfold wsum at ih ⊢
    rw [List.map_cons, List.sum_cons, List.length_cons]
    have : 1 ≤ potU D * D.dp c := Nat.mul_pos (by unfold potU; omega) h3
    omega
theorem heard_len (D : TreeD) : ∀ l : List (Nat × Bool), l.length ≤ heardW D l
  | [] => Nat.zero_le _
  | c :: r => by
    have ih := heard_len D r
    unfold heardW at ih ⊢
    rw [List.map_cons, List.sum_cons, List.length_cons]
    omega
theorem sum_mem (f : Nat → Nat) : ∀ (n i : Nat), i < n → f i ≤ ((List.range n).map f).sum
  | n + 1, i, h => by
    rw [List.range_succ, List.map_append, List.sum_append]
    simp only [List.map_cons, List.map_nil, List.sum_cons, List.sum_nil, Nat.add_zero]
    by_cases hi : i < n
    · have := sum_mem f n i hi
      omega
    · have : i = n := by omega
      subst this
      omega
theorem SI.okB {D : TreeD} (W : D.WF) {s : HS} (h : SI D s) (l : Phi D s < LIM) : s.okB D := by
  have h1 := heard_len D s.heard
  unfold Phi at l
  refine ⟨by omega, by omega, fun i hi => ?_, fun i hi => ?_, fun i hi => ⟨(h.po i hi).pl, (h.po i hi).an, (h.po i hi).we⟩, h.he⟩
  · have h2 := wsum_len W _ (h.po i hi).we
    have h3 : pot D i (s.posts i) ≤ potS D s := sum_mem (fun j => pot D j (s.posts j)) D.n i hi
    unfold pot at h3
    omega
  · have := (h.po i hi).fb
    omega
/-! #### over -/
theorem heardW_snoc (D : TreeD) (l : List (Nat × Bool)) (x : Nat × Bool) : heardW D (l ++ [x]) = heardW D l + (1 + if x.2 = true then 0 else potU D * D.dp x.1) := by
  unfold heardW
  rw [List.map_append, List.sum_append]
  simp
theorem pot_good (D : TreeD) (i : Nat) (p : Post) (g : Nat) : pot D i { p with good := g } = pot D i p := rfl
theorem PI.good {D : TreeD} {i : Nat} {p : Post} {b : Nat} (h : PI D i p b) (g : Nat) : PI D i { p with good := g } b := ⟨h.pl, h.an, h.wt, h.we, h.gv, h.lf, h.mi, h.tp, h.fb⟩
theorem over_T {D : TreeD} (W : D.WF) {s : HS} {i : Nat} {w : Wd} (h : SI D s) (hi : i < D.n) (ph : (s.posts i).phase ≠ .off) (pt : (s.posts i).phase ≠ .turning) :
    SI D (s.over D i w) ∧ (s.over D i w).clock = s.clock ∧ s.book.length ≤ (s.over D i w).book.length ∧ (∀ j, j ≠ i → (s.over D i w).posts j = { s.posts j with good := ((s.over D i w).posts j).good }) ∧
    ((s.over D i w).posts i) = { s.posts i with phase := .off } ∧ Phi D (s.over D i w) + pot D i (s.posts i) ≤ Phi D s + 2 + (if (s.posts i).planned = true then 0 else potU D * D.dp i) := by
  have q := h.po i hi
  have h1 : SI D ((s.put i { s.posts i with phase := .off }).note w i) := (h.put (p := { s.posts i with phase := .off }) ⟨q.pl, q.an, fun _ => q.wt pt, q.we, (fun z => by cases z), fun _ => ⟨(fun z => by cases z), (fun z => by cases z)⟩, (fun _ z => by cases z), (fun z => by cases z), q.fb⟩).note w i
  have p1 := phi_note D (s.put i { s.posts i with phase := .off }) w i
  have p2 := phi_put (s := s) (p := { s.posts i with phase := .off }) hi
  have p3 : pot D i { s.posts i with phase := .off } = 0 := by
    unfold pot
    rw [if_pos rfl, if_neg (fun z => by cases z), if_neg (fun z => by cases z.1)]
    show 0 + 0 + wsum D (s.posts i).waiting + 0 = 0
    rw [q.wt pt]
    rfl
  have b1 : s.book.length ≤ ((s.put i { s.posts i with phase := .off }).note w i).book.length := by
    show _ ≤ (s.book ++ [_]).length
    rw [List.length_append]
    omega
  have f1 : ∀ j, j ≠ i → ((s.put i { s.posts i with phase := .off }).note w i).posts j = s.posts j := fun j hj => put_ne s _ hj
  have f2 : ((s.put i { s.posts i with phase := .off }).note w i).posts i = { s.posts i with phase := .off } := put_same s i _
  unfold HS.over
  dsimp only
  have c1 : ((s.put i { s.posts i with phase := .off }).note w i).clock = s.clock := rfl
  generalize (s.put i { s.posts i with phase := .off }).note w i = s1 at h1 p1 b1 f1 f2 c1
  by_cases he : D.e i < 0
  · rw [if_pos he]
    exact ⟨h1, c1, b1, fun j hj => by rw [f1 j hj], f2, by omega⟩
  · rw [if_neg he]
    have el := W.el i hi
    have hen : (D.e i).toNat < D.n := by omega
    have hne : (D.e i).toNat ≠ i := by omega
    -- the elder's good
    have key : ∀ s2 : HS, SI D s2 → s2.clock = s.clock → s2.book.length = s1.book.length → s2.heard = s1.heard → (∀ j, j ≠ i → s2.posts j = { s.posts j with good := (s2.posts j).good }) → s2.posts i = { s.posts i with phase := .off } → Phi D s2 = Phi D s1 →
        SI D { s2 with heard := s2.heard ++ [(i, (s.posts i).planned)] } ∧ s2.clock = s.clock ∧ s.book.length ≤ s2.book.length ∧ (∀ j, j ≠ i → s2.posts j = { s.posts j with good := (s2.posts j).good }) ∧ s2.posts i = { s.posts i with phase := .off } ∧
        Phi D { s2 with heard := s2.heard ++ [(i, (s.posts i).planned)] } + pot D i (s.posts i) ≤ Phi D s + 2 + (if (s.posts i).planned = true then 0 else potU D * D.dp i) := fun s2 a1 a2 a3 a4 a5 a6 a7 => by
      refine ⟨⟨a1.po, fun x hx => ?_⟩, a2, by omega, a5, a6, ?_⟩
      · rcases List.mem_append.mp hx with hx | hx
        · exact a1.he x hx
        · rw [List.mem_singleton] at hx
          rw [hx]
          exact ⟨hi, by show 0 ≤ D.e i; omega⟩
      · have e1 : Phi D { s2 with heard := s2.heard ++ [(i, (s.posts i).planned)] } = Phi D s2 + (1 + if (s.posts i).planned = true then 0 else potU D * D.dp i) := by
          show s2.book.length + potS D s2 + heardW D (s2.heard ++ [_]) = _
          rw [heardW_snoc]
          unfold Phi
          dsimp only
          omega
        rw [e1, a7]
        omega
    by_cases hg : (s.posts i).planned = false ∧ again (D.sh i).keep w.s = false
    · rw [if_pos hg]
      refine key _ (h1.put ((h1.po _ hen).good _)) c1 rfl rfl (fun j hj => ?_) ((put_ne s1 _ hne.symm).trans f2) ?_
      · by_cases e : j = (D.e i).toNat
        · subst e
          rw [put_same, f1 _ hj]
        · rw [put_ne s1 _ e, f1 j hj]
      · have key2 : ∀ X : Post, pot D (D.e i).toNat X = pot D (D.e i).toNat (s1.posts (D.e i).toNat) → Phi D (s1.put (D.e i).toNat X) = Phi D s1 := fun X hX => by
          have := phi_put (s := s1) (p := X) hen
          rw [hX] at this
          omega
        exact key2 _ rfl
    · rw [if_neg hg]
      exact key s1 h1 c1 rfl rfl (fun j hj => by rw [f1 j hj]) f2 rfl
end Mn

namespace Mn
open PySem PySem.Spec PyProof.Rows L2 TL
theorem nodup_le : ∀ (n : Nat) (l : List Nat), l.Nodup → (∀ j ∈ l, j < n) → l.length ≤ n
  | 0, l, _, h => by
    cases l with
    | nil => exact Nat.le_refl _
    | cons a r => exact absurd (h a List.mem_cons_self) (Nat.not_lt_zero a)
  | n + 1, l, nd, h => by
    by_cases hn : n ∈ l
    · have := nodup_le n (l.erase n) (nd.erase n) fun j hj => by
        have h1 := h j (List.mem_of_mem_erase hj)
        have h2 : j ≠ n := ((List.Nodup.mem_erase_iff nd).mp hj).1
        omega
      rw [List.length_erase_of_mem hn] at this
      omega
    · have := nodup_le n l nd fun j hj => by
        have h1 := h j hj
        have h2 : j ≠ n := fun e => hn (e ▸ hj)
        omega
      omega
theorem fresh_T {D : TreeD} : ∀ (l : List Nat) (s : HS), SI D s → l.Nodup → (∀ j ∈ l, j < D.n) →
    SI D (l.foldl HS.fresh s) ∧ (l.foldl HS.fresh s).clock = s.clock ∧ (l.foldl HS.fresh s).book.length = s.book.length + l.length ∧ (l.foldl HS.fresh s).heard = s.heard ∧ (∀ j, j ∉ l → (l.foldl HS.fresh s).posts j = s.posts j) ∧
    Phi D (l.foldl HS.fresh s) ≤ Phi D s + 4 * l.length
  | [], s, h, _, _ => ⟨h, rfl, rfl, rfl, fun _ _ => rfl, Nat.le_refl _⟩
  | i :: r, s, h, nd, hl => by
    rw [List.nodup_cons] at nd
    have hi := hl i List.mem_cons_self
    have f0 : PI D i { phase := .on, born := s.clock } s.book.length := ⟨Nat.two_pow_pos _, Nat.two_pow_pos _, fun _ => rfl, (fun c hc => absurd hc List.not_mem_nil), (fun z => by cases z), (fun _ => ⟨(fun z => by cases z), (fun z => by cases z)⟩), (fun _ z => by cases z), (fun z => by cases z), Nat.zero_le _⟩
    have h1 : SI D (s.fresh i) := (h.put f0).note .begun i
    obtain ⟨a1, a2, a3, a4, a5, a6⟩ := fresh_T r (s.fresh i) h1 nd.2 fun j hj => hl j (List.mem_cons_of_mem _ hj)
    have b1 : (s.fresh i).book.length = s.book.length + 1 := by show (s.book ++ [_]).length = _; rw [List.length_append]; rfl
    have p1 := phi_note D (s.put i { phase := .on, born := s.clock }) .begun i
    have p2 := phi_put (s := s) (p := { phase := .on, born := s.clock }) hi
    have p3 : pot D i { phase := .on, born := s.clock } = 3 := rfl
    have p4 : Phi D (s.fresh i) = Phi D ((s.put i { phase := .on, born := s.clock }).note .begun i) := rfl
    refine ⟨a1, a2, by rw [List.foldl_cons, a3, b1, List.length_cons]; omega, a4, fun j hj => ?_, ?_⟩
    · rw [List.foldl_cons, a5 j fun m => hj (List.mem_cons_of_mem _ m)]
      exact put_ne s _ fun e => hj (e ▸ List.mem_cons_self)
    · rw [List.foldl_cons, List.length_cons]
      omega
/-- those begun together -/
theorem begins_is {D : TreeD} (cs : List Nat) (s : HS) : cs.foldl (fun h c => h.begin D c) s = (cs.flatMap D.sub).foldl HS.fresh s := by
  induction cs generalizing s with
  | nil => rfl
  | cons c r ih =>
    rw [List.foldl_cons, ih, List.flatMap_cons, List.foldl_append]
    rfl
theorem subs_nd {D : TreeD} (W : D.WF) {i : Nat} (l : List Nat) (h : ∀ c ∈ l, c ∈ D.yng i) (nd : l.Nodup) : (l.flatMap D.sub).Nodup ∧ ∀ j ∈ l.flatMap D.sub, i < j ∧ j < D.n := by
  have e : l.flatMap D.sub = l.flatMap (subF D (8 - D.dp i)) := by
    have : ∀ l : List Nat, (∀ c ∈ l, c ∈ D.yng i) → l.flatMap D.sub = l.flatMap (subF D (8 - D.dp i)) := fun l => by
      induction l with
      | nil => exact fun _ => rfl
      | cons c r ih =>
        intro h
        have hc := yng_gt W (h c List.mem_cons_self)
        rw [List.flatMap_cons, List.flatMap_cons, ih fun d hd => h d (List.mem_cons_of_mem _ hd)]
        unfold TreeD.sub
        rw [show 9 - D.dp c = 8 - D.dp i by omega]
    exact this l h
  rw [e]
  refine ⟨subs_nodup W _ i l h nd, fun j hj => ?_⟩
  obtain ⟨c, hc, hj⟩ := List.mem_flatMap.mp hj
  have h1 := yng_gt W (h c hc)
  have h2 := sub_mem W _ c j h1.2.1 hj
  omega
theorem andNot_le (a b : Nat) : andNot a b ≤ a := by
  have := andNot_add a b
  omega
theorem andNot_top {p : Nat} (h : p ≠ 0) : andNot p (2 ^ p.log2) < 2 ^ p.log2 := by
  refine Nat.lt_pow_two_of_testBit _ fun j hj => ?_
  rw [andNot_bit]
  by_cases e : j = p.log2
  · subst e
    rw [Nat.testBit_two_pow_self]
    simp
  · have : p.testBit j = false := Nat.testBit_lt_two_pow (Nat.lt_of_lt_of_le Nat.lt_log2_self (Nat.pow_le_pow_right (by decide) (by omega)))
    rw [this]
    rfl
theorem places_lt {b L k : Nat} (h : b < 2 ^ L) (hk : k ∈ placesOf b) : k < L ∧ b.testBit k = true := by
  unfold placesOf at hk
  rw [List.mem_filter, List.mem_range] at hk
  refine ⟨?_, hk.2⟩
  have h1 := hk.1
  unfold bitLen at h1
  split at h1
  · omega
  · rename_i c
    have := (Nat.log2_lt c).mpr h
    omega
theorem goLoop_T {D : TreeD} (W : D.WF) {M : Nat} (hM0 : M < LIM) {tell : Nat → HS → Option HS} {i : Nat} (hi : i < D.n)
    (hT : ∀ c h, c ∈ D.yng i → SI D h → (h.posts c).phase ≠ .off → (h.posts c).planned = false → Phi D h ≤ M → ∃ h', tell c h = some h' ∧ TP D c 0 h h') :
    ∀ (k m : Nat) (h : HS), SI D h → Phi D h ≤ M → (h.posts i).put < 2 ^ m → m < k → ∃ h' b, goLoop D tell i k h = some (h', b) ∧ TP D i 0 h h' ∧ h'.posts i = { h.posts i with put := (h'.posts i).put, good := (h'.posts i).good } ∧ (b = false → (h'.posts i).put = 0)
  | 0, _, _, _, _, _, hk => absurd hk (Nat.not_lt_zero _)
  | k + 1, m, h, hs, hM, hp, hk => by
    unfold goLoop
    rw [if_neg (fun z => z (hs.okB W (Nat.lt_of_le_of_lt hM hM0)))]
    by_cases h0 : (h.posts i).put = 0
    · rw [if_pos h0]
      exact ⟨h, false, rfl, TP.refl hs, rfl, fun _ => h0⟩
    rw [if_neg h0]
    dsimp only
    have q := hs.po i hi
    have hl : (h.posts i).put.log2 < (D.yng i).length := (Nat.log2_lt h0).mpr q.pl
    have hm : (h.posts i).put.log2 < m := (Nat.log2_lt h0).mpr hp
    have hc : (D.yng i).getD (h.posts i).put.log2 0 ∈ D.yng i := by
      rw [List.getD_eq_getElem?_getD, List.getElem?_eq_getElem hl]
      exact List.getElem_mem hl
    generalize (D.yng i).getD (h.posts i).put.log2 0 = c at hc
    have hci := yng_gt W hc
    have step : ∃ h1, (if (h.posts c).phase ≠ .off ∧ (h.posts c).planned = false then tell c h else some h) = some h1 ∧ TP D c 0 h h1 := by
      by_cases a : (h.posts c).phase ≠ .off ∧ (h.posts c).planned = false
      · rw [if_pos a]
        exact hT c h hc hs a.1 a.2 hM
      · rw [if_neg a]
        exact ⟨h, rfl, TP.refl hs⟩
    obtain ⟨h1, e1, t1⟩ := step
    rw [e1]
    dsimp only
    have f1 := t1.fr i hci.1
    by_cases a : (h1.posts c).phase ≠ .off
    · rw [if_pos a]
      exact ⟨h1, true, rfl, t1.low (by omega) (Nat.le_refl _), (by rw [f1]), fun z => by cases z⟩
    rw [if_neg a]
    have ep : (h1.posts i).put = (h.posts i).put := by rw [f1]
    rw [ep]
    have q1 := t1.si.po i hi
    have top := andNot_top h0
    have l1 := andNot_le (h.posts i).put (2 ^ (h.posts i).put.log2)
    have t2 : TP D i 0 h1 (h1.put i { h1.posts i with put := andNot (h.posts i).put (2 ^ (h.posts i).put.log2) }) := by
      refine ⟨t1.si.put (p := { h1.posts i with put := andNot (h.posts i).put (2 ^ (h.posts i).put.log2) }) ⟨Nat.lt_of_le_of_lt l1 q.pl, q1.an, q1.wt, q1.we, q1.gv, q1.lf, q1.mi, q1.tp, q1.fb⟩, ?_, Nat.le_refl _, fun j hj => ?_, rfl⟩
      · have key2 : ∀ X : Post, pot D i X = pot D i (h1.posts i) → Phi D (h1.put i X) = Phi D h1 := fun X hX => by
          have := phi_put (s := h1) (p := X) hi
          rw [hX] at this
          omega
        exact Nat.le_of_eq (key2 _ rfl)
      · rw [put_ne h1 _ (by omega)]
    have hM2 : Phi D (h1.put i { h1.posts i with put := andNot (h.posts i).put (2 ^ (h.posts i).put.log2) }) ≤ M := by have := t1.le; have := t2.le; omega
    obtain ⟨h', b, e2, t3, f3, f4⟩ := goLoop_T W hM0 hi hT k (h.posts i).put.log2 _ t2.si hM2 (by rw [put_same]; exact top) (by omega)
    refine ⟨h', b, e2, (t1.low (by omega) (Nat.le_refl _)).trans (t2.trans t3 (Nat.le_refl _)) (Nat.le_refl _), ?_, f4⟩
    rw [put_same] at f3
    rw [f3, f1]
theorem waitLoop_T {D : TreeD} (W : D.WF) {M : Nat} (hM0 : M < LIM) {dec : Nat → HS → Option HS} {i : Nat} (hi : i < D.n)
    (hD : ∀ c h, c < D.n → D.e c = (i : Int) → SI D h → (h.posts i).phase = .on → (h.posts c).phase = .off → Phi D h + potU D * D.dp c ≤ M → ∃ h', dec c h = some h' ∧ TP D i (potU D * D.dp c) h h') :
    ∀ (l : List Nat) (h : HS), SI D h → (∀ c ∈ l, c < D.n ∧ D.e c = (i : Int)) → Phi D h + wsum D l ≤ M → ∃ h', waitLoop D dec i l h = some h' ∧ TP D i (wsum D l) h h'
  | [], h, hs, _, _ => ⟨h, rfl, TP.refl hs⟩
  | c :: r, h, hs, hl, hM => by
    have hc := hl c List.mem_cons_self
    have hw : wsum D (c :: r) = potU D * D.dp c + wsum D r := by unfold wsum; rw [List.map_cons, List.sum_cons]
    rw [hw] at hM ⊢
    unfold waitLoop
    rw [if_neg (fun z => z ⟨hs.okB W (Nat.lt_of_le_of_lt (Nat.le_trans (Nat.le_add_right _ _) hM) hM0), hc⟩)]
    by_cases a : (h.posts c).phase = .off ∧ (h.posts i).phase = .on
    · rw [if_pos a]
      obtain ⟨h1, e1, t1⟩ := hD c h hc.1 hc.2 hs a.2 a.1 (by omega)
      rw [e1]
      dsimp only
      obtain ⟨h2, e2, t2⟩ := waitLoop_T W hM0 hi hD r h1 t1.si (fun d hd => hl d (List.mem_cons_of_mem _ hd)) (by have := t1.le; omega)
      exact ⟨h2, e2, t1.trans t2 (Nat.le_refl _)⟩
    rw [if_neg a]
    by_cases b : (h.posts c).phase = .off ∧ (h.posts i).phase = .turning
    · rw [if_pos b]
      have q := hs.po i hi
      have t1 : TP D i (potU D * D.dp c) h (h.put i { h.posts i with waiting := (h.posts i).waiting ++ [c] }) := by
        refine ⟨hs.put (p := { h.posts i with waiting := (h.posts i).waiting ++ [c] }) ⟨q.pl, q.an, fun z => absurd b.2 z, fun d hd => ?_, q.gv, q.lf, q.mi, q.tp, q.fb⟩, ?_, Nat.le_refl _, fun j hj => ?_, rfl⟩
        · rcases List.mem_append.mp hd with hd | hd
          · exact q.we d hd
          · rw [List.mem_singleton] at hd
            exact hd ▸ hc
        · have p1 := phi_put (s := h) (p := { h.posts i with waiting := (h.posts i).waiting ++ [c] }) hi
          have p2 : pot D i { h.posts i with waiting := (h.posts i).waiting ++ [c] } = pot D i (h.posts i) + potU D * D.dp c := by
            unfold pot wsum
            dsimp only
            rw [List.map_append, List.sum_append]
            simp only [List.map_cons, List.map_nil, List.sum_cons, List.sum_nil, Nat.add_zero]
            omega
          omega
        · rw [put_ne h _ (by omega)]
      obtain ⟨h2, e2, t2⟩ := waitLoop_T W hM0 hi hD r _ t1.si (fun d hd => hl d (List.mem_cons_of_mem _ hd)) (by have := t1.le; omega)
      exact ⟨h2, e2, t1.trans t2 (Nat.le_refl _)⟩
    · rw [if_neg b]
      obtain ⟨h2, e2, t2⟩ := waitLoop_T W hM0 hi hD r h hs (fun d hd => hl d (List.mem_cons_of_mem _ hd)) (by omega)
      exact ⟨h2, e2, t2.low (Nat.le_refl _) (by omega)⟩
end Mn

namespace Mn
open PySem PySem.Spec PyProof.Rows L2 TL
/-! ### every operation ends within the bounds -/
def costO (D : TreeD) (h : HS) : Op → Nat
  | .tell i => 3 * (9 - D.dp i)
  | .goDown i _ => 3 * (9 - D.dp i) - 1
  | .goOn i => if (h.posts i).phase = .down then 3 * (9 - D.dp i) - 2 else if (h.posts i).waiting = [] then 3 * (9 - D.dp i) - 1 else 3 * (9 - D.dp i) + 2
  | .comeUp i => if (h.posts i).waiting = [] then 1 else 3 * (9 - D.dp i) + 1
  | .decide e _ => 3 * (9 - D.dp e)
def tgt : Op → Nat
  | .tell i => i | .goDown i _ => i | .goOn i => i | .comeUp i => i | .decide e _ => e
def ext (D : TreeD) (h : HS) : Op → Nat
  | .decide _ i => potU D * D.dp i
  | .goDown i gave => if gave = true ∧ (h.posts i).planned = false then potU D * D.dp i else 0
  | _ => 0
def Pre (D : TreeD) (h : HS) : Op → Prop
  | .tell i => i < D.n ∧ (h.posts i).phase ≠ .off ∧ (h.posts i).planned = false
  | .goDown i gave => i < D.n ∧ 3 ≤ (D.sh i).kind ∧ (h.posts i).phase ≠ .off ∧ (gave = true ∨ (h.posts i).planned = true)
  | .goOn i => i < D.n ∧ 3 ≤ (D.sh i).kind ∧ ((h.posts i).phase = .turning ∨ (h.posts i).phase = .down)
  | .comeUp i => i < D.n ∧ 3 ≤ (D.sh i).kind ∧ (h.posts i).phase = .turning
  | .decide e i => e < D.n ∧ 3 ≤ (D.sh e).kind ∧ i < D.n ∧ D.e i = (e : Int) ∧ (h.posts e).phase = .on
theorem onOf_lt (D : TreeD) (h : HS) (i : Nat) : h.onOf D i < 2 ^ (D.yng i).length := by
  unfold HS.onOf
  have := bitsOf_lt ((D.yng i).map fun c => decide ((h.posts c).phase ≠ .off))
  rw [List.length_map] at this
  exact this
theorem chK_lt {k p c o g : Nat} (hp : p < c) (ho : o < 2 ^ c) : (chK k p c o g).1 < 2 ^ c ∧ (chK k p c o g).2 < 2 ^ c := by
  have h2 : 2 ^ c - 1 < 2 ^ c := by have := Nat.two_pow_pos c; omega
  have h3 : 2 ^ (p + 1) - 1 < 2 ^ c := by
    have := Nat.pow_le_pow_right (show 0 < 2 by decide) (show p + 1 ≤ c from hp)
    have := Nat.two_pow_pos (p + 1)
    omega
  have h4 : 2 ^ p < 2 ^ c := Nat.pow_lt_pow_right (by decide) hp
  unfold chK
  split
  · exact ⟨Nat.two_pow_pos c, h4⟩
  · split
    · exact ⟨ho, Nat.lt_of_le_of_lt (andNot_le _ _) h2⟩
    · exact ⟨Nat.lt_of_le_of_lt Nat.and_le_left ho, Nat.lt_of_le_of_lt (andNot_le _ _) (Nat.or_lt_two_pow (Nat.xor_lt_two_pow h2 h3) h4)⟩
theorem pot_on {D : TreeD} {i : Nat} {p : Post} (h : p.phase ≠ .off) : (if p.planned = true then 2 else 3) ≤ pot D i p := by
  unfold pot
  rw [if_neg h]
  omega
theorem over_pl {D : TreeD} (W : D.WF) {s : HS} {i : Nat} {w : Wd} (h : SI D s) (hi : i < D.n) (ph : (s.posts i).phase ≠ .off) (pt : (s.posts i).phase ≠ .turning) (pl : (s.posts i).planned = true) : TP D i 0 s (s.over D i w) := by
  obtain ⟨a1, a2, a3, a4, a5, a6⟩ := over_T W (w := w) h hi ph pt
  have := pot_on (D := D) (i := i) ph
  rw [if_pos pl] at this a6
  exact ⟨a1, by omega, a3, fun j hj => a4 j (by omega), a2⟩
theorem over_un {D : TreeD} (W : D.WF) {s : HS} {i : Nat} {w : Wd} (h : SI D s) (hi : i < D.n) (ph : (s.posts i).phase ≠ .off) (pt : (s.posts i).phase ≠ .turning) : TP D i (potU D * D.dp i) s (s.over D i w) := by
  obtain ⟨a1, a2, a3, a4, a5, a6⟩ := over_T W (w := w) h hi ph pt
  have := pot_on (D := D) (i := i) ph
  refine ⟨a1, ?_, a3, fun j hj => a4 j (by omega), a2⟩
  by_cases pl : (s.posts i).planned = true
  · rw [if_pos pl] at this a6
    omega
  · rw [if_neg pl] at this a6
    omega
theorem over_dn {D : TreeD} (W : D.WF) {s : HS} {i : Nat} {w : Wd} (h : SI D s) (hi : i < D.n) (ph : (s.posts i).phase = .down) : TP D i 0 s (s.over D i w) := by
  have q := h.po i hi
  by_cases pl : (s.posts i).planned = true
  · exact over_pl W h hi (by rw [ph]; exact fun z => by cases z) (by rw [ph]; exact fun z => by cases z) pl
  · obtain ⟨a1, a2, a3, a4, a5, a6⟩ := over_T W (w := w) h hi (by rw [ph]; exact fun z => by cases z) (by rw [ph]; exact fun z => by cases z)
    have g : (s.posts i).gave = true := (q.gv ph).elim id fun z => absurd z pl
    have pf : (s.posts i).planned = false := Bool.eq_false_iff.mpr pl
    have : 3 + potU D * D.dp i ≤ pot D i (s.posts i) := by
      unfold pot
      rw [if_neg (by rw [ph]; exact fun z => by cases z), if_neg pl, if_neg (show ¬ (s.posts i).phase = .turning by rw [ph]; exact fun z => by cases z), if_pos ⟨ph, g, pf⟩]
      omega
    rw [if_neg pl] at a6
    exact ⟨a1, by omega, a3, fun j hj => a4 j (by omega), a2⟩
theorem ease_T {D : TreeD} (W : D.WF) {s : HS} {i : Nat} (h : SI D s) (hi : i < D.n) (ph : (s.posts i).phase = .told) : TP D i 0 s (s.ease D i) := by
  have q := h.po i hi
  have h1 : (s.posts i).phase ≠ .off := by rw [ph]; exact fun z => by cases z
  have h2 : (s.posts i).phase ≠ .turning := by rw [ph]; exact fun z => by cases z
  unfold HS.ease
  split
  · exact over_pl W h hi h1 h2 (q.tp ph)
  · split
    · exact over_pl W h hi h1 h2 (q.tp ph)
    · exact TP.refl h
theorem fresh_put {s : HS} {i j : Nat} (p : Post) (h : j ≠ i) : (s.put i p).fresh j = (s.fresh j).put i p := by
  unfold HS.fresh HS.note HS.put
  dsimp only
  congr 1
  funext k
  by_cases a : k = j
  · subst a
    rw [if_pos rfl, if_neg h, if_pos rfl]
  · rw [if_neg a]
    by_cases b : k = i
    · rw [if_pos b, if_pos b]
    · rw [if_neg b, if_neg b, if_neg a]
theorem fold_put {i : Nat} (p : Post) : ∀ (l : List Nat) (s : HS), i ∉ l → l.foldl HS.fresh (s.put i p) = (l.foldl HS.fresh s).put i p
  | [], _, _ => rfl
  | j :: r, s, h => by
    rw [List.foldl_cons, fresh_put p fun e => h (by rw [e]; exact List.mem_cons_self), fold_put p r _ fun m => h (List.mem_cons_of_mem _ m)]
    rfl
theorem put_put (s : HS) (i : Nat) (p q : Post) : (s.put i p).put i q = s.put i q := by
  unfold HS.put
  dsimp only
  congr 1
  funext k
  by_cases a : k = i
  · rw [if_pos a, if_pos a]
  · rw [if_neg a, if_neg a, if_neg a]
theorem TP.of_put {D : TreeD} {t a : Nat} {s : HS} {i : Nat} {p : Post} (h : SI D s) (hi : i < D.n) (q : PI D i p s.book.length) (l : pot D i p ≤ pot D i (s.posts i) + a) (ht : t ≤ i) : TP D t a s (s.put i p) :=
  ⟨h.put q, by have := phi_put (s := s) (p := p) hi; omega, Nat.le_refl _, fun j hj => by rw [put_ne s _ (by omega)], rfl⟩
theorem TP.of_note {D : TreeD} {t : Nat} {s : HS} (h : SI D s) (w : Wd) (i : Nat) : TP D t 1 s (s.note w i) :=
  ⟨h.note w i, Nat.le_of_eq (phi_note D s w i), by show _ ≤ (s.book ++ [_]).length; rw [List.length_append]; omega, fun _ _ => rfl, rfl⟩
theorem up_T {D : TreeD} (W : D.WF) {s : HS} {i : Nat} (h : SI D s) (hi : i < D.n) (hk : 3 ≤ (D.sh i).kind) (ph : (s.posts i).phase = .turning) (l : List Nat) (hl : l.Nodup) (hm : ∀ c ∈ l, c ∈ D.yng i) :
    SI D ((l.flatMap D.sub).foldl HS.fresh (s.put i { s.posts i with phase := .on, anew := 0, waiting := [] })) ∧ Phi D ((l.flatMap D.sub).foldl HS.fresh (s.put i { s.posts i with phase := .on, anew := 0, waiting := [] })) + wsum D (s.posts i).waiting ≤ Phi D s ∧
    s.book.length ≤ ((l.flatMap D.sub).foldl HS.fresh (s.put i { s.posts i with phase := .on, anew := 0, waiting := [] })).book.length ∧ (∀ j, j < i → ((l.flatMap D.sub).foldl HS.fresh (s.put i { s.posts i with phase := .on, anew := 0, waiting := [] })).posts j = s.posts j) ∧
    ((l.flatMap D.sub).foldl HS.fresh (s.put i { s.posts i with phase := .on, anew := 0, waiting := [] })).posts i = { s.posts i with phase := .on, anew := 0, waiting := [] } ∧ ((l.flatMap D.sub).foldl HS.fresh (s.put i { s.posts i with phase := .on, anew := 0, waiting := [] })).clock = s.clock := by
  have q := h.po i hi
  have pi : PI D i { s.posts i with phase := .on, anew := 0, waiting := [] } s.book.length := ⟨q.pl, Nat.two_pow_pos _, fun _ => rfl, (fun c hc => absurd hc List.not_mem_nil), (fun z => by cases z), (fun _ => ⟨(fun z => by cases z), (fun z => by cases z)⟩), (fun _ z => by cases z), (fun z => by cases z), q.fb⟩
  have nd := subs_nd W l hm hl
  obtain ⟨a1, a2, a3, a4, a5, a6⟩ := fresh_T (l.flatMap D.sub) _ (h.put pi) nd.1 fun j hj => (nd.2 j hj).2
  have ll := nodup_le D.n _ nd.1 fun j hj => (nd.2 j hj).2
  have p2 := phi_put (s := s) (p := { s.posts i with phase := .on, anew := 0, waiting := [] }) hi
  have p3 : pot D i { s.posts i with phase := .on, anew := 0, waiting := [] } + potB D + wsum D (s.posts i).waiting ≤ pot D i (s.posts i) := by
    unfold pot
    dsimp only
    rw [ph, if_neg (show ¬ Ph.on = .off from fun z => by cases z), if_neg (show ¬ Ph.on = .turning from fun z => by cases z), if_neg (show ¬ (Ph.on = .down ∧ _) from fun z => by cases z.1), if_neg (show ¬ Ph.turning = .off from fun z => by cases z), if_pos rfl]
    have : wsum D [] = 0 := rfl
    omega
  have hB : potB D = 4 * D.n := rfl
  refine ⟨a1, by omega, by have : (s.put i { s.posts i with phase := .on, anew := 0, waiting := [] }).book.length = s.book.length := rfl; omega, fun j hj => ?_, ?_, a2⟩
  · rw [a5 j fun m => by have := (nd.2 j m).1; omega]
    exact put_ne s _ (by omega)
  · rw [a5 i fun m => by have := (nd.2 i m).1; omega]
    exact put_same s i _
theorem run_T {D : TreeD} (W : D.WF) {M : Nat} (hM0 : M < LIM) : ∀ (f : Nat) (op : Op) (h : HS), SI D h → Pre D h op → costO D h op ≤ f → Phi D h + ext D h op ≤ M → ∃ h', run D f op h = some h' ∧ TP D (tgt op) (ext D h op) h h'
  | 0, op, h, hs, hp, hc, hM => by
    exfalso
    have key : ∀ i, i < D.n → D.dp i ≤ 8 := fun i hi => W.d8 i hi
    cases op with
    | tell i => have := key i hp.1; dsimp only [costO] at hc; omega
    | goDown i g => have := key i hp.1; dsimp only [costO] at hc; omega
    | goOn i =>
      have := key i hp.1
      dsimp only [costO] at hc
      split at hc
      · omega
      · split at hc <;> omega
    | comeUp i =>
      have := key i hp.1
      dsimp only [costO] at hc
      split at hc <;> omega
    | decide e i => have := key e hp.1; dsimp only [costO] at hc; omega
  | f + 1, op, h, hs, hp, hc, hM => by
    have IH := run_T W hM0 f
    have okb : h.okB D := hs.okB W (Nat.lt_of_le_of_lt (Nat.le_trans (Nat.le_add_right _ _) hM) hM0)
    unfold run
    rw [if_neg (fun z => z okb)]
    cases op with
    | tell i =>
      obtain ⟨hi, h1, h2⟩ := hp
      have q := hs.po i hi
      have d8 := W.d8 i hi
      dsimp only [costO, tgt, ext] at hc hM ⊢
      have p3 : pot D i { h.posts i with planned := true } + 1 ≤ pot D i (h.posts i) := by
        unfold pot
        dsimp only
        rw [if_neg h1, if_neg h1, h2, if_pos rfl, if_neg (show ¬ (false = true) by decide), if_neg (show ¬ ((h.posts i).phase = .down ∧ (h.posts i).gave = true ∧ true = false) from fun z => by cases z.2.2)]
        omega
      have t0 : SI D (h.put i { h.posts i with planned := true }) := hs.put (p := { h.posts i with planned := true }) ⟨q.pl, q.an, q.wt, q.we, fun _ => .inr rfl, q.lf, q.mi, fun _ => rfl, q.fb⟩
      have p1 := phi_note D (h.put i { h.posts i with planned := true }) .told i
      have p2 := phi_put (s := h) (p := { h.posts i with planned := true }) hi
      have t1 : TP D i 0 h ((h.put i { h.posts i with planned := true }).note .told i) := ⟨t0.note .told i, by omega, by show _ ≤ (h.book ++ [_]).length; rw [List.length_append]; omega, fun j hj => by rw [show ((h.put i { h.posts i with planned := true }).note .told i).posts j = h.posts j from put_ne h _ (by omega)], rfl⟩
      have e1 : ((h.put i { h.posts i with planned := true }).note .told i).posts i = { h.posts i with planned := true } := put_same h i _
      generalize (h.put i { h.posts i with planned := true }).note .told i = h1' at t1 e1 ⊢
      have q1 := t1.si.po i hi
      by_cases hk : (D.sh i).kind < 3
      · rw [if_pos hk]
        have ht := (q1.lf hk).1
        have pi : PI D i { h1'.posts i with phase := .told, slow := (D.sh i).b, grace := (D.sh i).a } h1'.book.length := ⟨q1.pl, q1.an, fun _ => q1.wt ht, q1.we, (fun z => by cases z), (fun _ => ⟨(fun z => by cases z), (fun z => by cases z)⟩), (fun z => by omega), (fun _ => by rw [e1]), q1.fb⟩
        have l2 : pot D i { h1'.posts i with phase := .told, slow := (D.sh i).b, grace := (D.sh i).a } ≤ pot D i (h1'.posts i) + 0 := by
          unfold pot
          dsimp only
          rw [if_neg (show ¬ Ph.told = .off from fun z => by cases z), if_neg (show ¬ Ph.told = .turning from fun z => by cases z), if_neg (show ¬ (Ph.told = .down ∧ _) from fun z => by cases z.1), if_neg (show ¬ (h1'.posts i).phase = .off by rw [e1]; exact h1)]
          omega
        have t2 := TP.of_put (t := i) t1.si hi pi l2 (Nat.le_refl _)
        have t3 := ease_T W t2.si hi (by rw [put_same])
        exact ⟨_, rfl, t1.trans (t2.trans t3 (Nat.le_refl _)) (Nat.le_refl _)⟩
      · rw [if_neg hk]
        by_cases hd : (h1'.posts i).phase ≠ .down
        · rw [if_pos hd]
          have hx : ext D h1' (.goDown i false) = 0 := by
            dsimp only [ext]
            exact if_neg (fun z => by cases z.1)
          obtain ⟨h2, e2, t2⟩ := IH (.goDown i false) h1' t1.si ⟨hi, by omega, by rw [e1]; exact h1, .inr (by rw [e1])⟩ (by dsimp only [costO]; omega) (by rw [hx]; have := t1.le; omega)
          rw [hx] at t2
          exact ⟨h2, e2, t1.trans t2 (Nat.le_refl _)⟩
        · rw [if_neg hd]
          exact ⟨_, rfl, t1⟩
    | goDown i g =>
      obtain ⟨hi, hk, h1, h2⟩ := hp
      have q := hs.po i hi
      have d8 := W.d8 i hi
      dsimp only [costO, tgt, ext] at hc hM ⊢
      rw [put_same, put_put]
      have ho := onOf_lt D (h.put i { h.posts i with phase := .down, gave := g, anew := 0, waiting := [] }) i
      generalize (h.put i { h.posts i with phase := .down, gave := g, anew := 0, waiting := [] }).onOf D i = o at ho ⊢
      have pi : PI D i { h.posts i with phase := .down, gave := g, anew := 0, waiting := [], put := o } h.book.length := ⟨ho, Nat.two_pow_pos _, fun _ => rfl, (fun c hc => absurd hc List.not_mem_nil), fun _ => h2, (fun z => by omega), (fun _ z => by cases z), (fun z => by cases z), q.fb⟩
      have l2 : pot D i { h.posts i with phase := .down, gave := g, anew := 0, waiting := [], put := o } ≤ pot D i (h.posts i) + (if g = true ∧ (h.posts i).planned = false then potU D * D.dp i else 0) := by
        have := pot_on (D := D) (i := i) h1
        unfold pot at this ⊢
        dsimp only
        rw [if_neg (show ¬ Ph.down = .off from fun z => by cases z), if_neg (show ¬ Ph.down = .turning from fun z => by cases z)]
        have e : (if Ph.down = .down ∧ g = true ∧ (h.posts i).planned = false then potU D * D.dp i else 0) = (if g = true ∧ (h.posts i).planned = false then potU D * D.dp i else 0) := by
          by_cases z : g = true ∧ (h.posts i).planned = false
          · rw [if_pos z, if_pos ⟨rfl, z⟩]
          · rw [if_neg z, if_neg (fun y => z y.2)]
        rw [e]
        have : wsum D [] = 0 := rfl
        omega
      generalize (if g = true ∧ (h.posts i).planned = false then potU D * D.dp i else 0) = x at hM l2 ⊢
      show ∃ h', run D f (.goOn i) (h.put i { h.posts i with phase := .down, gave := g, anew := 0, waiting := [], put := o }) = some h' ∧ TP D i x h h'
      generalize hX : ({ h.posts i with phase := .down, gave := g, anew := 0, waiting := [], put := o } : Post) = X at pi l2 ⊢
      have hXp : X.phase = .down := by rw [← hX]
      have t2 := TP.of_put (t := i) hs hi pi l2 (Nat.le_refl _)
      obtain ⟨h2', e2, t3⟩ := IH (.goOn i) _ t2.si ⟨hi, hk, .inr (by rw [put_same]; exact hXp)⟩ (by dsimp only [costO]; rw [put_same, if_pos hXp]; omega) (by have := t2.le; dsimp only [ext]; omega)
      exact ⟨h2', e2, t2.trans t3 (Nat.le_refl _)⟩
    | goOn i =>
      obtain ⟨hi, hk, h1⟩ := hp
      have q := hs.po i hi
      have d8 := W.d8 i hi
      have yl := yng_len W i
      dsimp only [costO, tgt, ext] at hc hM ⊢
      have hf : 3 * (9 - D.dp i) ≤ f + 3 := by
        split at hc
        · omega
        · split at hc <;> omega
      obtain ⟨h1', b, e1, t1, f1, f2⟩ := goLoop_T W hM0 (M := M) (tell := fun c h => run D f (.tell c) h) hi (fun c h' hc' hs' a1 a2 hM' => by
        have hy := yng_gt W hc'
        exact IH (.tell c) h' hs' ⟨hy.2.1, a1, a2⟩ (by dsimp only [costO]; omega) (by dsimp only [ext]; omega)) 65 (D.yng i).length h hs (by omega) q.pl (by omega)
      rw [e1]
      cases b with
      | true => exact ⟨h1', rfl, t1⟩
      | false =>
        dsimp only
        by_cases hd : (h1'.posts i).phase = .down
        · rw [if_pos hd]
          exact ⟨_, rfl, t1.trans (over_dn W t1.si hi hd) (Nat.le_refl _)⟩
        · rw [if_neg hd]
          have ph : (h1'.posts i).phase = (h.posts i).phase := by rw [f1]
          have wt : (h1'.posts i).waiting = (h.posts i).waiting := by rw [f1]
          have hd' : ¬ (h.posts i).phase = .down := fun z => hd (ph.trans z)
          have ht : (h1'.posts i).phase = .turning := ph.trans (h1.elim id fun z => absurd z hd')
          rw [if_neg hd'] at hc
          obtain ⟨h2, e2, t2⟩ := IH (.comeUp i) h1' t1.si ⟨hi, hk, ht⟩ (by
            dsimp only [costO]
            rw [wt]
            by_cases z : (h.posts i).waiting = []
            · rw [if_pos z] at hc ⊢
              omega
            · rw [if_neg z] at hc ⊢
              omega) (by have := t1.le; dsimp only [ext]; omega)
          exact ⟨h2, e2, t1.trans t2 (Nat.le_refl _)⟩
    | comeUp i =>
      obtain ⟨hi, hk, h1⟩ := hp
      have q := hs.po i hi
      have d8 := W.d8 i hi
      dsimp only [costO, tgt, ext] at hc hM ⊢
      rw [put_same]
      have pn : (placesOf (andNot (h.posts i).anew (h.posts i).good)).Nodup := List.Pairwise.filter _ List.nodup_range
      have pl : ∀ k ∈ placesOf (andNot (h.posts i).anew (h.posts i).good), k < (D.yng i).length := fun k hk' => (places_lt (Nat.lt_of_le_of_lt (andNot_le _ _) q.an) hk').1
      have cs : (placesOf (andNot (h.posts i).anew (h.posts i).good)).foldl (fun h pl => h.begin D ((D.yng i).getD pl 0)) (h.put i { h.posts i with phase := .on }) = (((placesOf (andNot (h.posts i).anew (h.posts i).good)).map fun k => (D.yng i).getD k 0).flatMap D.sub).foldl HS.fresh (h.put i { h.posts i with phase := .on }) := by
        rw [← begins_is, List.foldl_map]
      have cm : ∀ c ∈ (placesOf (andNot (h.posts i).anew (h.posts i).good)).map (fun k => (D.yng i).getD k 0), c ∈ D.yng i := fun c hc' => by
        obtain ⟨k, hk', rfl⟩ := List.mem_map.mp hc'
        have := pl k hk'
        rw [List.getD_eq_getElem?_getD, List.getElem?_eq_getElem this]
        exact List.getElem_mem this
      have cn : ((placesOf (andNot (h.posts i).anew (h.posts i).good)).map fun k => (D.yng i).getD k 0).Nodup := by
        refine List.pairwise_map.mpr (List.Pairwise.imp_of_mem (fun {a b} ha hb hab e => hab ?_) pn)
        have h1 := pl a ha
        have h2 := pl b hb
        rw [List.getD_eq_getElem?_getD, List.getD_eq_getElem?_getD, List.getElem?_eq_getElem h1, List.getElem?_eq_getElem h2] at e
        exact (List.getElem_inj (yng_nodup D i)).mp e
      rw [cs]
      generalize (placesOf (andNot (h.posts i).anew (h.posts i).good)).map (fun k => (D.yng i).getD k 0) = l at cm cn ⊢
      have nm : i ∉ l.flatMap D.sub := fun m => by have := ((subs_nd W l cm cn).2 i m).1; omega
      have up := up_T W hs hi hk h1 l cn cm
      rw [fold_put _ _ _ nm, put_same, put_put]
      rw [fold_put _ _ _ nm] at up
      obtain ⟨u1, u2, u3, u4, u5, u6⟩ := up
      dsimp only at u1 u2 u3 u4 u5 u6 ⊢
      generalize ((l.flatMap D.sub).foldl HS.fresh h).put i { h.posts i with phase := .on, anew := 0, waiting := [] } = h2 at u1 u2 u3 u4 u5 u6 ⊢
      have hw : ∀ z : (h.posts i).waiting ≠ [], 3 * (9 - D.dp i) ≤ f := fun z => by rw [if_neg z] at hc; omega
      generalize hwl : (h.posts i).waiting = wl at u2 hw ⊢
      have t1 : TP D i 0 h h2 := ⟨u1, by omega, u3, fun j hj => by rw [u4 j hj], u6⟩
      by_cases hz : wl = []
      · subst hz
        exact ⟨h2, rfl, t1⟩
      · have hf := hw hz
        obtain ⟨h3, e3, t3⟩ := waitLoop_T W hM0 (M := M) (dec := fun c h => run D f (.decide i c) h) hi (fun c h' a1 a2 a3 a4 a5 a6 => IH (.decide i c) h' a3 ⟨hi, hk, a1, a2, a4⟩ (by dsimp only [costO]; omega) (by dsimp only [ext]; omega)) wl h2 u1 (fun c hc' => q.we c (by rw [hwl]; exact hc')) (by omega)
        refine ⟨h3, e3, t3.si, by have := t3.le; omega, Nat.le_trans u3 t3.bk, fun j hj => by rw [t3.fr j hj, u4 j hj], t3.ck.trans u6⟩
    | decide e i =>
      obtain ⟨he, hk, hi, hei, h1⟩ := hp
      have q := hs.po e he
      have d8 := W.d8 e he
      have di : D.dp i = D.dp e + 1 := by rw [W.dp i hi, hei, if_neg (by omega), Int.toNat_natCast]
      have hU : potU D * D.dp i = potU D * D.dp e + potU D := by rw [di, Nat.mul_succ]
      have hUB : potU D = potB D + 2 := rfl
      dsimp only [costO, tgt, ext] at hc hM ⊢
      by_cases g : (h.posts e).good.testBit (D.place i) = true
      · rw [if_pos g]
        exact ⟨h, rfl, TP.refl hs⟩
      rw [if_neg g]
      by_cases c : ((recF h.clock (D.sh e).b (h.posts e).falls).length : Int) + 1 > (D.sh e).a
      · rw [if_pos c]
        have t1 := TP.of_note (t := e) hs .givesup e
        have hx : ext D (h.note .givesup e) (.goDown e true) ≤ potU D * D.dp e := by
          dsimp only [ext]
          split <;> omega
        obtain ⟨h2, e2, t2⟩ := IH (.goDown e true) _ t1.si ⟨he, hk, by rw [show (h.note .givesup e).posts e = h.posts e from rfl, h1]; exact (fun z => by cases z), .inl rfl⟩ (by dsimp only [costO]; omega) (by have := t1.le; omega)
        exact ⟨h2, e2, t1.trans t2 (by omega)⟩
      rw [if_neg c]
      have hp := (place_of W hi (by omega)).1
      have hen : (D.e i).toNat = e := by omega
      rw [hen] at hp
      have rl := List.length_filter_le (fun t => decide ((h.clock : Int) - t < (D.sh e).b)) (h.posts e).falls
      have rl : (recF h.clock (D.sh e).b (h.posts e).falls).length ≤ (h.posts e).falls.length := rl
      -- the answer
      have w0 : (h.posts e).waiting = [] := q.wt (by rw [h1]; exact fun z => by cases z)
      have b1 : ((h.put e { h.posts e with falls := recF h.clock (D.sh e).b (h.posts e).falls ++ [(h.clock : Int)] }).note .answers i).book.length = h.book.length + 1 := by
        show (h.book ++ [_]).length = _
        rw [List.length_append]
        rfl
      have pf : PI D e { h.posts e with falls := recF h.clock (D.sh e).b (h.posts e).falls ++ [(h.clock : Int)] } (h.book.length + 1) := ⟨q.pl, q.an, q.wt, q.we, q.gv, q.lf, q.mi, q.tp, by
        have := q.fb
        dsimp only
        rw [List.length_append, List.length_singleton]
        omega⟩
      have s1 : SI D ((h.put e { h.posts e with falls := recF h.clock (D.sh e).b (h.posts e).falls ++ [(h.clock : Int)] }).note .answers i) := by
        refine ⟨fun j hj => ?_, hs.he⟩
        rw [b1]
        show PI D j (if j = e then _ else h.posts j) _
        by_cases z : j = e
        · subst z
          rw [if_pos rfl]
          exact pf
        · rw [if_neg z]
          exact (hs.po j hj).mono (by omega)
      have p1 := phi_note D (h.put e { h.posts e with falls := recF h.clock (D.sh e).b (h.posts e).falls ++ [(h.clock : Int)] }) .answers i
      have key2 : ∀ X : Post, pot D e X = pot D e (h.posts e) → Phi D (h.put e X) = Phi D h := fun X hX => by
        have := phi_put (s := h) (p := X) he
        rw [hX] at this
        omega
      have p2 := key2 { h.posts e with falls := recF h.clock (D.sh e).b (h.posts e).falls ++ [(h.clock : Int)] } rfl
      have f1 : ((h.put e { h.posts e with falls := recF h.clock (D.sh e).b (h.posts e).falls ++ [(h.clock : Int)] }).note .answers i).posts e = { h.posts e with falls := recF h.clock (D.sh e).b (h.posts e).falls ++ [(h.clock : Int)] } := put_same h e _
      have f2 : ∀ j, j ≠ e → ((h.put e { h.posts e with falls := recF h.clock (D.sh e).b (h.posts e).falls ++ [(h.clock : Int)] }).note .answers i).posts j = h.posts j := fun j hj => put_ne h _ hj
      have ck : ((h.put e { h.posts e with falls := recF h.clock (D.sh e).b (h.posts e).falls ++ [(h.clock : Int)] }).note .answers i).clock = h.clock := rfl
      generalize (h.put e { h.posts e with falls := recF h.clock (D.sh e).b (h.posts e).falls ++ [(h.clock : Int)] }).note .answers i = h1' at b1 s1 p1 f1 f2 ck ⊢
      have hch := chK_lt (k := (D.sh e).kind) (g := (h.posts e).good) hp (onOf_lt D h1' e)
      generalize chK (D.sh e).kind (D.place i) (D.yng e).length (h1'.onOf D e) (h.posts e).good = ch at hch ⊢
      have q1 := s1.po e he
      have pi : PI D e { h1'.posts e with put := ch.1, anew := ch.2, phase := .turning } h1'.book.length := ⟨hch.1, hch.2, fun z => absurd rfl z, q1.we, (fun z => by cases z), (fun z => by omega), (fun _ z => by cases z), (fun z => by cases z), q1.fb⟩
      have l2 : pot D e { h1'.posts e with put := ch.1, anew := ch.2, phase := .turning } ≤ pot D e (h1'.posts e) + potB D := by
        have hph : (h1'.posts e).phase = .on := by rw [f1]; exact h1
        unfold pot
        dsimp only
        rw [hph, if_neg (show ¬ Ph.turning = .off from fun z => by cases z), if_pos rfl, if_neg (show ¬ (Ph.turning = .down ∧ _) from fun z => by cases z.1), if_neg (show ¬ Ph.on = .off from fun z => by cases z)]
        omega
      have t2 := TP.of_put (t := e) s1 he pi l2 (Nat.le_refl _)
      generalize hX : ({ h1'.posts e with put := ch.1, anew := ch.2, phase := .turning } : Post) = X at pi l2 t2 ⊢
      have hXp : X.phase = .turning := by rw [← hX]
      have hXw : X.waiting = [] := by rw [← hX]; dsimp only; rw [f1]; exact w0
      obtain ⟨h3, e3, t3⟩ := IH (.goOn e) (h1'.put e X) t2.si ⟨he, hk, .inl (by rw [put_same]; exact hXp)⟩ (by dsimp only [costO]; rw [put_same, if_neg (by rw [hXp]; exact fun z => by cases z), if_pos hXw]; omega) (by have := t2.le; dsimp only [ext]; omega)
      refine ⟨h3, e3, t3.si, by have := t3.le; have := t2.le; dsimp only [ext] at *; omega, by have := t3.bk; have := t2.bk; omega, fun j hj => ?_, ?_⟩
      · rw [t3.fr j hj, t2.fr j hj, f2 j (by omega)]
      · rw [t3.ck, t2.ck, ck]
end Mn

namespace Mn
open PySem PySem.Spec PyProof.Rows L2 TL
/-! ### hearing, settling, turns, trips, stops -/
theorem hear_T {D : TreeD} (W : D.WF) {M : Nat} (hM0 : M < LIM) {h : HS} {i : Nat} {pl : Bool} (hs : SI D h) (hi : i < D.n) (he : 0 ≤ D.e i) (hM : Phi D h + (if pl = true then 0 else potU D * D.dp i) ≤ M) :
    ∃ h', h.hear D i pl = some h' ∧ TP D 0 (if pl = true then 0 else potU D * D.dp i) h h' := by
  have okb : h.okB D := hs.okB W (by omega)
  have el := W.el i hi
  have hen : (D.e i).toNat < D.n := by omega
  have hei : D.e i = (((D.e i).toNat : Nat) : Int) := by omega
  have hk := W.mi i hi he
  have q := hs.po _ hen
  have d8 := W.d8 _ hen
  unfold HS.hear
  rw [if_neg (fun z => z okb)]
  dsimp only
  generalize (D.e i).toNat = e at hen hei hk q d8 ⊢
  have cost40 : costO D h (.goOn e) ≤ FUEL := by
    dsimp only [costO]
    have : FUEL = 40 := rfl
    split
    · omega
    · split <;> omega
  cases pl with
  | true =>
    rw [if_pos rfl] at hM ⊢
    rw [if_pos rfl]
    by_cases c : (h.posts e).phase = .turning ∨ (h.posts e).phase = .down
    · rw [if_pos c]
      obtain ⟨h', e1, t1⟩ := run_T W hM0 FUEL (.goOn e) h hs ⟨hen, hk, c⟩ cost40 (by dsimp only [ext]; omega)
      exact ⟨h', e1, t1.low (Nat.zero_le _) (Nat.le_refl _)⟩
    · rw [if_neg c]
      exact ⟨h, rfl, TP.refl hs⟩
  | false =>
    rw [if_neg (show ¬ (false = true) by decide)] at hM ⊢
    rw [if_neg (show ¬ (false = true) by decide)]
    by_cases c : (h.posts i).phase = .off ∧ (h.posts e).phase = .on
    · rw [if_pos c]
      obtain ⟨h', e1, t1⟩ := run_T W hM0 FUEL (.decide e i) h hs ⟨hen, hk, hi, hei, c.2⟩ (by dsimp only [costO]; have : FUEL = 40 := rfl; omega) (by dsimp only [ext]; omega)
      exact ⟨h', e1, t1.low (Nat.zero_le _) (Nat.le_refl _)⟩
    rw [if_neg c]
    by_cases b : (h.posts i).phase = .off ∧ (h.posts e).phase = .turning
    · rw [if_pos b]
      refine ⟨_, rfl, hs.put (p := { h.posts e with waiting := (h.posts e).waiting ++ [i] }) ⟨q.pl, q.an, fun z => absurd b.2 z, fun d hd => ?_, q.gv, q.lf, q.mi, q.tp, q.fb⟩, ?_, Nat.le_refl _, fun j hj => absurd hj (Nat.not_lt_zero j), rfl⟩
      · rcases List.mem_append.mp hd with hd | hd
        · exact q.we d hd
        · rw [List.mem_singleton] at hd
          rw [hd]
          exact ⟨hi, hei⟩
      · have p2 : pot D e { h.posts e with waiting := (h.posts e).waiting ++ [i] } = pot D e (h.posts e) + potU D * D.dp i := by
          unfold pot wsum
          dsimp only
          rw [List.map_append, List.sum_append]
          simp only [List.map_cons, List.map_nil, List.sum_cons, List.sum_nil, Nat.add_zero]
          omega
        have p1 := phi_put (s := h) (p := { h.posts e with waiting := (h.posts e).waiting ++ [i] }) hen
        generalize hX : ({ h.posts e with waiting := (h.posts e).waiting ++ [i] } : Post) = X at p1 p2 ⊢
        omega
    · rw [if_neg b]
      exact ⟨h, rfl, TP.refl hs⟩
theorem settle_T {D : TreeD} (W : D.WF) {M : Nat} (hM0 : M < LIM) : ∀ (k : Nat) (h : HS), SI D h → Phi D h ≤ M → Phi D h - h.book.length < k → ∃ h', HS.settle D k h = some h' ∧ TP D 0 0 h h' ∧ h'.heard = []
  | 0, _, _, _, hk => absurd hk (Nat.not_lt_zero _)
  | k + 1, h, hs, hM, hk => by
    have okb : h.okB D := hs.okB W (by omega)
    unfold HS.settle
    rw [if_neg (fun z => z okb)]
    cases hh : h.heard with
    | nil => exact ⟨h, rfl, TP.refl hs, hh⟩
    | cons x r =>
      obtain ⟨i, pl⟩ := x
      dsimp only
      have hx := hs.he (i, pl) (by rw [hh]; exact List.mem_cons_self)
      have s0 : SI D { h with heard := r } := ⟨hs.po, fun x hx => hs.he x (by rw [hh]; exact List.mem_cons_of_mem _ hx)⟩
      have p0 : Phi D { h with heard := r } + (1 + if pl = true then 0 else potU D * D.dp i) = Phi D h := by
        unfold Phi
        rw [hh]
        show h.book.length + potS D h + heardW D r + _ = h.book.length + potS D h + heardW D ((i, pl) :: r)
        unfold heardW
        rw [List.map_cons, List.sum_cons]
        dsimp only
        omega
      have hx1 : i < D.n := hx.1
      have hx2 : 0 ≤ D.e i := hx.2
      obtain ⟨h1, e1, t1⟩ := hear_T W hM0 (pl := pl) s0 hx1 hx2 (by omega)
      rw [e1]
      dsimp only
      have l1 := t1.le
      have b1 : h.book.length ≤ h1.book.length := t1.bk
      have c1 : h1.clock = h.clock := t1.ck
      have g0 : h.book.length ≤ Phi D { h with heard := r } := by
        show h.book.length ≤ h.book.length + _ + _
        omega
      generalize ({ h with heard := r } : HS) = Y at *
      generalize (if pl = true then 0 else potU D * D.dp i) = w at *
      obtain ⟨h2, e2, t2, hh2⟩ := settle_T W hM0 k h1 t1.si (by omega) (by omega)
      refine ⟨h2, e2, ⟨t2.si, by have := t2.le; omega, Nat.le_trans b1 t2.bk, fun j hj => absurd hj (Nat.not_lt_zero j), t2.ck.trans c1⟩, hh2⟩
theorem step_T {D : TreeD} (W : D.WF) {h : HS} {i : Nat} (hs : SI D h) (hi : i < D.n) (hk : (D.sh i).kind < 3) (ph : (h.posts i).phase ≠ .off) : TP D 0 (potU D * D.dp i) h (h.step D i) := by
  have q := hs.po i hi
  have lf := q.lf hk
  unfold HS.step
  dsimp only
  by_cases c : (h.posts i).phase = .told
  · rw [if_pos c]
    have pi : PI D i { h.posts i with slow := (h.posts i).slow - 1, grace := (h.posts i).grace - 1 } h.book.length := ⟨q.pl, q.an, q.wt, q.we, q.gv, q.lf, q.mi, q.tp, q.fb⟩
    have t1 := TP.of_put (t := 0) (a := 0) hs hi pi (Nat.le_refl _) (Nat.zero_le _)
    have t2 := ease_T W t1.si hi (by rw [put_same]; exact c)
    exact t1.trans (t2.low (Nat.zero_le _) (Nat.le_refl _)) (by omega)
  · rw [if_neg c]
    have pi : PI D i { h.posts i with steps := (h.posts i).steps + 1 } h.book.length := ⟨q.pl, q.an, q.wt, q.we, q.gv, q.lf, q.mi, q.tp, q.fb⟩
    have t1 := TP.of_put (t := 0) (a := 0) hs hi pi (Nat.le_refl _) (Nat.zero_le _)
    cases endW (D.sh i) (h.posts i).steps with
    | none => exact t1.low (Nat.le_refl _) (Nat.zero_le _)
    | some w =>
      have t2 := over_un W (w := w) t1.si hi (by rw [put_same]; exact ph) (by rw [put_same]; exact lf.1)
      exact t1.trans (t2.low (Nat.zero_le _) (Nat.le_refl _)) (by omega)
/-- between deeds -/
structure HI (D : TreeD) (s : HS) (m : Nat) : Prop where
  si : SI D s
  hd : s.heard = []
  le : Phi D s ≤ m
def inc (D : TreeD) : Nat := potU D * 8
theorem inc_le {D : TreeD} (W : D.WF) {i : Nat} (hi : i < D.n) : potU D * D.dp i ≤ inc D := Nat.mul_le_mul_left _ (W.d8 i hi)
theorem set_gt {M a b : Nat} (hM0 : M < LIM) (h : a ≤ M) : a - b < SET := by
  have : SET = LIM := rfl
  omega
theorem turnAt_T {D : TreeD} (W : D.WF) {M m : Nat} (hM0 : M < LIM) {s : HS} (H : HI D s m) {i : Nat} (hi : i < D.n) (hm : m + inc D ≤ M) : ∃ s', s.turnAt D i = some s' ∧ HI D s' (m + inc D) ∧ s'.clock = s.clock ∧ s.book.length ≤ s'.book.length := by
  have okb : s.okB D := H.si.okB W (by have := H.le; omega)
  unfold HS.turnAt
  rw [if_neg (fun z => z okb)]
  by_cases c : (D.sh i).kind < 3 ∧ (s.posts i).phase ≠ .off ∧ (s.posts i).born < s.clock
  · rw [if_pos c]
    have t1 := step_T W H.si hi c.1 c.2.1
    have l := inc_le W hi
    have := H.le
    have := t1.le
    obtain ⟨s', e, t2, hh⟩ := settle_T W hM0 SET _ t1.si (by omega) (set_gt hM0 (by omega))
    exact ⟨s', e, ⟨t2.si, hh, by have := t2.le; omega⟩, t2.ck.trans t1.ck, Nat.le_trans t1.bk t2.bk⟩
  · rw [if_neg c]
    exact ⟨s, rfl, ⟨H.si, H.hd, by have := H.le; omega⟩, rfl, Nat.le_refl _⟩
theorem turnL_T {D : TreeD} (W : D.WF) {M : Nat} (hM0 : M < LIM) : ∀ (l : List Nat) (m : Nat) (s : HS), HI D s m → (∀ i ∈ l, i < D.n) → m + l.length * inc D ≤ M → ∃ s', turnL' D l s = some s' ∧ HI D s' (m + l.length * inc D) ∧ s'.clock = s.clock ∧ s.book.length ≤ s'.book.length
  | [], m, s, H, _, _ => ⟨s, rfl, by rw [List.length_nil, Nat.zero_mul]; exact H, rfl, Nat.le_refl _⟩
  | i :: r, m, s, H, hl, hm => by
    rw [List.length_cons, Nat.succ_mul] at hm
    obtain ⟨s1, e1, H1, c1, b1⟩ := turnAt_T W hM0 H (hl i List.mem_cons_self) (by omega)
    obtain ⟨s2, e2, H2, c2, b2⟩ := turnL_T W hM0 r (m + inc D) s1 H1 (fun j hj => hl j (List.mem_cons_of_mem _ hj)) (by omega)
    refine ⟨s2, ?_, ⟨H2.si, H2.hd, by have := H2.le; rw [List.length_cons, Nat.succ_mul]; omega⟩, c2.trans c1, Nat.le_trans b1 b2⟩
    unfold turnL'
    rw [e1]
    exact e2
theorem turn_T {D : TreeD} (W : D.WF) {M m : Nat} (hM0 : M < LIM) {s : HS} (H : HI D s m) (hm : m + D.n * inc D ≤ M) : ∃ s', s.turn D = some s' ∧ HI D s' (m + D.n * inc D) ∧ s'.clock = s.clock + 1 ∧ s.book.length ≤ s'.book.length := by
  have H1 : HI D { s with clock := s.clock + 1 } m := ⟨⟨H.si.po, H.si.he⟩, H.hd, H.le⟩
  have := turnL_T W hM0 (List.range D.n) m _ H1 (fun i hi => List.mem_range.mp hi) (by rw [List.length_range]; exact hm)
  rw [List.length_range] at this
  exact this
noncomputable def HS.tripM (D : TreeD) (s : HS) (i : Nat) : Option HS := HS.settle D SET (s.over D i .fallen)
noncomputable def HS.stopM (D : TreeD) (s : HS) : Option HS := if (s.posts 0).planned = true then some s else (run D FUEL (.tell 0) s).bind fun s1 => HS.settle D SET s1
theorem trip_T {D : TreeD} (W : D.WF) {M m : Nat} (hM0 : M < LIM) {s : HS} (H : HI D s m) {i : Nat} (hi : i < D.n) (hk : (D.sh i).kind < 3) (ph : (s.posts i).phase ≠ .off) (hm : m + inc D ≤ M) : ∃ s', s.tripM D i = some s' ∧ HI D s' (m + inc D) ∧ s'.clock = s.clock ∧ s.book.length ≤ s'.book.length := by
  have t1 := over_un W (w := .fallen) H.si hi ph ((H.si.po i hi).lf hk).1
  have l := inc_le W hi
  have := H.le
  have := t1.le
  obtain ⟨s', e, t2, hh⟩ := settle_T W hM0 SET _ t1.si (by omega) (set_gt hM0 (by omega))
  exact ⟨s', e, ⟨t2.si, hh, by have := t2.le; omega⟩, t2.ck.trans t1.ck, Nat.le_trans t1.bk t2.bk⟩
theorem stop_T {D : TreeD} (W : D.WF) (h0 : 0 < D.n) {M m : Nat} (hM0 : M < LIM) {s : HS} (H : HI D s m) (ph : (s.posts 0).phase ≠ .off) (hm : m ≤ M) : ∃ s', s.stopM D = some s' ∧ HI D s' m ∧ s'.clock = s.clock ∧ s.book.length ≤ s'.book.length := by
  unfold HS.stopM
  by_cases c : (s.posts 0).planned = true
  · rw [if_pos c]
    exact ⟨s, rfl, H, rfl, Nat.le_refl _⟩
  · rw [if_neg c]
    have := H.le
    obtain ⟨s1, e1, t1⟩ := run_T W hM0 FUEL (.tell 0) s H.si ⟨h0, ph, Bool.eq_false_iff.mpr c⟩ (by dsimp only [costO]; have : FUEL = 40 := rfl; omega) (by dsimp only [ext]; omega)
    rw [e1]
    have := t1.le
    dsimp only [ext] at this
    obtain ⟨s', e, t2, hh⟩ := settle_T W hM0 SET s1 t1.si (by omega) (set_gt hM0 (by omega))
    exact ⟨s', e, ⟨t2.si, hh, by have := t2.le; omega⟩, t2.ck.trans t1.ck, Nat.le_trans t1.bk t2.bk⟩
theorem built_T {D : TreeD} (W : D.WF) (h0 : 0 < D.n) : HI D (HS.built D) (4 * D.n) ∧ (HS.built D).clock = 0 := by
  have s0 : SI D { clock := 0, book := [], posts := fun _ => {}, heard := [] } := ⟨fun i hi => ⟨Nat.two_pow_pos _, Nat.two_pow_pos _, fun _ => rfl, (fun c hc => absurd hc List.not_mem_nil), (fun z => by cases z), (fun _ => ⟨(fun z => by cases z), (fun z => by cases z)⟩), (fun _ z => by cases z), (fun z => by cases z), Nat.le_refl _⟩, fun x hx => absurd hx List.not_mem_nil⟩
  have nd : (D.sub 0).Nodup := sub_nodup W _ 0 h0
  have lt : ∀ j ∈ D.sub 0, j < D.n := fun j hj => (sub_mem W _ 0 j h0 hj).2.1
  obtain ⟨a1, a2, a3, a4, a5, a6⟩ := fresh_T (D.sub 0) _ s0 nd lt
  have ll := nodup_le D.n _ nd lt
  have p0 : Phi D { clock := 0, book := [], posts := fun _ => {}, heard := [] } = 0 := by
    have : ∀ n, ((List.range n).map fun j => pot D j ({} : Post)).sum = 0 := fun n => by
      induction n with
      | zero => rfl
      | succ n ih =>
        rw [List.range_succ, List.map_append, List.sum_append, ih]
        rfl
    show 0 + _ + 0 = 0
    unfold potS
    have := this D.n
    dsimp only at this ⊢
    omega
  exact ⟨⟨a1, a4, by show Phi D ((D.sub 0).foldl HS.fresh _) ≤ _; omega⟩, a2⟩
end Mn

namespace Mn
open PySem PySem.Spec PyProof.Rows L2 TL
/-! ### the house in the heap -/
inductive Role where
  | out | tr | h | im | en | pl | hd | po (i : Nat) | fa (i : Nat) | wa (i : Nat)
deriving DecidableEq
structure HA where
  h : Addr
  dxh : Addr
  bk : Addr
  dxb : Addr
  en : Addr
  pl : Addr
  hd : Addr
  ts : List Addr
  ks : List Addr
  po : Nat → Addr
  pdx : Nat → Addr
  fa : Nat → Addr
  wa : Nat → Addr
  rl : Addr → Role
structure Cs where
  T : Addr
  H : Addr
  B : Addr
  P : Addr
  cls : Nat → Addr
def postF (fa wa : Addr) (p : Post) : List (Str × V) := [("phase", .str p.phase.s), ("planned", .bl p.planned), ("born", .int (p.born : Int)), ("steps", .int (p.steps : Int)), ("slow", .int p.slow), ("grace", .int p.grace), ("good", .int (p.good : Int)), ("put", .int (p.put : Int)), ("anew", .int (p.anew : Int)), ("falls", .ref fa), ("waiting", .ref wa), ("gave", .bl p.gave)]
def houseF (A : TA) (a : HA) (ck : Nat) : List (Str × V) := [("tree", .ref A.t), ("clock", .int (ck : Int)), ("book", .ref a.bk), ("posts", .ref a.pl), ("heard", .ref a.hd)]
def entV (D : TreeD) (e : Ent) : List V := [.int (e.t : Int), .str e.w.s, .str (D.sh e.a).name]
def hrdV (x : Nat × Bool) : List V := [.int (x.1 : Int), .bl x.2]
def TA.all (A : TA) : List Addr := A.foot ++ A.ps
structure HR (C : Cs) (A : TA) (a : HA) (D : TreeD) (s : HS) (H : Hp) : Prop where
  tr : TRm C.T C.cls A D H
  hh : H a.h = some (.ins C.H a.dxh (houseF A a s.clock))
  hb : H a.bk = some (.ins C.B a.dxb [("entries", .ref a.en)])
  he : H a.en = some (.lst (a.ts.map V.ref))
  lt : a.ts.length = s.book.length
  ht : ∀ (k : Nat) t e, a.ts[k]? = some t → s.book[k]? = some e → H t = some (.tup (entV D e))
  hpl : H a.pl = some (.lst ((List.range D.n).map fun i => V.ref (a.po i)))
  hhd : H a.hd = some (.lst (a.ks.map V.ref))
  lk : a.ks.length = s.heard.length
  hk : ∀ (k : Nat) t e, a.ks[k]? = some t → s.heard[k]? = some e → H t = some (.tup (hrdV e))
  hpo : ∀ i, i < D.n → H (a.po i) = some (.ins C.P (a.pdx i) (postF (a.fa i) (a.wa i) (s.posts i)))
  hfa : ∀ i, i < D.n → H (a.fa i) = some (.lst ((s.posts i).falls.map V.int))
  hwa : ∀ i, i < D.n → H (a.wa i) = some (.lst ((s.posts i).waiting.map fun j : Nat => V.int j))
  r_tr : ∀ b ∈ A.all, a.rl b = .tr
  r_h : a.rl a.h = .h
  r_bk : a.rl a.bk = .im
  r_en : a.rl a.en = .en
  r_pl : a.rl a.pl = .pl
  r_hd : a.rl a.hd = .hd
  r_ts : ∀ t ∈ a.ts, a.rl t = .im
  r_ks : ∀ t ∈ a.ks, a.rl t = .im
  r_po : ∀ i, i < D.n → a.rl (a.po i) = .po i
  r_fa : ∀ i, i < D.n → a.rl (a.fa i) = .fa i
  r_wa : ∀ i, i < D.n → a.rl (a.wa i) = .wa i
  free : ∀ b, H b = none → a.rl b = .out
/-- what the house leaves alone; the posts ahead of n stay -/
structure Fr (n : Nat) (a : HA) (H : Hp) (a' : HA) (H' : Hp) : Prop where
  h : a'.h = a.h
  k : ∀ b o, a.rl b = .out → H b = some o → a'.rl b = .out ∧ H' b = some o
  m : ∀ b, H' b = none → H b = none
  p : ∀ j, j < n → a'.po j = a.po j
theorem Fr.refl {n : Nat} {a : HA} {H : Hp} : Fr n a H a H := ⟨rfl, fun _ _ r h => ⟨r, h⟩, fun _ h => h, fun _ _ => rfl⟩
theorem Fr.trans {n : Nat} {a a1 a2 : HA} {H H1 H2 : Hp} (f : Fr n a H a1 H1) (g : Fr n a1 H1 a2 H2) : Fr n a H a2 H2 :=
  ⟨g.h.trans f.h, fun b o r h => (fun x => g.k b o x.1 x.2) (f.k b o r h), fun b h => f.m b (g.m b h), fun j hj => (g.p j hj).trans (f.p j hj)⟩
theorem Fr.low {n m : Nat} {a a1 : HA} {H H1 : Hp} (f : Fr n a H a1 H1) (h : m ≤ n) : Fr m a H a1 H1 := ⟨f.h, f.k, f.m, fun j hj => f.p j (Nat.lt_of_lt_of_le hj h)⟩
theorem TR.keep {CT : Addr} {cls : Nat → Addr} {A : TA} {D : TreeD} {H H' : Hp} (R : TR CT cls A D H) (e : ∀ b o, b ∈ A.all → H b = some o → H' b = some o) : TR CT cls A D H' := by
  have m : ∀ b, b ∈ A.foot → b ∈ A.all := fun b h => List.mem_append_left _ h
  have f0 : A.foot = A.t :: A.sh :: A.el :: A.yg :: A.kn :: A.ys := rfl
  refine ⟨e _ _ (m _ ?_) R.ht, e _ _ (m _ ?_) R.hsh, R.lps, fun i p h => ?_, e _ _ (m _ ?_) R.hel, e _ _ (m _ ?_) R.hyg, R.lys, fun i y h => e _ _ (m _ ?_) (R.hys i y h), e _ _ (m _ ?_) R.hkn⟩
  · rw [f0]; simp
  · rw [f0]; simp
  · have x := R.hps i p h
    exact ⟨x.choose, e _ _ (List.mem_append_right _ (List.mem_of_getElem? h)) x.choose_spec⟩
  · rw [f0]; simp
  · rw [f0]; simp
  · rw [f0]
    have := List.mem_of_getElem? h
    simp [this]
  · rw [f0]; simp
section
variable {C : Cs} {A : TA} {a : HA} {D : TreeD} {s : HS} {H H' : Hp} {i : Nat}
theorem ne_rl {f : Addr → Role} {x b : Addr} (h : f b ≠ f x) : b ≠ x := fun e => h (e ▸ rfl)
theorem same_none {b : Addr} (e : Same H H') (h : H' b = none) : H b = none := by
  cases hb : H b with
  | none => rfl
  | some o => rw [e _ _ hb] at h; cases h
theorem HR.keepTr (R : HR C A a D s H) {x : Addr} {o : HO} (r : a.rl x ≠ .tr) : TRm C.T C.cls A D (upd H x o) :=
  { R.tr.toTR.keep (fun b u hb hu => by rw [upd_ne (ne_rl (f := a.rl) (by rw [R.r_tr b hb]; exact r.symm))]; exact hu) with nd := R.tr.nd }
theorem HR.same (R : HR C A a D s H) (e : Same H H') : HR C A a D s H' :=
  { tr := R.tr.same e, hh := e _ _ R.hh, hb := e _ _ R.hb, he := e _ _ R.he, lt := R.lt, ht := fun k t x h1 h2 => e _ _ (R.ht k t x h1 h2), hpl := e _ _ R.hpl, hhd := e _ _ R.hhd, lk := R.lk, hk := fun k t x h1 h2 => e _ _ (R.hk k t x h1 h2),
    hpo := fun i h => e _ _ (R.hpo i h), hfa := fun i h => e _ _ (R.hfa i h), hwa := fun i h => e _ _ (R.hwa i h), r_tr := R.r_tr, r_h := R.r_h, r_bk := R.r_bk, r_en := R.r_en, r_pl := R.r_pl, r_hd := R.r_hd, r_ts := R.r_ts, r_ks := R.r_ks, r_po := R.r_po, r_fa := R.r_fa, r_wa := R.r_wa,
    free := fun b h => R.free b (same_none e h) }
theorem Fr.same {n : Nat} (e : Same H H') : Fr n a H a H' := ⟨rfl, fun b o r h => ⟨r, e _ _ h⟩, fun b h => same_none e h, fun _ _ => rfl⟩
theorem upd_none {H : Hp} {x b : Addr} {o o' : HO} (hx : H x = some o') : upd H x o b = none → H b = none := fun h => by
  by_cases e : b = x
  · subst e
    rw [upd_same] at h
    cases h
  · rw [upd_ne e] at h
    exact h
/-- a post changes -/
theorem HR.post (R : HR C A a D s H) (hi : i < D.n) {p : Post} (hf : p.falls = (s.posts i).falls) (hw : p.waiting = (s.posts i).waiting) : HR C A a D (s.put i p) (upd H (a.po i) (.ins C.P (a.pdx i) (postF (a.fa i) (a.wa i) p))) := by
  have ri := R.r_po i hi
  have kp : ∀ b u, a.rl b ≠ .po i → H b = some u → upd H (a.po i) (.ins C.P (a.pdx i) (postF (a.fa i) (a.wa i) p)) b = some u := fun b u hb hu => by
    rw [upd_ne (ne_rl (f := a.rl) (by rw [ri]; exact hb))]
    exact hu
  refine { R with tr := R.keepTr (by rw [ri]; intro z; cases z), hh := kp _ _ (by rw [R.r_h]; intro z; cases z) R.hh, hb := kp _ _ (by rw [R.r_bk]; intro z; cases z) R.hb, he := kp _ _ (by rw [R.r_en]; intro z; cases z) R.he, ht := fun k t x h1 h2 => kp _ _ (by rw [R.r_ts t (List.mem_of_getElem? h1)]; intro z; cases z) (R.ht k t x h1 h2), hpl := kp _ _ (by rw [R.r_pl]; intro z; cases z) R.hpl, hhd := kp _ _ (by rw [R.r_hd]; intro z; cases z) R.hhd, hk := fun k t x h1 h2 => kp _ _ (by rw [R.r_ks t (List.mem_of_getElem? h1)]; intro z; cases z) (R.hk k t x h1 h2), hpo := fun j hj => ?_, hfa := fun j hj => ?_, hwa := fun j hj => ?_, free := fun b h => R.free b (upd_none (R.hpo i hi) h) }
  · show upd _ _ _ (a.po j) = some (.ins _ _ (postF _ _ (if j = i then p else s.posts j)))
    by_cases e : j = i
    · subst e
      rw [upd_same, if_pos rfl]
    · rw [if_neg e]
      exact kp _ _ (by rw [R.r_po j hj]; intro z; injection z with z; exact e z) (R.hpo j hj)
  · show upd _ _ _ (a.fa j) = some (.lst ((if j = i then p else s.posts j).falls.map V.int))
    refine kp _ _ (by rw [R.r_fa j hj]; intro z; cases z) ?_
    by_cases e : j = i
    · subst e
      rw [if_pos rfl, hf]
      exact R.hfa j hj
    · rw [if_neg e]
      exact R.hfa j hj
  · show upd _ _ _ (a.wa j) = some (.lst ((if j = i then p else s.posts j).waiting.map fun j : Nat => V.int j))
    refine kp _ _ (by rw [R.r_wa j hj]; intro z; cases z) ?_
    by_cases e : j = i
    · subst e
      rw [if_pos rfl, hw]
      exact R.hwa j hj
    · rw [if_neg e]
      exact R.hwa j hj
/-- something of the house's own is put anew -/
theorem Fr.own {n : Nat} {x : Addr} {o o' : HO} (hx : H x = some o') (r : a.rl x ≠ .out) : Fr n a H a (upd H x o) :=
  ⟨rfl, fun b u hb hu => ⟨hb, by rw [upd_ne (ne_rl (f := a.rl) (by rw [hb]; exact r.symm))]; exact hu⟩, fun b h => upd_none hx h, fun _ _ => rfl⟩
/-- an own thing put anew: what has another role stays -/
theorem HR.kp (R : HR C A a D s H) {x : Addr} {o : HO} {r r' : Role} (rx : a.rl x = r) {b : Addr} {u : HO} (hb : a.rl b = r') (nr : r' ≠ r) (hu : H b = some u) : upd H x o b = some u := by
  rw [upd_ne (ne_rl (f := a.rl) (by rw [rx, hb]; exact nr))]
  exact hu
/-- an entry more -/
def HA.noteA (a : HA) (t : Addr) : HA := { a with ts := a.ts ++ [t], rl := fun b => if b = t then .im else a.rl b }
theorem rl_new {f : Addr → Role} {t b : Addr} {r r0 : Role} (hb : f b = r) (ht : f t = .out) (h : r ≠ .out) : (if b = t then r0 else f b) = r := by
  rw [if_neg (fun e => h (by rw [← hb, e, ht]))]
  exact hb
theorem HR.noteR (R : HR C A a D s H) {t : Addr} {w : Wd} (ht : H t = some (.tup (entV D ⟨s.clock, w, i⟩))) (rt : a.rl t = .out) : HR C A (a.noteA t) D (s.note w i) (upd H a.en (.lst (a.ts.map V.ref ++ [V.ref t]))) := by
  have re := R.r_en
  have kp : ∀ b u {r' : Role}, a.rl b = r' → r' ≠ .en → H b = some u → upd H a.en (.lst (a.ts.map V.ref ++ [V.ref t])) b = some u := fun b u _ hb nr hu => R.kp re hb nr hu
  refine { tr := R.keepTr (by rw [re]; intro z; cases z), hh := kp _ _ (R.r_h) (by intro z; cases z) R.hh, hb := kp _ _ (R.r_bk) (by intro z; cases z) R.hb, he := ?_, lt := ?_, ht := fun k x e h1 h2 => ?_, hpl := kp _ _ (R.r_pl) (by intro z; cases z) R.hpl, hhd := kp _ _ (R.r_hd) (by intro z; cases z) R.hhd, lk := R.lk, hk := fun k t x h1 h2 => kp _ _ (R.r_ks t (List.mem_of_getElem? h1)) (by intro z; cases z) (R.hk k t x h1 h2), hpo := fun j hj => kp _ _ (R.r_po j hj) (by intro z; cases z) (R.hpo j hj), hfa := fun j hj => kp _ _ (R.r_fa j hj) (by intro z; cases z) (R.hfa j hj), hwa := fun j hj => kp _ _ (R.r_wa j hj) (by intro z; cases z) (R.hwa j hj), r_tr := fun b hb => rl_new (R.r_tr b hb) rt (by intro z; cases z), r_h := rl_new R.r_h rt (by intro z; cases z), r_bk := rl_new R.r_bk rt (by intro z; cases z), r_en := rl_new R.r_en rt (by intro z; cases z), r_pl := rl_new R.r_pl rt (by intro z; cases z), r_hd := rl_new R.r_hd rt (by intro z; cases z), r_ts := fun b hb => ?_, r_ks := fun b hb => rl_new (R.r_ks b hb) rt (by intro z; cases z), r_po := fun j hj => rl_new (R.r_po j hj) rt (by intro z; cases z), r_fa := fun j hj => rl_new (R.r_fa j hj) rt (by intro z; cases z), r_wa := fun j hj => rl_new (R.r_wa j hj) rt (by intro z; cases z), free := fun b h => ?_ }
  · show upd _ _ _ a.en = some (.lst ((a.ts ++ [t]).map V.ref))
    rw [upd_same, List.map_append]
    rfl
  · show (a.ts ++ [t]).length = (s.book ++ [_]).length
    rw [List.length_append, List.length_append, R.lt]
    rfl
  · have h1 : (a.ts ++ [t])[k]? = some x := h1
    have h2 : (s.book ++ [⟨s.clock, w, i⟩])[k]? = some e := h2
    by_cases c : k < a.ts.length
    · rw [List.getElem?_append_left c] at h1
      rw [List.getElem?_append_left (by rw [← R.lt]; exact c)] at h2
      exact kp _ _ (R.r_ts _ (List.mem_of_getElem? h1)) (by intro z; cases z) (R.ht k x e h1 h2)
    · have c2 : k = a.ts.length := by
        have := (List.getElem?_eq_some_iff.mp h1).choose
        rw [List.length_append, List.length_singleton] at this
        omega
      subst c2
      rw [List.getElem?_append_right (Nat.le_refl _), Nat.sub_self] at h1
      rw [List.getElem?_append_right (by rw [R.lt]; exact Nat.le_refl _), R.lt, Nat.sub_self] at h2
      obtain rfl := Option.some.inj h1
      obtain rfl := Option.some.inj h2
      exact kp _ _ (rt) (by intro z; cases z) ht
  · show (if b = t then Role.im else a.rl b) = .im
    by_cases c : b = t
    · rw [if_pos c]
    · rw [if_neg c]
      rcases List.mem_append.mp hb with hb | hb
      · exact R.r_ts b hb
      · exact absurd (List.mem_singleton.mp hb) c
  · have h0 : H b = none := upd_none R.he h
    show (if b = t then Role.im else a.rl b) = .out
    rw [if_neg (fun e => by rw [e, ht] at h0; cases h0)]
    exact R.free b h0
theorem Fr.note {n : Nat} {H0 : Hp} (R : HR C A a D s H) {t : Addr} {o : HO} (e : Same H0 H) (ht : H0 t = none) : Fr n a H0 (a.noteA t) (upd H a.en o) :=
  ⟨rfl, fun b u hb hu => by
    have hn : b ≠ t := neN ht hu
    exact ⟨by show (if b = t then Role.im else a.rl b) = .out; rw [if_neg hn]; exact hb, R.kp R.r_en hb (by intro z; cases z) (e _ _ hu)⟩, fun b h => same_none e (upd_none R.he h), fun _ _ => rfl⟩
end
end Mn

namespace Mn
open PySem PySem.Spec PyProof.Rows L2 TL
section
variable {C : Cs} {A : TA} {a : HA} {D : TreeD} {s : HS} {H H' : Hp} {i : Nat}
/-- one more is heard of -/
def HA.pushA (a : HA) (t : Addr) : HA := { a with ks := a.ks ++ [t], rl := fun b => if b = t then .im else a.rl b }
theorem HR.pushR (R : HR C A a D s H) {t : Addr} {x : Nat × Bool} (ht : H t = some (.tup (hrdV x))) (rt : a.rl t = .out) : HR C A (a.pushA t) D { s with heard := s.heard ++ [x] } (upd H a.hd (.lst (a.ks.map V.ref ++ [V.ref t]))) := by
  have re := R.r_hd
  have hx := R.hhd
  have kp : ∀ b u {r' : Role}, a.rl b = r' → r' ≠ _ → H b = some u → upd H a.hd (.lst (a.ks.map V.ref ++ [V.ref t])) b = some u := fun b u _ hb nr hu => R.kp re hb nr hu
  refine { tr := R.keepTr (by rw [re]; intro z; cases z), hh := kp _ _ (R.r_h) (by intro z; cases z) (R.hh), hb := kp _ _ (R.r_bk) (by intro z; cases z) (R.hb), he := kp _ _ (R.r_en) (by intro z; cases z) (R.he), lt := R.lt, ht := fun k t x h1 h2 => kp _ _ (R.r_ts t (List.mem_of_getElem? h1)) (by intro z; cases z) (R.ht k t x h1 h2), hpl := kp _ _ (R.r_pl) (by intro z; cases z) (R.hpl), hhd := ?_, lk := ?_, hk := fun k y e h1 h2 => ?_, hpo := fun j hj => kp _ _ (R.r_po j hj) (by intro z; cases z) (R.hpo j hj), hfa := fun j hj => kp _ _ (R.r_fa j hj) (by intro z; cases z) (R.hfa j hj), hwa := fun j hj => kp _ _ (R.r_wa j hj) (by intro z; cases z) (R.hwa j hj), r_tr := fun b hb => rl_new (R.r_tr b hb) rt (by intro z; cases z), r_h := rl_new (R.r_h) rt (by intro z; cases z), r_bk := rl_new (R.r_bk) rt (by intro z; cases z), r_en := rl_new (R.r_en) rt (by intro z; cases z), r_pl := rl_new (R.r_pl) rt (by intro z; cases z), r_hd := rl_new (R.r_hd) rt (by intro z; cases z), r_ts := fun b hb => rl_new (R.r_ts b hb) rt (by intro z; cases z), r_ks := fun b hb => ?_, r_po := fun j hj => rl_new (R.r_po j hj) rt (by intro z; cases z), r_fa := fun j hj => rl_new (R.r_fa j hj) rt (by intro z; cases z), r_wa := fun j hj => rl_new (R.r_wa j hj) rt (by intro z; cases z), free := fun b h => ?_ }
  · show upd _ _ _ a.hd = some (.lst ((a.ks ++ [t]).map V.ref))
    rw [upd_same, List.map_append]
    rfl
  · show (a.ks ++ [t]).length = (s.heard ++ [_]).length
    rw [List.length_append, List.length_append, R.lk]
    rfl
  · have h1 : (a.ks ++ [t])[k]? = some y := h1
    have h2 : (s.heard ++ [x])[k]? = some e := h2
    by_cases c : k < a.ks.length
    · rw [List.getElem?_append_left c] at h1
      rw [List.getElem?_append_left (by rw [← R.lk]; exact c)] at h2
      exact kp _ _ (R.r_ks _ (List.mem_of_getElem? h1)) (by intro z; cases z) (R.hk k y e h1 h2)
    · have c2 : k = a.ks.length := by
        have := (List.getElem?_eq_some_iff.mp h1).choose
        rw [List.length_append, List.length_singleton] at this
        omega
      subst c2
      rw [List.getElem?_append_right (Nat.le_refl _), Nat.sub_self] at h1
      rw [List.getElem?_append_right (by rw [R.lk]; exact Nat.le_refl _), R.lk, Nat.sub_self] at h2
      obtain rfl := Option.some.inj h1
      obtain rfl := Option.some.inj h2
      exact kp _ _ rt (by intro z; cases z) ht
  · show (if b = t then Role.im else a.rl b) = .im
    by_cases c : b = t
    · rw [if_pos c]
    · rw [if_neg c]
      rcases List.mem_append.mp hb with hb | hb
      · exact R.r_ks b hb
      · exact absurd (List.mem_singleton.mp hb) c
  · have h0 : H b = none := upd_none R.hhd h
    show (if b = t then Role.im else a.rl b) = .out
    rw [if_neg (fun e => by rw [e, ht] at h0; cases h0)]
    exact R.free b h0
theorem Fr.pushed {n : Nat} {H0 : Hp} (R : HR C A a D s H) {t : Addr} {o : HO} (e : Same H0 H) (ht : H0 t = none) : Fr n a H0 (a.pushA t) (upd H a.hd o) :=
  ⟨rfl, fun b u hb hu => by
    have hn : b ≠ t := neN ht hu
    exact ⟨by show (if b = t then Role.im else a.rl b) = .out; rw [if_neg hn]; exact hb, R.kp R.r_hd hb (by intro z; cases z) (e _ _ hu)⟩, fun b h => same_none e (upd_none R.hhd h), fun _ _ => rfl⟩
/-- the first that was heard of is taken -/
def HA.popA (a : HA) : HA := { a with ks := a.ks.drop 1 }
theorem HR.popR (R : HR C A a D s H) {x : Nat × Bool} {r : List (Nat × Bool)} (hs : s.heard = x :: r) : HR C A a.popA D { s with heard := r } (upd H a.hd (.lst ((a.ks.drop 1).map V.ref))) := by
  have re := R.r_hd
  have hx := R.hhd
  have kp : ∀ b u {r' : Role}, a.rl b = r' → r' ≠ _ → H b = some u → upd H a.hd (.lst ((a.ks.drop 1).map V.ref)) b = some u := fun b u _ hb nr hu => R.kp re hb nr hu
  refine { tr := R.keepTr (by rw [re]; intro z; cases z), hh := kp _ _ (R.r_h) (by intro z; cases z) (R.hh), hb := kp _ _ (R.r_bk) (by intro z; cases z) (R.hb), he := kp _ _ (R.r_en) (by intro z; cases z) (R.he), lt := R.lt, ht := fun k t x h1 h2 => kp _ _ (R.r_ts t (List.mem_of_getElem? h1)) (by intro z; cases z) (R.ht k t x h1 h2), hpl := kp _ _ (R.r_pl) (by intro z; cases z) (R.hpl), hhd := ?_, lk := ?_, hk := fun k y e h1 h2 => ?_, hpo := fun j hj => kp _ _ (R.r_po j hj) (by intro z; cases z) (R.hpo j hj), hfa := fun j hj => kp _ _ (R.r_fa j hj) (by intro z; cases z) (R.hfa j hj), hwa := fun j hj => kp _ _ (R.r_wa j hj) (by intro z; cases z) (R.hwa j hj), r_tr := fun b hb => R.r_tr b hb, r_h := R.r_h, r_bk := R.r_bk, r_en := R.r_en, r_pl := R.r_pl, r_hd := R.r_hd, r_ts := fun b hb => R.r_ts b hb, r_ks := fun b hb => R.r_ks b (List.mem_of_mem_drop hb), r_po := fun j hj => R.r_po j hj, r_fa := fun j hj => R.r_fa j hj, r_wa := fun j hj => R.r_wa j hj, free := fun b h => R.free b (upd_none hx h) }
  · show upd _ _ _ a.hd = some (.lst ((a.ks.drop 1).map V.ref))
    rw [upd_same]
  · show (a.ks.drop 1).length = r.length
    rw [List.length_drop, R.lk, hs]
    rfl
  · have h1 : (a.ks.drop 1)[k]? = some y := h1
    rw [List.getElem?_drop] at h1
    exact kp _ _ (R.r_ks _ (List.mem_of_getElem? h1)) (by intro z; cases z) (R.hk (1 + k) y e h1 (by rw [hs, Nat.add_comm]; exact h2))
theorem Fr.popped {n : Nat} (R : HR C A a D s H) {o : HO} : Fr n a H a.popA (upd H a.hd o) :=
  ⟨rfl, fun b u hb hu => ⟨hb, R.kp R.r_hd hb (by intro z; cases z) hu⟩, fun b h => upd_none R.hhd h, fun _ _ => rfl⟩
/-- the clock -/
theorem HR.clockR (R : HR C A a D s H) {n : Nat} : HR C A a D { s with clock := n } (upd H a.h (.ins C.H a.dxh (houseF A a n))) := by
  have re := R.r_h
  have hx := R.hh
  have kp : ∀ b u {r' : Role}, a.rl b = r' → r' ≠ _ → H b = some u → upd H a.h (.ins C.H a.dxh (houseF A a n)) b = some u := fun b u _ hb nr hu => R.kp re hb nr hu
  refine { tr := R.keepTr (by rw [re]; intro z; cases z), hh := ?_, hb := kp _ _ (R.r_bk) (by intro z; cases z) (R.hb), he := kp _ _ (R.r_en) (by intro z; cases z) (R.he), lt := R.lt, ht := fun k t x h1 h2 => kp _ _ (R.r_ts t (List.mem_of_getElem? h1)) (by intro z; cases z) (R.ht k t x h1 h2), hpl := kp _ _ (R.r_pl) (by intro z; cases z) (R.hpl), hhd := kp _ _ (R.r_hd) (by intro z; cases z) (R.hhd), lk := R.lk, hk := fun k t x h1 h2 => kp _ _ (R.r_ks t (List.mem_of_getElem? h1)) (by intro z; cases z) (R.hk k t x h1 h2), hpo := fun j hj => kp _ _ (R.r_po j hj) (by intro z; cases z) (R.hpo j hj), hfa := fun j hj => kp _ _ (R.r_fa j hj) (by intro z; cases z) (R.hfa j hj), hwa := fun j hj => kp _ _ (R.r_wa j hj) (by intro z; cases z) (R.hwa j hj), r_tr := fun b hb => R.r_tr b hb, r_h := R.r_h, r_bk := R.r_bk, r_en := R.r_en, r_pl := R.r_pl, r_hd := R.r_hd, r_ts := fun b hb => R.r_ts b hb, r_ks := fun b hb => R.r_ks b hb, r_po := fun j hj => R.r_po j hj, r_fa := fun j hj => R.r_fa j hj, r_wa := fun j hj => R.r_wa j hj, free := fun b h => R.free b (upd_none hx h) }
  exact upd_same
/-- a post with other falls -/
def HA.faA (a : HA) (i : Nat) (f : Addr) : HA := { a with fa := fun j => if j = i then f else a.fa j, rl := fun b => if b = f then .fa i else a.rl b }
theorem HR.faR (R : HR C A a D s H) (hi : i < D.n) {p : Post} {f : Addr} (hf : H f = some (.lst (p.falls.map V.int))) (rt : a.rl f = .out) (hw : p.waiting = (s.posts i).waiting) : HR C A (a.faA i f) D (s.put i p) (upd H (a.po i) (.ins C.P (a.pdx i) (postF f (a.wa i) p))) := by
  have re := R.r_po i hi
  have hx := R.hpo i hi
  have kp : ∀ b u {r' : Role}, a.rl b = r' → r' ≠ _ → H b = some u → upd H (a.po i) (.ins C.P (a.pdx i) (postF f (a.wa i) p)) b = some u := fun b u _ hb nr hu => R.kp re hb nr hu
  refine { tr := R.keepTr (by rw [re]; intro z; cases z), hh := kp _ _ (R.r_h) (by intro z; cases z) (R.hh), hb := kp _ _ (R.r_bk) (by intro z; cases z) (R.hb), he := kp _ _ (R.r_en) (by intro z; cases z) (R.he), lt := R.lt, ht := fun k t x h1 h2 => kp _ _ (R.r_ts t (List.mem_of_getElem? h1)) (by intro z; cases z) (R.ht k t x h1 h2), hpl := kp _ _ (R.r_pl) (by intro z; cases z) (R.hpl), hhd := kp _ _ (R.r_hd) (by intro z; cases z) (R.hhd), lk := R.lk, hk := fun k t x h1 h2 => kp _ _ (R.r_ks t (List.mem_of_getElem? h1)) (by intro z; cases z) (R.hk k t x h1 h2), hpo := fun j hj => ?_, hfa := fun j hj => ?_, hwa := fun j hj => ?_, r_tr := fun b hb => rl_new (R.r_tr b hb) rt (by intro z; cases z), r_h := rl_new (R.r_h) rt (by intro z; cases z), r_bk := rl_new (R.r_bk) rt (by intro z; cases z), r_en := rl_new (R.r_en) rt (by intro z; cases z), r_pl := rl_new (R.r_pl) rt (by intro z; cases z), r_hd := rl_new (R.r_hd) rt (by intro z; cases z), r_ts := fun b hb => rl_new (R.r_ts b hb) rt (by intro z; cases z), r_ks := fun b hb => rl_new (R.r_ks b hb) rt (by intro z; cases z), r_po := fun j hj => rl_new (R.r_po j hj) rt (by intro z; cases z), r_fa := fun j hj => ?_, r_wa := fun j hj => rl_new (R.r_wa j hj) rt (by intro z; cases z), free := fun b h => ?_ }
  · show upd _ _ _ (a.po j) = some (.ins _ _ (postF (if j = i then f else a.fa j) _ (if j = i then p else s.posts j)))
    by_cases e : j = i
    · subst e
      rw [upd_same, if_pos rfl, if_pos rfl]
      rfl
    · rw [if_neg e, if_neg e]
      exact kp _ _ (R.r_po j hj) (by intro z; injection z with z; exact e z) (R.hpo j hj)
  · show upd _ _ _ (if j = i then f else a.fa j) = some (.lst ((if j = i then p else s.posts j).falls.map V.int))
    by_cases e : j = i
    · rw [if_pos e, if_pos e]
      exact kp _ _ rt (by intro z; cases z) hf
    · rw [if_neg e, if_neg e]
      exact kp _ _ (R.r_fa j hj) (by intro z; cases z) (R.hfa j hj)
  · show upd _ _ _ (a.wa j) = some (.lst ((if j = i then p else s.posts j).waiting.map fun j : Nat => V.int j))
    refine kp _ _ (R.r_wa j hj) (by intro z; cases z) ?_
    by_cases e : j = i
    · subst e
      rw [if_pos rfl, hw]
      exact R.hwa j hj
    · rw [if_neg e]
      exact R.hwa j hj
  · show (if (if j = i then f else a.fa j) = f then Role.fa i else a.rl (if j = i then f else a.fa j)) = .fa j
    by_cases e : j = i
    · rw [if_pos e, if_pos rfl, e]
    · rw [if_neg e]
      exact rl_new (R.r_fa j hj) rt (by intro z; cases z)
  · have h0 : H b = none := upd_none hx h
    show (if b = f then Role.fa i else a.rl b) = .out
    rw [if_neg (fun e => by rw [e, hf] at h0; cases h0)]
    exact R.free b h0
theorem Fr.falls {n : Nat} {H0 : Hp} (R : HR C A a D s H) (hi : i < D.n) {f : Addr} {o : HO} (e : Same H0 H) (hf : H0 f = none) : Fr n a H0 (a.faA i f) (upd H (a.po i) o) :=
  ⟨rfl, fun b u hb hu => by
    have hn : b ≠ f := neN hf hu
    exact ⟨by show (if b = f then Role.fa i else a.rl b) = .out; rw [if_neg hn]; exact hb, R.kp (R.r_po i hi) hb (by intro z; cases z) (e _ _ hu)⟩, fun b h => same_none e (upd_none (R.hpo i hi) h), fun _ _ => rfl⟩
/-- a post whose waiting ones are those of a new list; the old one is let go -/
def HA.waA (a : HA) (i : Nat) (f : Addr) : HA := { a with wa := fun j => if j = i then f else a.wa j, rl := fun b => if b = f then .wa i else if b = a.wa i then .out else a.rl b }
theorem rl_wa {f : Addr → Role} {t b o : Addr} {r r0 : Role} (hb : f b = r) (ht : f t = .out) (h : r ≠ .out) {ro : Role} (ho : f o = ro) (h2 : r ≠ ro) : (if b = t then r0 else if b = o then Role.out else f b) = r := by
  rw [if_neg (fun e => h (by rw [← hb, e, ht])), if_neg (fun e => h2 (by rw [← hb, e, ho]))]
  exact hb
theorem HR.waR (R : HR C A a D s H) (hi : i < D.n) {p : Post} {f : Addr} (hf : H f = some (.lst (p.waiting.map fun j : Nat => V.int j))) (rt : a.rl f = .out) (hw : p.falls = (s.posts i).falls) : HR C A (a.waA i f) D (s.put i p) (upd H (a.po i) (.ins C.P (a.pdx i) (postF (a.fa i) f p))) := by
  have re := R.r_po i hi
  have hx := R.hpo i hi
  have kp : ∀ b u {r' : Role}, a.rl b = r' → r' ≠ _ → H b = some u → upd H (a.po i) (.ins C.P (a.pdx i) (postF (a.fa i) f p)) b = some u := fun b u _ hb nr hu => R.kp re hb nr hu
  have ro := R.r_wa i hi
  refine { tr := R.keepTr (by rw [re]; intro z; cases z), hh := kp _ _ (R.r_h) (by intro z; cases z) (R.hh), hb := kp _ _ (R.r_bk) (by intro z; cases z) (R.hb), he := kp _ _ (R.r_en) (by intro z; cases z) (R.he), lt := R.lt, ht := fun k t x h1 h2 => kp _ _ (R.r_ts t (List.mem_of_getElem? h1)) (by intro z; cases z) (R.ht k t x h1 h2), hpl := kp _ _ (R.r_pl) (by intro z; cases z) (R.hpl), hhd := kp _ _ (R.r_hd) (by intro z; cases z) (R.hhd), lk := R.lk, hk := fun k t x h1 h2 => kp _ _ (R.r_ks t (List.mem_of_getElem? h1)) (by intro z; cases z) (R.hk k t x h1 h2), hpo := fun j hj => ?_, hfa := fun j hj => ?_, hwa := fun j hj => ?_, r_tr := fun b hb => rl_wa (R.r_tr b hb) rt (by intro z; cases z) ro (by intro z; cases z), r_h := rl_wa (R.r_h) rt (by intro z; cases z) ro (by intro z; cases z), r_bk := rl_wa (R.r_bk) rt (by intro z; cases z) ro (by intro z; cases z), r_en := rl_wa (R.r_en) rt (by intro z; cases z) ro (by intro z; cases z), r_pl := rl_wa (R.r_pl) rt (by intro z; cases z) ro (by intro z; cases z), r_hd := rl_wa (R.r_hd) rt (by intro z; cases z) ro (by intro z; cases z), r_ts := fun b hb => rl_wa (R.r_ts b hb) rt (by intro z; cases z) ro (by intro z; cases z), r_ks := fun b hb => rl_wa (R.r_ks b hb) rt (by intro z; cases z) ro (by intro z; cases z), r_po := fun j hj => rl_wa (R.r_po j hj) rt (by intro z; cases z) ro (by intro z; cases z), r_fa := fun j hj => rl_wa (R.r_fa j hj) rt (by intro z; cases z) ro (by intro z; cases z), r_wa := fun j hj => ?_, free := fun b h => ?_ }
  · show upd _ _ _ (a.po j) = some (.ins _ _ (postF _ (if j = i then f else a.wa j) (if j = i then p else s.posts j)))
    by_cases e : j = i
    · subst e
      rw [upd_same, if_pos rfl, if_pos rfl]
      rfl
    · rw [if_neg e, if_neg e]
      exact kp _ _ (R.r_po j hj) (by intro z; injection z with z; exact e z) (R.hpo j hj)
  · show upd _ _ _ (a.fa j) = some (.lst ((if j = i then p else s.posts j).falls.map V.int))
    refine kp _ _ (R.r_fa j hj) (by intro z; cases z) ?_
    by_cases e : j = i
    · subst e
      rw [if_pos rfl, hw]
      exact R.hfa j hj
    · rw [if_neg e]
      exact R.hfa j hj
  · show upd _ _ _ (if j = i then f else a.wa j) = some (.lst ((if j = i then p else s.posts j).waiting.map fun j : Nat => V.int j))
    by_cases e : j = i
    · rw [if_pos e, if_pos e]
      exact kp _ _ rt (by intro z; cases z) hf
    · rw [if_neg e, if_neg e]
      exact kp _ _ (R.r_wa j hj) (by intro z; cases z) (R.hwa j hj)
  · show (if (if j = i then f else a.wa j) = f then Role.wa i else if (if j = i then f else a.wa j) = a.wa i then Role.out else a.rl (if j = i then f else a.wa j)) = .wa j
    by_cases e : j = i
    · rw [if_pos e, if_pos rfl, e]
    · rw [if_neg e]
      exact rl_wa (R.r_wa j hj) rt (by intro z; cases z) ro (by intro z; injection z with z; exact e z)
  · have h0 : H b = none := upd_none hx h
    show (if b = f then Role.wa i else if b = a.wa i then Role.out else a.rl b) = .out
    rw [if_neg (fun e => by rw [e, hf] at h0; cases h0)]
    by_cases e : b = a.wa i
    · rw [if_pos e]
    · rw [if_neg e]
      exact R.free b h0
theorem Fr.waits {n : Nat} {H0 : Hp} (R : HR C A a D s H) (hi : i < D.n) {f : Addr} {o : HO} (e : Same H0 H) (hf : H0 f = none) : Fr n a H0 (a.waA i f) (upd H (a.po i) o) :=
  ⟨rfl, fun b u hb hu => by
    have hn : b ≠ f := neN hf hu
    refine ⟨?_, R.kp (R.r_po i hi) hb (by intro z; cases z) (e _ _ hu)⟩
    show (if b = f then Role.wa i else if b = a.wa i then Role.out else a.rl b) = .out
    rw [if_neg hn]
    by_cases c : b = a.wa i
    · rw [if_pos c]
    · rw [if_neg c]
      exact hb, fun b h => same_none e (upd_none (R.hpo i hi) h), fun _ _ => rfl⟩
/-- one more waits -/
theorem HR.wappR (R : HR C A a D s H) (hi : i < D.n) {c : Nat} : HR C A a D (s.put i { s.posts i with waiting := (s.posts i).waiting ++ [c] }) (upd H (a.wa i) (.lst (((s.posts i).waiting.map fun j : Nat => V.int j) ++ [V.int (c : Int)]))) := by
  have re := R.r_wa i hi
  have hx := R.hwa i hi
  have kp : ∀ b u {r' : Role}, a.rl b = r' → r' ≠ _ → H b = some u → upd H (a.wa i) (.lst (((s.posts i).waiting.map fun j : Nat => V.int j) ++ [V.int (c : Int)])) b = some u := fun b u _ hb nr hu => R.kp re hb nr hu
  refine { tr := R.keepTr (by rw [re]; intro z; cases z), hh := kp _ _ (R.r_h) (by intro z; cases z) (R.hh), hb := kp _ _ (R.r_bk) (by intro z; cases z) (R.hb), he := kp _ _ (R.r_en) (by intro z; cases z) (R.he), lt := R.lt, ht := fun k t x h1 h2 => kp _ _ (R.r_ts t (List.mem_of_getElem? h1)) (by intro z; cases z) (R.ht k t x h1 h2), hpl := kp _ _ (R.r_pl) (by intro z; cases z) (R.hpl), hhd := kp _ _ (R.r_hd) (by intro z; cases z) (R.hhd), lk := R.lk, hk := fun k t x h1 h2 => kp _ _ (R.r_ks t (List.mem_of_getElem? h1)) (by intro z; cases z) (R.hk k t x h1 h2), hpo := fun j hj => ?_, hfa := fun j hj => ?_, hwa := fun j hj => ?_, r_tr := fun b hb => R.r_tr b hb, r_h := R.r_h, r_bk := R.r_bk, r_en := R.r_en, r_pl := R.r_pl, r_hd := R.r_hd, r_ts := fun b hb => R.r_ts b hb, r_ks := fun b hb => R.r_ks b hb, r_po := fun j hj => R.r_po j hj, r_fa := fun j hj => R.r_fa j hj, r_wa := fun j hj => R.r_wa j hj, free := fun b h => R.free b (upd_none hx h) }
  · show upd _ _ _ (a.po j) = some (.ins _ _ (postF _ _ (if j = i then _ else s.posts j)))
    refine kp _ _ (R.r_po j hj) (by intro z; cases z) ?_
    by_cases e : j = i
    · subst e
      rw [if_pos rfl]
      exact R.hpo j hj
    · rw [if_neg e]
      exact R.hpo j hj
  · show upd _ _ _ (a.fa j) = some (.lst ((if j = i then _ else s.posts j).falls.map V.int))
    refine kp _ _ (R.r_fa j hj) (by intro z; cases z) ?_
    by_cases e : j = i
    · subst e
      rw [if_pos rfl]
      exact R.hfa j hj
    · rw [if_neg e]
      exact R.hfa j hj
  · show upd _ _ _ (a.wa j) = some (.lst ((if j = i then _ else s.posts j).waiting.map fun j : Nat => V.int j))
    by_cases e : j = i
    · subst e
      rw [upd_same, if_pos rfl, List.map_append]
      rfl
    · rw [if_neg e]
      exact kp _ _ (R.r_wa j hj) (by intro z; injection z with z; exact e z) (R.hwa j hj)
/-- a new post -/
def HA.newA (a : HA) (i : Nat) (p dx f g : Addr) : HA := { a with po := fun j => if j = i then p else a.po j, pdx := fun j => if j = i then dx else a.pdx j, fa := fun j => if j = i then f else a.fa j, wa := fun j => if j = i then g else a.wa j, rl := fun b => if b = p then .po i else if b = f then .fa i else if b = g then .wa i else a.rl b }
theorem rl_n3 {f : Addr → Role} {p q g b : Addr} {r r0 r1 r2 : Role} (hb : f b = r) (hp : f p = .out) (hq : f q = .out) (hg : f g = .out) (h : r ≠ .out) : (if b = p then r0 else if b = q then r1 else if b = g then r2 else f b) = r := by
  rw [if_neg (fun e => h (by rw [← hb, e, hp])), if_neg (fun e => h (by rw [← hb, e, hq])), if_neg (fun e => h (by rw [← hb, e, hg]))]
  exact hb
theorem HR.newR (R : HR C A a D s H) (hi : i < D.n) {q : Post} {p dx f g : Addr} (hp : H p = some (.ins C.P dx (postF f g q))) (hf : H f = some (.lst (q.falls.map V.int))) (hg : H g = some (.lst (q.waiting.map fun j : Nat => V.int j))) (n : f ≠ g) (rp : a.rl p = .out) (rf : a.rl f = .out) (rg : a.rl g = .out) :
    HR C A (a.newA i p dx f g) D (s.put i q) (upd H a.pl (.lst (((List.range D.n).map fun i => V.ref (a.po i)).set i (V.ref p)))) := by
  have re := R.r_pl
  have hx := R.hpl
  have kp : ∀ b u {r' : Role}, a.rl b = r' → r' ≠ _ → H b = some u → upd H a.pl (.lst (((List.range D.n).map fun i => V.ref (a.po i)).set i (V.ref p))) b = some u := fun b u _ hb nr hu => R.kp re hb nr hu
  have n1 : f ≠ p := fun e => by rw [e, hp] at hf; cases hf
  have n2 : g ≠ p := fun e => by rw [e, hp] at hg; cases hg
  refine { tr := R.keepTr (by rw [re]; intro z; cases z), hh := kp _ _ (R.r_h) (by intro z; cases z) (R.hh), hb := kp _ _ (R.r_bk) (by intro z; cases z) (R.hb), he := kp _ _ (R.r_en) (by intro z; cases z) (R.he), lt := R.lt, ht := fun k t x h1 h2 => kp _ _ (R.r_ts t (List.mem_of_getElem? h1)) (by intro z; cases z) (R.ht k t x h1 h2), hpl := ?_, hhd := kp _ _ (R.r_hd) (by intro z; cases z) (R.hhd), lk := R.lk, hk := fun k t x h1 h2 => kp _ _ (R.r_ks t (List.mem_of_getElem? h1)) (by intro z; cases z) (R.hk k t x h1 h2), hpo := fun j hj => ?_, hfa := fun j hj => ?_, hwa := fun j hj => ?_, r_tr := fun b hb => rl_n3 (R.r_tr b hb) rp rf rg (by intro z; cases z), r_h := rl_n3 (R.r_h) rp rf rg (by intro z; cases z), r_bk := rl_n3 (R.r_bk) rp rf rg (by intro z; cases z), r_en := rl_n3 (R.r_en) rp rf rg (by intro z; cases z), r_pl := rl_n3 (R.r_pl) rp rf rg (by intro z; cases z), r_hd := rl_n3 (R.r_hd) rp rf rg (by intro z; cases z), r_ts := fun b hb => rl_n3 (R.r_ts b hb) rp rf rg (by intro z; cases z), r_ks := fun b hb => rl_n3 (R.r_ks b hb) rp rf rg (by intro z; cases z), r_po := fun j hj => ?_, r_fa := fun j hj => ?_, r_wa := fun j hj => ?_, free := fun b h => ?_ }
  · show upd _ _ _ a.pl = some (.lst ((List.range D.n).map fun j => V.ref (if j = i then p else a.po j)))
    rw [upd_same]
    congr 2
    refine List.ext_getElem (by simp) fun j h1 h2 => ?_
    rw [List.getElem_set]
    simp only [List.getElem_map, List.getElem_range]
    by_cases e : i = j
    · rw [if_pos e, if_pos e.symm]
    · rw [if_neg e, if_neg (fun z => e z.symm)]
  · show upd _ _ _ (if j = i then p else a.po j) = some (.ins _ (if j = i then dx else a.pdx j) (postF (if j = i then f else a.fa j) (if j = i then g else a.wa j) (if j = i then q else s.posts j)))
    by_cases e : j = i
    · simp only [if_pos e]
      exact kp _ _ rp (by intro z; cases z) hp
    · simp only [if_neg e]
      exact kp _ _ (R.r_po j hj) (by intro z; cases z) (R.hpo j hj)
  · show upd _ _ _ (if j = i then f else a.fa j) = some (.lst ((if j = i then q else s.posts j).falls.map V.int))
    by_cases e : j = i
    · simp only [if_pos e]
      exact kp _ _ rf (by intro z; cases z) hf
    · simp only [if_neg e]
      exact kp _ _ (R.r_fa j hj) (by intro z; cases z) (R.hfa j hj)
  · show upd _ _ _ (if j = i then g else a.wa j) = some (.lst ((if j = i then q else s.posts j).waiting.map fun j : Nat => V.int j))
    by_cases e : j = i
    · simp only [if_pos e]
      exact kp _ _ rg (by intro z; cases z) hg
    · simp only [if_neg e]
      exact kp _ _ (R.r_wa j hj) (by intro z; cases z) (R.hwa j hj)
  · show (if (if j = i then p else a.po j) = p then Role.po i else if (if j = i then p else a.po j) = f then Role.fa i else if (if j = i then p else a.po j) = g then Role.wa i else a.rl (if j = i then p else a.po j)) = .po j
    by_cases e : j = i
    · simp only [if_pos e]
      rw [if_pos trivial, e]
    · simp only [if_neg e]
      exact rl_n3 (R.r_po j hj) rp rf rg (by intro z; cases z)
  · show (if (if j = i then f else a.fa j) = p then Role.po i else if (if j = i then f else a.fa j) = f then Role.fa i else if (if j = i then f else a.fa j) = g then Role.wa i else a.rl (if j = i then f else a.fa j)) = .fa j
    by_cases e : j = i
    · simp only [if_pos e]
      rw [if_neg n1, if_pos trivial, e]
    · simp only [if_neg e]
      exact rl_n3 (R.r_fa j hj) rp rf rg (by intro z; cases z)
  · show (if (if j = i then g else a.wa j) = p then Role.po i else if (if j = i then g else a.wa j) = f then Role.fa i else if (if j = i then g else a.wa j) = g then Role.wa i else a.rl (if j = i then g else a.wa j)) = .wa j
    by_cases e : j = i
    · simp only [if_pos e]
      rw [if_neg n2, if_neg n.symm, if_pos trivial, e]
    · simp only [if_neg e]
      exact rl_n3 (R.r_wa j hj) rp rf rg (by intro z; cases z)
  · have h0 : H b = none := upd_none hx h
    show (if b = p then Role.po i else if b = f then Role.fa i else if b = g then Role.wa i else a.rl b) = .out
    rw [if_neg (fun e => by rw [e, hp] at h0; cases h0), if_neg (fun e => by rw [e, hf] at h0; cases h0), if_neg (fun e => by rw [e, hg] at h0; cases h0)]
    exact R.free b h0
theorem Fr.newed {n : Nat} {H0 : Hp} (R : HR C A a D s H) (hn : n ≤ i) {p dx f g : Addr} {o : HO} (e : Same H0 H) (hp : H0 p = none) (hf : H0 f = none) (hg : H0 g = none) : Fr n a H0 (a.newA i p dx f g) (upd H a.pl o) :=
  ⟨rfl, fun b u hb hu => by
    have n1 : b ≠ p := neN hp hu
    have n2 : b ≠ f := neN hf hu
    have n3 : b ≠ g := neN hg hu
    refine ⟨?_, R.kp R.r_pl hb (by intro z; cases z) (e _ _ hu)⟩
    show (if b = p then Role.po i else if b = f then Role.fa i else if b = g then Role.wa i else a.rl b) = .out
    rw [if_neg n1, if_neg n2, if_neg n3]
    exact hb, fun b h => same_none e (upd_none R.hpl h), fun j hj => if_neg (by omega)⟩
end
end Mn

namespace Mn
open PySem L2
section
variable {P : Program} {w : World} {K : PySem.W.Frag} {mg : Str → Option Value} {base : Heap}
def spBit : Sp := fun vs H Q _ => ∃ n : Nat, vs = [.int (n : Int)] ∧ n ≤ 1000 ∧ Q (.int ((2 ^ n : Nat) : Int)) H
def spBelow : Sp := fun vs H Q _ => ∃ n : Nat, vs = [.int (n : Int)] ∧ n ≤ 1000 ∧ Q (.int ((2 ^ n - 1 : Nat) : Int)) H
theorem cpow_nat {n : Nat} (h : n ≤ 1000) : CPow 1 (n : Int) := ⟨by omega, by omega, by decide⟩
theorem ok_bit {f : Addr} {fd : FuncData} (F : Fun K "bit" "bit" s_bit f fd) : FnOk P w K mg base CX0 1 f fd ["place"] spBit := by
  refine F.ok sc_bit (fun vs H Q E h => ?_) (fun cdv A outer s H vs Q E hr h => ?_)
  · obtain ⟨n, rfl, _⟩ := h
    rfl
  obtain ⟨n, rfl, hn, q⟩ := h
  refine ⟨_, (pss_one (ps_ret (pe_op op_shl pe_int (pv 0)))), ?_⟩
  walk_at "rd"
  refine w_I (cpow_nat hn) ?_
  rw [shl_int]
  exact q
theorem ok_below {f : Addr} {fd : FuncData} (F : Fun K "below" "below" s_below f fd) : FnOk P w K mg base CX0 1 f fd ["count"] spBelow := by
  refine F.ok sc_below (fun vs H Q E h => ?_) (fun cdv A outer s H vs Q E hr h => ?_)
  · obtain ⟨n, rfl, _⟩ := h
    rfl
  obtain ⟨n, rfl, hn, q⟩ := h
  refine ⟨_, (pss_one (ps_ret (pe_op op_sub (pe_op op_shl pe_int (pv 0)) pe_int))), ?_⟩
  walk_at "rd"
  refine w_I (cpow_nat hn) ?_
  walk_at "rd"
  rw [below_int]
  exact q
def spChosen (C : Addr) (ch : Nat → Nat → Nat → Nat → Nat × Nat) : Sp := fun vs H Q _ => ∃ (r dx : Addr) (fs : List (Str × V)) (p c o g : Nat), vs = [.ref r, .int (p : Int), .int (c : Int), .int (o : Int), .int (g : Int)] ∧ H r = some (.ins C dx fs) ∧ p ≤ 100 ∧ c ≤ 100 ∧
  ∀ t H', H t = none → Same H H' → H' t = some (.tup [.int ((ch p c o g).1 : Nat), .int ((ch p c o g).2 : Nat)]) → Q (.ref t) H'
abbrev chN : List Str := ["self", "place", "count", "on", "good"]
theorem ok_Minder_chosen {C f : Addr} {fd : FuncData} (F : Fun K "chosen" "Minder.chosen" s_Minder_chosen f fd) (CB : Cal P w K mg base CX0 "bit" 1 ["place"] [] spBit) : FnOk P w K mg base CX0 2 f fd chN (spChosen C chOne) := by
  refine F.ok sc_Minder_chosen (fun vs H Q E h => ?_) (fun cdv A outer s H vs Q E hr h => ?_)
  · obtain ⟨r, dx, fs, p, c, o, g, rfl, _⟩ := h
    rfl
  obtain ⟨r, dx, fs, p, c, o, g, rfl, hr0, hp, hc, q⟩ := h
  refine ⟨_, (pss_one (ps_ret (pe_tup (pa_cons pe_int (pa_cons (pe_ca (P := P) (w := w) (K := K) (mg := mg) (base := base) ⟨rfl, rfl, rfl, rfl, rfl⟩ hr rfl (pa_cons (pv 1) pa_nil)) pa_nil))))), ?_⟩
  walk_at "rd"
  refine w_ca CB (by decide) ?_
  walk_at "rd"
  refine ⟨p, rfl, by omega, ?_⟩
  walk_at "rd"
  exact ⟨by walk_at "sz", fun t ht => q t _ ht (same_new ht _) upd_same⟩
theorem ok_AllMinder_chosen {C f : Addr} {fd : FuncData} (F : Fun K "chosen" "AllMinder.chosen" s_AllMinder_chosen f fd) (CB : Cal P w K mg base CX0 "below" 1 ["count"] [] spBelow) : FnOk P w K mg base CX0 2 f fd chN (spChosen C chAll) := by
  refine F.ok sc_AllMinder_chosen (fun vs H Q E h => ?_) (fun cdv A outer s H vs Q E hr h => ?_)
  · obtain ⟨r, dx, fs, p, c, o, g, rfl, _⟩ := h
    rfl
  obtain ⟨r, dx, fs, p, c, o, g, rfl, hr0, hp, hc, q⟩ := h
  refine ⟨_, (pss_one (ps_ret (pe_tup (pa_cons (pv 3) (pa_cons (pe_op op_and (pe_ca (P := P) (w := w) (K := K) (mg := mg) (base := base) ⟨rfl, rfl, rfl, rfl, rfl⟩ hr rfl (pa_cons (pv 2) pa_nil)) (pe_un un_inv (pv 4))) pa_nil))))), ?_⟩
  walk_at "rd"
  refine w_ca CB (by decide) ?_
  walk_at "rd"
  refine ⟨c, rfl, by omega, ?_⟩
  walk_at "rd"
  rw [and_not_int]
  exact ⟨by walk_at "sz", fun t ht => q t _ ht (same_new ht _) upd_same⟩
theorem ok_RestMinder_chosen {C f : Addr} {fd : FuncData} (F : Fun K "chosen" "RestMinder.chosen" s_RestMinder_chosen f fd) (CB : Cal P w K mg base CX0 "below" 1 ["count"] [] spBelow) (CT : Cal P w K mg base CX0 "bit" 1 ["place"] [] spBit) :
    FnOk P w K mg base CX0 2 f fd chN (spChosen C chRest) := by
  refine F.ok sc_RestMinder_chosen (fun vs H Q E h => ?_) (fun cdv A outer s H vs Q E hr h => ?_)
  · obtain ⟨r, dx, fs, p, c, o, g, rfl, _⟩ := h
    rfl
  obtain ⟨r, dx, fs, p, c, o, g, rfl, hr0, hp, hc, q⟩ := h
  refine ⟨_, (pss_cons (ps_set (i := 5) sc_RestMinder_chosen.nd rfl (Or.inl rfl) (pe_op op_xor (pe_ca (P := P) (w := w) (K := K) (mg := mg) (base := base) ⟨rfl, rfl, rfl, rfl, rfl⟩ hr rfl (pa_cons (pv 2) pa_nil)) (pe_ca (P := P) (w := w) (K := K) (mg := mg) (base := base) ⟨rfl, rfl, rfl, rfl, rfl⟩ hr rfl (pa_cons (pe_op op_add (pv 1) pe_int) pa_nil))))
    (pss_one (ps_ret (pe_tup (pa_cons (pe_op op_and (pv 3) (pv 5)) (pa_cons (pe_op op_and (pe_op op_or (pv 5) (pe_ca (P := P) (w := w) (K := K) (mg := mg) (base := base) ⟨rfl, rfl, rfl, rfl, rfl⟩ hr rfl (pa_cons (pv 1) pa_nil))) (pe_un un_inv (pv 4))) pa_nil)))))), ?_⟩
  walk_at "rd"
  refine w_ca CB (by decide) ?_
  walk_at "rd"
  refine ⟨c, rfl, by omega, ?_⟩
  walk_at "rd"
  refine w_ca CB (by decide) ?_
  walk_at "rd"
  refine ⟨p + 1, by rw [Int.natCast_add]; rfl, by omega, ?_⟩
  walk_at "rd"
  rw [xor_int]
  walk_at "rd"
  rw [and_int]
  refine w_ca CT (by decide) ?_
  walk_at "rd"
  refine ⟨p, rfl, by omega, ?_⟩
  walk_at "rd"
  rw [or_int, and_not_int]
  exact ⟨by walk_at "sz", fun t ht => q t _ ht (same_new ht _) upd_same⟩
end
end Mn

namespace Mn
open PySem PySem.Spec PyProof.Rows L2 TL
theorem lcF_yesB {H : Hp} {xs : List V} {f : V → Option V} {C : Addr} {i : Nat} {x y : V} {H4 : Hp} (p : LcF H xs f C i H4) (h : H C = none) (hx : xs[i]? = some x) (hf : f x = some y) (hz : xs.length < 10000000) :
    ∃ acc, H4 C = some (.lst acc) ∧ acc.length < sizeLine ∧ LcF H xs f C (i + 1) (upd H4 C (.lst (acc ++ [y]))) := by
  refine ⟨_, p.2, ?_, same_mut p.1 h, ?_⟩
  · have h1 := List.length_filterMap_le f (xs.take i)
    rw [List.length_take] at h1
    have h2 := sizeLine_eq
    omega
  · rw [upd_same, take_succ' hx, List.filterMap_append, List.filterMap_cons_some hf]; rfl
def recV (c s : Int) : V → Option V
  | .int t => if c - t < s then some (.int t) else none
  | _ => none
theorem recV_map (c s : Int) : ∀ ns : List Int, (ns.map V.int).filterMap (recV c s) = (recF c s ns).map V.int
  | [] => rfl
  | t :: r => by
    have ih := recV_map c s r
    unfold recF at ih ⊢
    rw [List.map_cons]
    by_cases h : c - t < s
    · rw [List.filterMap_cons_some (b := .int t) (by show (if c - t < s then _ else _) = _; rw [if_pos h]), List.filter_cons_of_pos (by simpa using h), List.map_cons, ih]
    · rw [List.filterMap_cons_none (by show (if c - t < s then _ else _) = _; rw [if_neg h]), List.filter_cons_of_neg (by simpa using h), ih]
section
variable {P : Program} {w : World} {K : PySem.W.Frag} {mg : Str → Option Value} {base : Heap}
def spRec (K : PySem.W.Frag) : Sp := fun vs H Q _ => ∃ (a : Addr) (ns : List Int) (c s : Int), vs = [.ref a, .int c, .int s] ∧ SqL K H a (ns.map V.int) ∧ ns.length < 10000000 ∧
  ∀ p H', H p = none → Same H H' → H' p = some (.lst ((recF c s ns).map V.int)) → Q (.ref p) H'
theorem ok_recent {f : Addr} {fd : FuncData} (F : Fun K "recent" "recent" s_recent f fd) : FnOk P w K mg base CX0 1 f fd ["falls", "clock", "span"] (spRec K) := by
  refine F.ok sc_recent (fun vs H Q E h => ?_) (fun cdv A outer s H vs Q E hr h => ?_)
  · obtain ⟨a, ns, c, s, rfl, _⟩ := h
    rfl
  obtain ⟨a, ns, c, s, rfl, hS, hz, q⟩ := h
  refine ⟨_, (pss_one (ps_ret (pe_lc (own := [("turn", 3)]) (g := gName 3) (by rfl) sc_recent.nd (kPiL (K := K) rfl (pv 0)) (blkOk_by (own := [("turn", 3)]) (N := ["falls", "clock", "span", "turn"]) (sc := defScope s_recent) (by decide +kernel)) (fun _ _ _ _ _ => pg_name (i := 3) sc_recent.nd rfl (Or.inl rfl)) (fun _ _ _ _ _ => pts_one (by exact (pt_cmpR op_lt (pe_op op_sub (pv 1) (pv 3)) (pv 2) (nomark _)))) (fun _ _ _ _ _ => by exact (pv 3))))), ?_⟩
  walk_at "rd"
  refine w_lcL (xs := ns.map V.int) (LcF H (ns.map V.int) (recV c s)) hS (fun C h => lcF_0 h) (fun C i H' _ _ p => p.1.seq hS) (fun C i x H' hC hx p => ?_) (fun C H' hC p => ?_)
  · obtain ⟨t, ht, rfl⟩ := map_at hx
    walk_at "rd"
    walk_at "if"
    all_goals rename_i c
    all_goals walk_at "rd"
    · exact lcF_yesB p hC hx (by show (if _ then _ else _) = _; rw [if_pos c]) (by rw [List.length_map]; exact hz)
    · exact lcF_no p hx (by show (if _ then _ else _) = _; rw [if_neg c])
  · refine q C H' hC p.1 ?_
    have e := p.2
    rw [List.take_length, recV_map] at e
    exact e
def spToo (K : PySem.W.Frag) : Sp := fun vs H Q _ => ∃ (a : Addr) (ns : List Int) (c s m : Int), vs = [.ref a, .int c, .int s, .int m] ∧ SqL K H a (ns.map V.int) ∧ ns.length < 10000000 ∧
  ∀ H', Same H H' → Q (.bl (decide (((recF c s ns).length : Int) + 1 > m))) H'
theorem ok_too {f : Addr} {fd : FuncData} (F : Fun K "too_many" "too_many" s_too_many f fd) (T : Bt mg) (CR : Cal P w K mg base CX0 "recent" 1 ["falls", "clock", "span"] [] (spRec K)) : FnOk P w K mg base CX0 2 f fd ["falls", "clock", "span", "most"] (spToo K) := by
  refine F.ok sc_too_many (fun vs H Q E h => ?_) (fun cdv A outer s H vs Q E hr h => ?_)
  · obtain ⟨a, ns, c, s, m, rfl, _⟩ := h
    rfl
  obtain ⟨a, ns, c, s, m, rfl, hS, hz, q⟩ := h
  refine ⟨_, (pss_one (ps_ret (pe_cmpR op_gt (pe_op op_add (pe_callB (kLenL (K := K) rfl) (by rfl) T.len (by decide +kernel) (pa_cons (pe_ca (P := P) (w := w) (K := K) (mg := mg) (base := base) ⟨rfl, rfl, rfl, rfl, rfl⟩ hr rfl (pa_cons (pv 0) (pa_cons (pv 1) (pa_cons (pv 2) pa_nil)))) pa_nil)) pe_int) (pv 3) (nomark _)))), ?_⟩
  walk_at "rd"
  refine w_ca CR (by decide) ?_
  walk_at "rd"
  refine ⟨a, ns, c, s, rfl, hS, hz, fun p H1 hp s1 e1 => ?_⟩
  walk_at "rd"
  rw [List.length_map]
  exact q H1 s1
end
end Mn

namespace Mn
open PySem PySem.Spec PyProof.Rows L2 TL
/-! ### places, last, without -/
theorem bitLen_lt (n : Nat) : n < 2 ^ bitLen n := by
  unfold bitLen
  by_cases h : n = 0
  · rw [if_pos h, h]
    decide
  · rw [if_neg h]
    exact Nat.lt_log2_self
theorem bitLen_le {n k : Nat} (h : n < 2 ^ k) : bitLen n ≤ k := by
  unfold bitLen
  by_cases h0 : n = 0
  · rw [if_pos h0]
    exact Nat.zero_le _
  · rw [if_neg h0]
    exact (Nat.log2_lt h0).mpr h
theorem filt_more (n : Nat) : ∀ d k : Nat, n < 2 ^ k → (List.range (k + d)).filter (fun j => n.testBit j) = (List.range k).filter (fun j => n.testBit j)
  | 0, _, _ => rfl
  | d + 1, k, h => by
    rw [show k + (d + 1) = (k + d) + 1 by omega, List.range_succ, List.filter_append, filt_more n d k h]
    have : n.testBit (k + d) = false := Nat.testBit_lt_two_pow (Nat.lt_of_lt_of_le h (Nat.pow_le_pow_right (by decide) (by omega)))
    rw [List.filter_cons_of_neg (by rw [this]; decide), List.filter_nil, List.append_nil]
theorem places_at {n k : Nat} (h : n < 2 ^ k) : (List.range k).filter (fun j => n.testBit j) = placesOf n := by
  have := filt_more n (k - bitLen n) (bitLen n) (bitLen_lt n)
  rw [Nat.add_sub_cancel' (bitLen_le h)] at this
  exact this
section
variable {P : Program} {w : World} {K : PySem.W.Frag} {mg : Str → Option Value} {base : Heap}
def spPlaces : Sp := fun vs H Q _ => ∃ n : Nat, vs = [.int (n : Int)] ∧ n < 2 ^ 64 ∧ ∀ p H', H p = none → Same H H' → H' p = some (.lst ((placesOf n).map fun j : Nat => V.int j)) → Q (.ref p) H'
theorem ok_places {f : Addr} {fd : FuncData} (F : Fun K "places" "places" s_places f fd) : FnOk P w K mg base CX0 1 f fd ["bits"] spPlaces := by
  refine F.ok sc_places (fun vs H Q E h => ?_) (fun cdv A outer s H vs Q E hr h => ?_)
  · obtain ⟨n, rfl, _⟩ := h
    rfl
  obtain ⟨n, rfl, hn, q⟩ := h
  refine ⟨_, (pss_cons (ps_set (i := 1) sc_places.nd rfl (Or.inl rfl) (pe_lst pa_nil))
    (pss_cons (ps_set (i := 2) sc_places.nd rfl (Or.inl rfl) pe_int)
    (pss_cons (ps_while PassesOwn.never (pt_cmpR op_gt (pv 0) pe_int (nomark _)) (C8.pss_cut (ps_if (pt_cmpR op_eq (pe_op op_and (pv 0) pe_int) pe_int (nomark _)) (pss_one (ps_expr (kBm (K := K) rfl PySem.F.plainAttrs_list PySem.F.slot_list_append PySem.F.type_list_append mt_append (pv 1) (pa_cons (pv 2) pa_nil)))) pss_nil)
    (pss_cons (ps_set (i := 0) sc_places.nd rfl (Or.inl rfl) (pe_op op_shr (pv 0) pe_int))
    (pss_one (ps_aug (i := 2) sc_places.nd rfl (Or.inl rfl) pe_int ip_add)))))
    (pss_one (ps_ret (pv 1)))))), ?_⟩
  walk_at "rd"
  refine ⟨Nat.zero_le _, fun p hp => ?_⟩
  walk_at "rd"
  refine ⟨fun m σ H' => ∃ k : Nat, σ = [some (.int ((n >>> k : Nat) : Int)), some (.ref p), some (.int (k : Int))] ∧ k ≤ 64 ∧ Same H H' ∧ H' p = some (.lst (((List.range k).filter fun j => n.testBit j).map fun j : Nat => V.int j)) ∧ m = n >>> k, ⟨_, 0, rfl, Nat.zero_le _, same_new hp _, upd_same, rfl⟩, fun m σ H' hm => ?_⟩
  obtain ⟨k, rfl, hk, s1, e1, rfl⟩ := hm
  walk_at "rd"
  walk_at "if"
  · rename_i c
    have hk' : k < 64 := by
      rcases Nat.lt_or_ge k 64 with h | h
      · exact h
      · have : k = 64 := by omega
        subst this
        have : n >>> 64 = 0 := by rw [Nat.shiftRight_eq_div_pow, Nat.div_eq_of_lt hn]
        omega
    have half : n >>> (k + 1) = (n >>> k) / 2 := by rw [Nat.shiftRight_succ]
    refine ⟨fun σ H' => ∃ m' : Nat, m' < n >>> k ∧ ∃ k : Nat, σ = [some (.int ((n >>> k : Nat) : Int)), some (.ref p), some (.int (k : Int))] ∧ k ≤ 64 ∧ Same H H' ∧ H' p = some (.lst (((List.range k).filter fun j => n.testBit j).map fun j : Nat => V.int j)) ∧ m' = n >>> k, fun σ' H' h => h, ?_⟩
    have bit : n.testBit k = decide ((n >>> k) &&& 1 = 1) := by
      rw [Nat.testBit, Nat.and_comm]
      rcases Nat.mod_two_eq_zero_or_one (n >>> k) with h | h <;> simp [Nat.and_one_is_mod, h]
    have z := PySem.sizeLine_eq
    refine w_cut (fun σ H' => σ = [some (.int ((n >>> k : Nat) : Int)), some (.ref p), some (.int (k : Int))] ∧ Same H H' ∧ H' p = some (.lst (((List.range (k + 1)).filter fun j => n.testBit j).map fun j : Nat => V.int j))) ?_ (fun σ H' hm => ?_)
    · walk_at "rd"
      rw [show (1 : Int) = ((1 : Nat) : Int) from rfl, and_int]
      walk_at "if"
      · rename_i c1
        have c1 : (n >>> k) &&& 1 = 1 := by
          have := V.int.inj c1
          omega
        walk_at "rd"
        refine w_app e1 ?_ ?_
        · have := List.length_filter_le (fun j => n.testBit j) (List.range k)
          rw [List.length_range] at this
          rw [List.length_map]
          omega
        walk_at "rd"
        refine ⟨rfl, same_mut s1 hp, ?_⟩
        rw [upd_same, List.range_succ, List.filter_append, List.filter_cons_of_pos (by rw [bit, decide_eq_true c1]), List.filter_nil, List.map_append]
        rfl
      · rename_i c1
        have c1 : ¬ (n >>> k) &&& 1 = 1 := fun e => c1 (by rw [e])
        walk_at "rd"
        refine ⟨rfl, s1, ?_⟩
        rw [List.range_succ, List.filter_append, List.filter_cons_of_neg (by rw [bit, decide_eq_false c1]; decide), List.filter_nil, List.append_nil]
        exact e1
    · obtain ⟨rfl, s2, e2⟩ := hm
      walk_at "rd"
      refine w_I (by decide) ?_
      walk_at "rd"
      have hv : ((n >>> k : Nat) : Int) / 2 ^ (1 : Int).toNat = ((n >>> (k + 1) : Nat) : Int) := by
        rw [half]
        rfl
      rw [hv]
      refine ⟨n >>> (k + 1), by omega, k + 1, rfl, by omega, s2, e2, rfl⟩
  · rename_i c
    walk_at "rd"
    refine q p H' hp s1 ?_
    rw [← places_at (k := k)]
    · exact e1
    · have : n >>> k = 0 := by
        generalize n >>> k = z at c
        omega
      rw [Nat.shiftRight_eq_div_pow] at this
      rcases Nat.lt_or_ge n (2 ^ k) with h | h
      · exact h
      · exact absurd this (Nat.ne_of_gt (Nat.div_pos h (Nat.two_pow_pos k)))
def spLast : Sp := fun vs H Q _ => ∃ n : Nat, vs = [.int (n : Int)] ∧ n ≠ 0 ∧ Q (.int (n.log2 : Int)) H
theorem ok_last {f : Addr} {fd : FuncData} (F : Fun K "last" "last" s_last f fd) : FnOk P w K mg base CX0 1 f fd ["bits"] spLast := by
  refine F.ok sc_last (fun vs H Q E h => ?_) (fun cdv A outer s H vs Q E hr h => ?_)
  · obtain ⟨n, rfl, _⟩ := h
    rfl
  obtain ⟨n, rfl, hn, q⟩ := h
  refine ⟨_, (pss_one (ps_ret (pe_op op_sub (kBm0 (K := K) rfl PySem.F.plainAttrs_int PyProof.Rows.slot_int_bit_length PyProof.Rows.type_int_bit_length mt_bitlen (pv 0)) pe_int))), ?_⟩
  walk_at "rd"
  refine ⟨n, rfl, rfl, ?_⟩
  walk_at "rd"
  have e : ((bitLen n : Nat) : Int) - 1 = (n.log2 : Int) := by
    unfold bitLen
    rw [if_neg hn]
    omega
  rw [e]
  exact q
def spWithout : Sp := fun vs H Q _ => ∃ n k : Nat, vs = [.int (n : Int), .int (k : Int)] ∧ k ≤ 1000 ∧ Q (.int ((andNot n (2 ^ k) : Nat) : Int)) H
theorem ok_without {f : Addr} {fd : FuncData} (F : Fun K "without" "without" s_without f fd) : FnOk P w K mg base CX0 1 f fd ["bits", "place"] spWithout := by
  refine F.ok sc_without (fun vs H Q E h => ?_) (fun cdv A outer s H vs Q E hr h => ?_)
  · obtain ⟨n, k, rfl, _⟩ := h
    rfl
  obtain ⟨n, k, rfl, hk, q⟩ := h
  refine ⟨_, (pss_one (ps_ret (pe_op op_and (pv 0) (pe_un un_inv (pe_op op_shl pe_int (pv 1)))))), ?_⟩
  walk_at "rd"
  refine w_I (cpow_nat hk) ?_
  walk_at "rd"
  rw [shl_int, and_not_int]
  exact q
end
end Mn

namespace Mn
open PySem PySem.Spec PyProof.Rows L2 TL
abbrev postN : List Str := ["phase", "planned", "born", "steps", "slow", "grace", "good", "put", "anew", "falls", "waiting", "gave"]
abbrev houseN : List Str := ["tree", "clock", "book", "posts", "heard"]
structure KH (K : PySem.W.Frag) (C : Cs) : Prop where
  cT : ClsF K C.T treeN
  cH : ClsF K C.H houseN
  cB : ClsF K C.B ["entries"]
  cP : ClsF K C.P postN
  kc : KdC K C.cls
theorem yng_mem {D : TreeD} (W : D.WF) {i : Nat} (hi : i < D.n) (he : 0 ≤ D.e i) : i ∈ D.yng (D.e i).toNat := by
  unfold TreeD.yng yngOf
  rw [List.mem_filter, List.mem_range, decide_eq_true_eq, W.le]
  refine ⟨hi, ?_⟩
  show D.e i = _
  omega
theorem place_lt {D : TreeD} (W : D.WF) {i : Nat} (hi : i < D.n) (he : 0 ≤ D.e i) : D.place i < (D.yng (D.e i).toNat).length :=
  List.findIdx_lt_length_of_exists ⟨i, yng_mem W hi he, decide_eq_true rfl⟩
theorem yng_le {D : TreeD} (W : D.WF) (i : Nat) : (D.yng i).length ≤ D.n := by
  unfold TreeD.yng yngOf
  refine Nat.le_trans (List.length_filter_le _ _) ?_
  rw [List.length_range, W.le]
  exact Nat.le_refl _
section
variable {P : Program} {w : World} {K : PySem.W.Frag} {mg : Str → Option Value} {base : Heap} {C : Cs}
def spPost (C : Cs) : Sp := fun vs H Q _ => ∃ (p dx : Addr), vs = [.ref p] ∧ H p = some (.ins C.P dx []) ∧ ∀ f g H', Out [p] H H' → H' p = some (.ins C.P dx (postF f g {})) → H' f = some (.lst []) → H' g = some (.lst []) → f ≠ g → H f = none → H g = none → Q .non H'
theorem ok_Post_init {f : Addr} {fd : FuncData} (F : Fun K "__init__" "Post.__init__" s_Post_init f fd) (kh : KH K C) : FnOk P w K mg base CX0 1 f fd ["self"] (spPost C) := by
  refine F.ok sc_Post_init (fun vs H Q E h => ?_) (fun cdv A outer s H vs Q E hr h => ?_)
  · obtain ⟨p, dx, rfl, _⟩ := h
    rfl
  obtain ⟨p, dx, rfl, hp, q⟩ := h
  have cP := kh.cP
  refine ⟨_, (pss_cons (kSFld (K := K) rfl (pv 0) pe_str)
    (pss_cons (kSFld (K := K) rfl (pv 0) pe_bl)
    (pss_cons (kSFld (K := K) rfl (pv 0) pe_int)
    (pss_cons (kSFld (K := K) rfl (pv 0) pe_int)
    (pss_cons (kSFld (K := K) rfl (pv 0) pe_int)
    (pss_cons (kSFld (K := K) rfl (pv 0) pe_int)
    (pss_cons (kSFld (K := K) rfl (pv 0) pe_int)
    (pss_cons (kSFld (K := K) rfl (pv 0) pe_int)
    (pss_cons (kSFld (K := K) rfl (pv 0) pe_int)
    (pss_cons (kSFld (K := K) rfl (pv 0) (pe_lst pa_nil))
    (pss_cons (kSFld (K := K) rfl (pv 0) (pe_lst pa_nil))
    (pss_one (kSFld (K := K) rfl (pv 0) pe_bl))))))))))))), ?_⟩
  walk_at "rd"
  refine ⟨Nat.zero_le _, fun f hf => ?_⟩
  have f1 : H f = none := by
    have := hf
    repeat (first | exact this | replace this := updN this)
  walk_at "rd"
  refine ⟨Nat.zero_le _, fun g hg => ?_⟩
  have g1 : H g = none := by
    have := hg
    repeat (first | exact this | replace this := updN this)
  have n1 : f ≠ p := neN f1 hp |>.symm
  have n2 : g ≠ p := neN g1 hp |>.symm
  have n3 : f ≠ g := by
    intro e
    subst e
    rw [upd_ne n1, upd_same] at hg
    cases hg
  walk_at "rd"
  refine q f g _ (fun b u hb hu => ?_) ?_ ?_ ?_ n3 f1 g1
  · have b1 : b ≠ p := fun e => hb (by rw [e]; exact List.mem_cons_self)
    have b2 : b ≠ f := neN f1 hu
    have b3 : b ≠ g := neN g1 hu
    walk_at "hp"
  · walk_at "hp"
  · walk_at "hp"
  · walk_at "hp"
def spBInit (C : Cs) : Sp := fun vs H Q _ => ∃ (p dx : Addr), vs = [.ref p] ∧ H p = some (.ins C.B dx []) ∧ ∀ f H', Out [p] H H' → H' p = some (.ins C.B dx [("entries", .ref f)]) → H' f = some (.lst []) → H f = none → Q .non H'
theorem ok_Book_init {f : Addr} {fd : FuncData} (F : Fun K "__init__" "Book.__init__" s_Book_init f fd) (kh : KH K C) : FnOk P w K mg base CX0 1 f fd ["self"] (spBInit C) := by
  refine F.ok sc_Book_init (fun vs H Q E h => ?_) (fun cdv A outer s H vs Q E hr h => ?_)
  · obtain ⟨p, dx, rfl, _⟩ := h
    rfl
  obtain ⟨p, dx, rfl, hp, q⟩ := h
  have cB := kh.cB
  refine ⟨_, (pss_one (kSFld (K := K) rfl (pv 0) (pe_lst pa_nil))), ?_⟩
  walk_at "rd"
  refine ⟨Nat.zero_le _, fun f hf => ?_⟩
  have n1 : f ≠ p := neN hf hp |>.symm
  walk_at "rd"
  refine q f _ (fun b u hb hu => ?_) ?_ ?_ hf
  · have b1 : b ≠ p := fun e => hb (by rw [e]; exact List.mem_cons_self)
    have b2 : b ≠ f := neN hf hu
    walk_at "hp"
  · walk_at "hp"
  · walk_at "hp"
def spBNote (C : Cs) : Sp := fun vs H Q _ => ∃ (p dx en : Addr) (t : Int) (x y : Str) (xs : List V), vs = [.ref p, .int t, .str x, .str y] ∧ H p = some (.ins C.B dx [("entries", .ref en)]) ∧ H en = some (.lst xs) ∧ xs.length < 16000000 ∧ ∀ u, H u = none → Q .non (upd (upd H u (.tup [.int t, .str x, .str y])) en (.lst (xs ++ [.ref u])))
theorem ok_Book_note {f : Addr} {fd : FuncData} (F : Fun K "note" "Book.note" s_Book_note f fd) (kh : KH K C) : FnOk P w K mg base CX0 1 f fd ["self", "turn", "word", "name"] (spBNote C) := by
  refine F.ok sc_Book_note (fun vs H Q E h => ?_) (fun cdv A outer s H vs Q E hr h => ?_)
  · obtain ⟨p, dx, en, t, x, y, xs, rfl, _⟩ := h
    rfl
  obtain ⟨p, dx, en, t, x, y, xs, rfl, hp, he, hl, q⟩ := h
  have cB := kh.cB
  refine ⟨_, (pss_one (ps_expr (kBm (K := K) rfl PySem.F.plainAttrs_list PySem.F.slot_list_append PySem.F.type_list_append mt_append (kFld (K := K) rfl (pv 0)) (pa_cons (pe_tup (pa_cons (pv 1) (pa_cons (pv 2) (pa_cons (pv 3) pa_nil)))) pa_nil)))), ?_⟩
  walk_at "rd"
  refine ⟨by have := PySem.sizeLine_eq; simp only [List.length_cons, List.length_nil]; omega, fun u hu => ?_⟩
  have n1 : en ≠ u := neN hu he
  have z := PySem.sizeLine_eq
  walk_at "rd"
  exact q u hu
def spRows (C : Cs) : Sp := fun vs H Q _ => ∃ (p dx en : Addr) (xs : List V), vs = [.ref p] ∧ H p = some (.ins C.B dx [("entries", .ref en)]) ∧ H en = some (.lst xs) ∧ ∀ u, H u = none → Q (.ref u) (upd H u (.lst xs))
theorem ok_Book_rows {f : Addr} {fd : FuncData} (F : Fun K "rows" "Book.rows" s_Book_rows f fd) (T : Bt mg) (kh : KH K C) : FnOk P w K mg base CX0 1 f fd ["self"] (spRows C) := by
  refine F.ok sc_Book_rows (fun vs H Q E h => ?_) (fun cdv A outer s H vs Q E hr h => ?_)
  · obtain ⟨p, dx, en, xs, rfl, _⟩ := h
    rfl
  obtain ⟨p, dx, en, xs, rfl, hp, he, q⟩ := h
  have cB := kh.cB
  refine ⟨_, (pss_one (ps_ret (pe_callTy (kListL (K := K) rfl) (by rfl) T.list (by decide +kernel) (pa_cons (kFld (K := K) rfl (pv 0)) pa_nil)))), ?_⟩
  walk_at "rd"
  refine w_listL (SqL.of he) fun l hl => ?_
  walk_at "rd"
  exact q l hl
/-- the place among a minder's children -/
def spPlace (C : Cs) : Sp := fun vs H Q _ => ∃ (A : TA) (D : TreeD) (i : Nat), vs = [.ref A.t, .int (i : Int)] ∧ TR C.T C.cls A D H ∧ D.WF ∧ i < D.n ∧ 0 ≤ D.e i ∧ Q (.int (D.place i : Int)) H
theorem ok_place {f : Addr} {fd : FuncData} (F : Fun K "place" "Tree.place" s_Tree_place f fd) (kh : KH K C) : FnOk P w K mg base CX0 1 f fd ["self", "at"] (spPlace C) := by
  refine F.ok sc_Tree_place (fun vs H Q E h => ?_) (fun cdv A outer s H vs Q E hr h => ?_)
  · obtain ⟨A, D, i, rfl, _⟩ := h
    rfl
  obtain ⟨A, D, i, rfl, R, W, hi, he, q⟩ := h
  have ht := R.ht
  unfold treeF at ht
  have cT := kh.cT
  have hyg := R.hyg
  have hel := R.hel
  have el := W.el i hi
  have lys := R.lys
  refine ⟨_, (pss_one (ps_ret (kBm (K := K) rfl PySem.F.plainAttrs_list PySem.F.slot_list_index PySem.F.type_list_index (kIndex (K := K) rfl) (pe_ix (kIxL (K := K) rfl) (kFld (K := K) rfl (pv 0)) (pe_ix (kIxL (K := K) rfl) (kFld (K := K) rfl (pv 0)) (pv 1) (fun _ _ => rfl)) (fun _ _ => rfl)) (pa_cons (pv 1) pa_nil)))), ?_⟩
  walk_at "rd"
  refine w_ixL (SqL.of hel) (at_nat (i := i) rfl (atE W hi)) ?_
  have hj : (D.e i).toNat < A.ys.length := by omega
  have hz : A.ys[(D.e i).toNat]? = some A.ys[(D.e i).toNat] := List.getElem?_eq_getElem hj
  generalize A.ys[(D.e i).toNat] = z at hz
  refine w_ixL (v := .ref z) (SqL.of hyg) (at_nat (i := (D.e i).toNat) (by omega) (by rw [List.getElem?_map, hz]; rfl)) ?_
  have h1 := R.hys _ z hz
  have pl := place_lt W hi he
  refine w_tyL (SqL.of h1) ?_
  walk_at "rd"
  have fl : ∀ l : List Nat, (l.map fun j : Nat => V.int j).all flatV = true := fun l => by
    rw [List.all_map, List.all_eq_true]
    exact fun _ _ => rfl
  have pv : (D.yng (D.e i).toNat)[D.place i] = i := by
    have := List.findIdx_getElem (xs := D.yng (D.e i).toNat) (p := fun j => decide (j = i)) (w := pl)
    exact of_decide_eq_true this
  refine ⟨z, _, .int (i : Int), D.place i, .int (i : Int), rfl, rfl, SqL.of h1, rfl, fl _, ?_, ?_, fun m z' hm hz' => ?_, q⟩
  · rw [List.getElem?_map, show yngOf D.eld (D.e i).toNat = D.yng (D.e i).toNat from rfl, List.getElem?_eq_getElem pl, pv]
    rfl
  · exact decide_eq_true rfl
  · rw [List.getElem?_map, show yngOf D.eld (D.e i).toNat = D.yng (D.e i).toNat from rfl, List.getElem?_eq_getElem (Nat.lt_trans hm pl)] at hz'
    obtain rfl := Option.some.inj hz'
    have := List.not_of_lt_findIdx (p := fun j => decide (j = i)) hm
    have : ¬ (D.yng (D.e i).toNat)[m] = i := of_decide_eq_false this
    exact decide_eq_false (fun e => this (by omega))
end
end Mn

namespace Mn
open PySem PySem.Spec PyProof.Rows L2 TL
section
variable {P : Program} {w : World} {K : PySem.W.Frag} {mg : Str → Option Value} {base : Heap} {C : Cs}
theorem HR.shAt {A : TA} {a : HA} {D : TreeD} {s : HS} {H : Hp} (R : HR C A a D s H) {i : Nat} (hi : i < D.n) : ∃ p dx, A.ps[i]? = some p ∧ (A.ps.map V.ref)[i]? = some (.ref p) ∧ H p = some (.ins (C.cls (D.sh i).kind) dx (fldS (D.sh i))) := by
  have hn : i < A.ps.length := by rw [R.tr.lps]; exact hi
  have h : A.ps[i]? = some A.ps[i] := List.getElem?_eq_getElem hn
  obtain ⟨dx, hx⟩ := R.tr.hps i _ h
  exact ⟨_, dx, h, by rw [List.getElem?_map, h]; rfl, hx⟩
theorem HR.poAt {A : TA} {a : HA} {D : TreeD} {s : HS} {H : Hp} (_ : HR C A a D s H) {i : Nat} (hi : i < D.n) : ((List.range D.n).map fun i => V.ref (a.po i))[i]? = some (.ref (a.po i)) := by
  rw [List.getElem?_map, List.getElem?_range hi]
  rfl
theorem sh_lt {D : TreeD} (W : D.WF) {i : Nat} (hi : i < D.n) : (D.sh i).kind < 6 := by
  have : D.sh i ∈ D.shs := by
    unfold TreeD.sh
    rw [List.getD_eq_getElem?_getD, List.getElem?_eq_getElem hi]
    exact List.getElem_mem _
  exact (W.ok _ this).kd
def spNote (C : Cs) : Sp := fun vs H Q _ => ∃ (A : TA) (a : HA) (D : TreeD) (s : HS) (i : Nat) (x : Wd), vs = [.ref a.h, .str x.s, .int (i : Int)] ∧ HR C A a D s H ∧ D.WF ∧ i < D.n ∧ s.book.length < 16000000 ∧ ∀ a' H', HR C A a' D (s.note x i) H' → Fr D.n a H a' H' → Q .non H'
theorem ok_note {f : Addr} {fd : FuncData} (F : Fun K "note" "House.note" s_House_note f fd) (kh : KH K C) (MN : Mth P w K mg base CX0 C.B "note" 1 ["self", "turn", "word", "name"] [] (spBNote C)) : FnOk P w K mg base CX0 2 f fd ["self", "word", "at"] (spNote C) := by
  refine F.ok sc_House_note (fun vs H Q E h => ?_) (fun cdv A outer s H vs Q E hr h => ?_)
  · obtain ⟨A, a, D, s, i, x, rfl, _⟩ := h
    rfl
  obtain ⟨A, a, D, s, i, x, rfl, R, W, hi, hl, q⟩ := h
  have hh := R.hh
  unfold houseF at hh
  have cH := kh.cH
  have cT := kh.cT
  have ht := R.tr.ht
  unfold treeF at ht
  have hsh := R.tr.hsh
  refine ⟨_, (pss_one (ps_expr (pe_ma (P := P) (w := w) (K := K) (mg := mg) (base := base) ⟨rfl, rfl, rfl, rfl, rfl⟩ hr (kFld (K := K) rfl (pv 0)) (pa_cons (kFld (K := K) rfl (pv 0)) (pa_cons (pv 1) (pa_cons (kFld (K := K) rfl (pe_ix (kIxL (K := K) rfl) (kFld (K := K) rfl (kFld (K := K) rfl (pv 0))) (pv 2) (fun _ _ => rfl))) pa_nil)))))), ?_⟩
  walk_at "rd"
  refine w_ma1 R.hb kh.cB.cl rfl MN (by decide) ?_
  walk_at "rd"
  obtain ⟨p, dx, hp, hp', hs⟩ := R.shAt hi
  refine w_ixL (v := .ref p) (SqL.of hsh) (at_nat (i := i) rfl hp') ?_
  have cS := kh.kc.cf _ (sh_lt W hi)
  refine w_fld1 hs cS.cl (cS.no _ (attr_name _)) (fld_name _) ?_
  walk_at "rd"
  refine ⟨a.bk, a.dxb, a.en, _, _, _, _, rfl, R.hb, R.he, by rw [List.length_map, R.lt]; exact hl, fun u hu => ?_⟩
  walk_at "rd"
  have R1 := R.same (same_new hu (.tup [.int (s.clock : Int), .str x.s, .str (D.sh i).name]))
  exact q (a.noteA u) _ (R1.noteR (t := u) (w := x) (i := i) upd_same (R.free u hu)) (Fr.note R1 (same_new hu _) hu)
theorem or_pow {n k : Nat} (h : n < 2 ^ k) : n ||| 2 ^ k = n + 2 ^ k := by
  have := Nat.two_pow_add_eq_or_of_lt h 1
  rw [Nat.mul_one] at this
  rw [Nat.or_comm, ← this, Nat.add_comm]
def spOnOf (C : Cs) : Sp := fun vs H Q _ => ∃ (A : TA) (a : HA) (D : TreeD) (s : HS) (i : Nat), vs = [.ref a.h, .int (i : Int)] ∧ HR C A a D s H ∧ D.WF ∧ i < D.n ∧ Q (.int (s.onOf D i : Int)) H
theorem ph_off (p : Ph) : (V.str p.s = V.str "off") ↔ p = .off := by
  constructor
  · intro h
    have h := V.str.inj h
    revert h
    cases p <;> decide
  · rintro rfl
    rfl
theorem ok_on_of {f : Addr} {fd : FuncData} (F : Fun K "on_of" "House.on_of" s_House_on_of f fd) (T : Bt mg) (kh : KH K C) (CB : Cal P w K mg base CX0 "bit" 1 ["place"] [] spBit) : FnOk P w K mg base CX0 2 f fd ["self", "at"] (spOnOf C) := by
  refine F.ok sc_House_on_of (fun vs H Q E h => ?_) (fun cdv A outer s H vs Q E hr h => ?_)
  · obtain ⟨A, a, D, s, i, rfl, _⟩ := h
    rfl
  obtain ⟨A, a, D, s, i, rfl, R, W, hi, q⟩ := h
  have hh := R.hh
  unfold houseF at hh
  have cH := kh.cH
  have cT := kh.cT
  have cP := kh.cP
  have ht := R.tr.ht
  unfold treeF at ht
  have hyg := R.tr.hyg
  have hpl := R.hpl
  have hj : i < A.ys.length := by rw [R.tr.lys]; exact hi
  have hz : A.ys[i]? = some A.ys[i] := List.getElem?_eq_getElem hj
  generalize A.ys[i] = z at hz
  have h1 := R.tr.hys i z hz
  have yl := yng_le W i
  have hsz := W.sz
  refine ⟨_, (pss_cons (ps_set (i := 2) sc_House_on_of.nd rfl (Or.inl rfl) pe_int)
    (pss_cons (ps_set (i := 3) sc_House_on_of.nd rfl (Or.inl rfl) (pe_ix (kIxL (K := K) rfl) (kFld (K := K) rfl (kFld (K := K) rfl (pv 0))) (pv 1) (fun _ _ => rfl)))
    (pss_cons (ps_for PassesOwn.never rfl (pi_range1 rfl T.range (pa_cons (pe_callB (kLenL (K := K) rfl) (by rfl) T.len (by decide +kernel) (pa_cons (pv 3) pa_nil)) pa_nil)) (pg_name (i := 4) sc_House_on_of.nd rfl (Or.inl rfl)) (pss_one (ps_if (pt_cmpR op_ne (kFld (K := K) rfl (pe_ix (kIxL (K := K) rfl) (kFld (K := K) rfl (pv 0)) (pe_ix (kIxL (K := K) rfl) (pv 3) (pv 4) (fun _ _ => rfl)) (fun _ _ => rfl))) pe_str (nomark _)) (pss_one (ps_set (i := 2) sc_House_on_of.nd rfl (Or.inl rfl) (pe_op op_or (pv 2) (pe_ca (P := P) (w := w) (K := K) (mg := mg) (base := base) ⟨rfl, rfl, rfl, rfl, rfl⟩ hr rfl (pa_cons (pv 4) pa_nil))))) pss_nil)))
    (pss_one (ps_ret (pv 2)))))), ?_⟩
  walk_at "rd"
  refine w_ixL (v := .ref z) (SqL.of hyg) (at_nat (i := i) rfl (by rw [List.getElem?_map, hz]; rfl)) ?_
  walk_at "rd"
  rw [List.length_map]
  refine w_forR (fun k σ H' => ∃ y, H' = H ∧ σ = [some (.ref a.h), some (.int (i : Int)), some (.int ((bitsOf (((D.yng i).take k).map fun c => decide ((s.posts c).phase ≠ .off)) : Nat) : Int)), some (.ref z), y]) (by omega) (by show ((D.yng i).length : Int) < _; omega) ⟨none, rfl, rfl⟩ (fun k σ H' hk hm => ?_) (fun σ H' hm => ?_)
  · obtain ⟨y, rfl, rfl⟩ := hm
    have hk : k < (D.yng i).length := by
      have : k < ((D.yng i).length : Int).toNat := hk
      omega
    have hc := List.getElem?_eq_getElem hk
    have hcm := List.mem_of_getElem? hc
    generalize (D.yng i)[k] = c at hc hcm
    have hcn : c < D.n := by
      have := yng_lt hcm
      rw [W.le] at this
      exact this.1
    have hpo := R.hpo c hcn
    unfold postF at hpo
    walk_at "rd"
    refine w_ixL (v := .int (c : Int)) (SqL.of h1) (at_nat (i := k) (by omega) (by rw [List.getElem?_map, show yngOf D.eld i = D.yng i from rfl, hc]; rfl)) ?_
    walk_at "rd"
    refine w_ixL (SqL.of hpl) (at_nat (i := c) rfl (R.poAt hcn)) ?_
    walk_at "rd"
    have tk := take_succ' hc
    have lk : (((D.yng i).take k).map fun c => decide ((s.posts c).phase ≠ .off)).length = k := by
      rw [List.length_map, List.length_take]
      omega
    walk_at "if"
    · rename_i cc
      have cc : (s.posts c).phase ≠ .off := fun e => cc ((ph_off _).mpr e)
      walk_at "rd"
      refine w_ca CB (by decide) ?_
      walk_at "rd"
      refine ⟨k, by rw [Int.zero_add]; rfl, by omega, ?_⟩
      walk_at "rd"
      refine ⟨some (.int (0 + (k : Int))), rfl, ?_⟩
      rw [tk, List.map_append, List.map_cons, List.map_nil, bitsOf_snoc, lk, if_pos (decide_eq_true cc), or_int, or_pow (by have := bitsOf_lt (((D.yng i).take k).map fun c => decide ((s.posts c).phase ≠ .off)); rw [lk] at this; exact this)]
    · rename_i cc
      have cc : (s.posts c).phase = .off := (ph_off _).mp cc
      walk_at "rd"
      refine ⟨some (.int (0 + (k : Int))), rfl, ?_⟩
      rw [tk, List.map_append, List.map_cons, List.map_nil, bitsOf_snoc, lk, if_neg (by simpa using cc), Nat.add_zero]
  · obtain ⟨y, rfl, rfl⟩ := hm
    walk_at "rd"
    have e : ((D.yng i).take ((D.yng i).length : Int).toNat) = D.yng i := List.take_of_length_le (by omega)
    have q : Q (.int ((bitsOf ((D.yng i).map fun c => decide ((s.posts c).phase ≠ .off)) : Nat) : Int)) H' := q
    rw [← e] at q
    exact q
end
end Mn

namespace Mn
open PySem PySem.Spec PyProof.Rows L2 TL
structure KdH (P : Program) (w : World) (K : PySem.W.Frag) (mg : Str → Option Value) (base : Heap) (cls : Nat → Addr) : Prop where
  leaf : ∀ k, k < 6 → Mth P w K mg base CX0 (cls k) "leaf" 1 ["self"] [] (spTruth (cls k) (decide (k < 3)))
  again : ∀ k, k < 6 → Mth P w K mg base CX0 (cls k) "begun_again" 1 ["self", "word"] [] (spAgain (cls k))
  ends : ∀ k : Nat, k < 3 → Mth P w K mg base CX0 (cls k) "end_at" 1 ["self", "steps"] [] (spEnd (cls k) (k : Int))
  chosen : ∀ k, 3 ≤ k → k < 6 → Mth P w K mg base CX0 (cls k) "chosen" 2 chN [] (spChosen (cls k) (chK k))
theorem fld_keep (s : Shp) : (fldS s).lookup ("keep" : Str) = some (.str s.keep) := by
  unfold fldS fieldsOf
  split
  · split
    · rfl
    · split <;> rfl
  · rfl
theorem fld_no {s : Shp} {m : Str} (h : m = "leaf" ∨ m = "begun_again" ∨ m = "end_at" ∨ m = "chosen") : (fldS s).lookup m = none := by
  unfold fldS fieldsOf
  rcases h with rfl | rfl | rfl | rfl
  all_goals
    split
    · split
      · rfl
      · split <;> rfl
    · rfl
theorem HR.facts {C : Cs} {A : TA} {a : HA} {D : TreeD} {s : HS} {H : Hp} (R : HR C A a D s H) {h0 : Addr} (e : a.h = h0) :
    H h0 = some (.ins C.H a.dxh [("tree", .ref A.t), ("clock", .int (s.clock : Int)), ("book", .ref a.bk), ("posts", .ref a.pl), ("heard", .ref a.hd)]) ∧
    H A.t = some (.ins C.T A.dx [("shapes", .ref A.sh), ("elders", .ref A.el), ("young", .ref A.yg), ("known", .ref A.kn)]) := by
  subst e
  exact ⟨R.hh, R.tr.ht⟩
theorem w_postP {K : PySem.W.Frag} {C : Cs} {A : TA} {a : HA} {D : TreeD} {s : HS} {H : Hp} {i : Nat} (kh : KH K C) (R : HR C A a D s H) (hi : i < D.n) (p : Post) {f : Str} {y : V} {x : Addr} (hx : a.po i = x) (hf : p.falls = (s.posts i).falls) (hw : p.waiting = (s.posts i).waiting) (hput : putF f y (postF (a.fa i) (a.wa i) (s.posts i)) = postF (a.fa i) (a.wa i) p) (nf : f ∈ postN) {Rq : Hp → Prop}
    (q : ∀ H', HR C A a D (s.put i p) H' → Fr D.n a H a H' → Rq H') : ∃ a' C dx fs, V.ref x = .ref a' ∧ H a' = some (.ins C dx fs) ∧ Cls K C ∧ NoAttr K C f ∧ fs.length < 1000 ∧ Rq (upd H a' (.ins C dx (putF f y fs))) := by
  subst hx
  refine ⟨_, _, _, _, rfl, R.hpo i hi, kh.cP.cl, kh.cP.no _ nf, ltb rfl, ?_⟩
  rw [hput]
  exact q _ (R.post hi hf hw) (Fr.own (R.hpo i hi) (by rw [R.r_po i hi]; intro z; cases z))
theorem w_postR {K : PySem.W.Frag} {C : Cs} {A : TA} {a : HA} {D : TreeD} {s : HS} {H : Hp} {i : Nat} (kh : KH K C) (R : HR C A a D s H) (hi : i < D.n) {x : Addr} (hx : a.po i = x) {f : Str} {v : V} (hl : (postF (a.fa i) (a.wa i) (s.posts i)).lookup f = some v) (nf : f ∈ postN) {Rq : V → Prop} (q : Rq v) :
    ∃ a' C dx fs v', V.ref x = .ref a' ∧ H a' = some (.ins C dx fs) ∧ Cls K C ∧ NoAttr K C f ∧ fs.lookup f = some v' ∧ Rq v' := by
  subst hx
  exact w_fld1 (R.hpo i hi) kh.cP.cl (kh.cP.no _ nf) hl q
section
variable {P : Program} {w : World} {K : PySem.W.Frag} {mg : Str → Option Value} {base : Heap} {C : Cs}
def spOver (C : Cs) : Sp := fun vs H Q _ => ∃ (A : TA) (a : HA) (D : TreeD) (s : HS) (i : Nat) (x : Wd), vs = [.ref a.h, .int (i : Int), .str x.s] ∧ HR C A a D s H ∧ D.WF ∧ i < D.n ∧ s.book.length < 16000000 ∧ s.heard.length < 16000000 ∧ ∀ a' H', HR C A a' D (s.over D i x) H' → Fr D.n a H a' H' → Q .non H'
theorem ok_over {f : Addr} {fd : FuncData} (F : Fun K "over" "House.over" s_House_over f fd) (kh : KH K C) (kd : KdH P w K mg base C.cls) (MN : Mth P w K mg base CX0 C.H "note" 2 ["self", "word", "at"] [] (spNote C)) (MP : Mth P w K mg base CX0 C.T "place" 1 ["self", "at"] [] (spPlace C)) (CB : Cal P w K mg base CX0 "bit" 1 ["place"] [] spBit) : FnOk P w K mg base CX0 3 f fd ["self", "at", "word"] (spOver C) := by
  refine F.ok sc_House_over (fun vs H Q E h => ?_) (fun cdv A outer s H vs Q E hr h => ?_)
  · obtain ⟨A, a, D, s, i, x, rfl, _⟩ := h
    rfl
  obtain ⟨A, a, D, s, i, x, rfl, R, W, hi, hl, hl2, q⟩ := h
  have cH := kh.cH
  have cT := kh.cT
  obtain ⟨hh, ht⟩ := R.facts rfl
  refine ⟨_, (pss_cons (ps_set (i := 3) sc_House_over.nd rfl (Or.inl rfl) (pe_ix (kIxL (K := K) rfl) (kFld (K := K) rfl (pv 0)) (pv 1) (fun _ _ => rfl)))
    (pss_cons (kSFld (K := K) rfl (pv 3) pe_str)
    (pss_cons (ps_expr (pe_ma (P := P) (w := w) (K := K) (mg := mg) (base := base) ⟨rfl, rfl, rfl, rfl, rfl⟩ hr (pv 0) (pa_cons (pv 2) (pa_cons (pv 1) pa_nil))))
    (pss_cons (ps_set (i := 4) sc_House_over.nd rfl (Or.inl rfl) (pe_ix (kIxL (K := K) rfl) (kFld (K := K) rfl (kFld (K := K) rfl (pv 0))) (pv 1) (fun _ _ => rfl)))
    (pss_one (ps_if (pt_cmpR op_ge (pv 4) pe_int (nomark _)) (C8.pss_cut (ps_if (PW.pt (pw_and (pt_not (pt_val (kFld (K := K) rfl (pv 3)))) (pw_and1 (pt_not (pt_val (pe_ma (P := P) (w := w) (K := K) (mg := mg) (base := base) ⟨rfl, rfl, rfl, rfl, rfl⟩ hr (pe_ix (kIxL (K := K) rfl) (kFld (K := K) rfl (kFld (K := K) rfl (pv 0))) (pv 1) (fun _ _ => rfl)) (pa_cons (pv 2) pa_nil))))))) (pss_one (kSFld (K := K) rfl (pe_ix (kIxL (K := K) rfl) (kFld (K := K) rfl (pv 0)) (pv 4) (fun _ _ => rfl)) (pe_op op_or (kFld (K := K) rfl (pe_ix (kIxL (K := K) rfl) (kFld (K := K) rfl (pv 0)) (pv 4) (fun _ _ => rfl))) (pe_ca (P := P) (w := w) (K := K) (mg := mg) (base := base) ⟨rfl, rfl, rfl, rfl, rfl⟩ hr rfl (pa_cons (pe_ma (P := P) (w := w) (K := K) (mg := mg) (base := base) ⟨rfl, rfl, rfl, rfl, rfl⟩ hr (kFld (K := K) rfl (pv 0)) (pa_cons (pv 1) pa_nil)) pa_nil))))) pss_nil)
    (pss_one (ps_expr (kBm (K := K) rfl PySem.F.plainAttrs_list PySem.F.slot_list_append PySem.F.type_list_append mt_append (kFld (K := K) rfl (pv 0)) (pa_cons (pe_tup (pa_cons (pv 1) (pa_cons (kFld (K := K) rfl (pv 3)) pa_nil))) pa_nil))))) pss_nil)))))), ?_⟩
  walk_at "rd"
  refine w_ixL (SqL.of R.hpl) (at_nat (i := i) rfl (R.poAt hi)) ?_
  walk_at "rd"
  refine w_postP kh R hi { s.posts i with phase := .off } rfl rfl rfl rfl (by decide) fun H1 R1 F1 => ?_
  walk_at "rd"
  refine w_ma1 R1.hh cH.cl rfl MN (by decide) ?_
  walk_at "rd"
  refine ⟨A, a, D, _, i, x, rfl, R1, W, hi, hl, fun a2 H2 R2 F2 => ?_⟩
  have F12 := F1.trans F2
  have eh := F12.h
  have ep := F12.p i hi
  obtain ⟨hh2, ht2⟩ := R2.facts eh
  have hel2 := R2.tr.hel
  walk_at "rd"
  refine w_ixL (SqL.of hel2) (at_nat (i := i) rfl (atE W hi)) ?_
  walk_at "rd"
  walk_at "if"
  all_goals rename_i ce
  all_goals walk_at "rd"
  · have he : 0 ≤ D.e i := ce
    have el := W.el i hi
    have hen : (D.e i).toNat < D.n := by omega
    have pl2 : (((s.put i { s.posts i with phase := .off }).note x i).posts i).planned = (s.posts i).planned := by
      show ((s.put i { s.posts i with phase := .off }).posts i).planned = _
      rw [put_same]
    obtain ⟨p, dx, hp, hp', hs⟩ := R2.shAt hi
    have kl := sh_lt W hi
    have cS := kh.kc.cf _ kl
    have hov : s.over D i x = (fun s2 : HS => (fun s3 : HS => ({ s3 with heard := s3.heard ++ [(i, (s.posts i).planned)] } : HS)) (if (s.posts i).planned = false ∧ again (D.sh i).keep x.s = false then s2.put (D.e i).toNat { s2.posts (D.e i).toNat with good := (s2.posts (D.e i).toNat).good ||| 2 ^ D.place i } else s2)) ((s.put i { s.posts i with phase := .off }).note x i) := by
      unfold HS.over
      dsimp only
      rw [if_neg (by omega)]
    have hh2s : ((s.put i { s.posts i with phase := .off }).note x i).heard = s.heard := rfl
    have pll := place_lt W hi he
    have yl := yng_le W (D.e i).toNat
    have hsz := W.sz
    generalize (s.put i { s.posts i with phase := .off }).note x i = s2 at *
    dsimp only at hov
    refine w_cut (fun σ H3 => σ = [some (.ref a.h), some (.int (i : Int)), some (.str x.s), some (.ref (a.po i)), some (.int (D.e i))] ∧ ∃ a3, HR C A a3 D (if (s.posts i).planned = false ∧ again (D.sh i).keep x.s = false then s2.put (D.e i).toNat { s2.posts (D.e i).toNat with good := (s2.posts (D.e i).toNat).good ||| 2 ^ D.place i } else s2) H3 ∧ Fr D.n a H a3 H3) ?_ (fun σ H3 hm => ?_)
    · walk_at "rd"
      refine w_postR kh R2 hi ep rfl (by decide) ?_
      rw [pl2]
      walk_at "rd"
      walk_at "if"
      all_goals rename_i c1
      · have c1 : (s.posts i).planned = false := by
          revert c1
          cases (s.posts i).planned <;> decide
        walk_at "rd"
        refine w_ixL (v := .ref p) (SqL.of R2.tr.hsh) (at_nat (i := i) rfl hp') ?_
        refine w_ma1 hs cS.cl (fld_no (.inr (.inl rfl))) (kd.again _ kl) (by decide) ?_
        walk_at "rd"
        refine ⟨p, dx, _, _, x.s, rfl, hs, fld_keep _, ?_⟩
        walk_at "rd"
        walk_at "if"
        all_goals rename_i c2
        · have c2 : again (D.sh i).keep x.s = false := by
            revert c2
            cases again (D.sh i).keep x.s <;> decide
          walk_at "rd"
          refine w_ixL (SqL.of R2.hpl) (at_nat (i := (D.e i).toNat) (by omega) (R2.poAt hen)) ?_
          refine w_postR kh R2 hen rfl rfl (by decide) ?_
          refine w_ca CB (by decide) ?_
          walk_at "rd"
          refine w_ma1 ht2 cT.cl rfl MP (by decide) ?_
          walk_at "rd"
          refine ⟨A, D, i, rfl, R2.tr.toTR, W, hi, he, ?_⟩
          walk_at "rd"
          refine ⟨D.place i, rfl, by omega, ?_⟩
          walk_at "rd"
          rw [or_int]
          walk_at "rd"
          refine w_ixL (SqL.of R2.hpl) (at_nat (i := (D.e i).toNat) (by omega) (R2.poAt hen)) ?_
          refine w_postP kh R2 hen { s2.posts (D.e i).toNat with good := (s2.posts (D.e i).toNat).good ||| 2 ^ D.place i } rfl rfl rfl rfl (by decide) fun H3 R3 F3 => ?_
          refine ⟨rfl, a2, ?_, F12.trans F3⟩
          rw [if_pos ⟨c1, c2⟩]
          exact R3
        · have c2 : again (D.sh i).keep x.s = true := by
            revert c2
            cases again (D.sh i).keep x.s <;> decide
          walk_at "rd"
          refine ⟨rfl, a2, ?_, F12⟩
          rw [if_neg (fun z => by rw [z.2] at c2; cases c2)]
          exact R2
      · have c1 : (s.posts i).planned = true := by
          revert c1
          cases (s.posts i).planned <;> decide
        walk_at "rd"
        refine ⟨rfl, a2, ?_, F12⟩
        rw [if_neg (fun z => by rw [z.1] at c1; cases c1)]
        exact R2
    · obtain ⟨rfl, a3, R3, F3⟩ := hm
      obtain ⟨hh3, ht3⟩ := R3.facts F3.h
      have pl3 : ((if (s.posts i).planned = false ∧ again (D.sh i).keep x.s = false then s2.put (D.e i).toNat { s2.posts (D.e i).toNat with good := (s2.posts (D.e i).toNat).good ||| 2 ^ D.place i } else s2).posts i).planned = (s.posts i).planned := by
        split
        · rw [put_ne _ _ (by omega)]
          exact pl2
        · exact pl2
      have hd3 : (if (s.posts i).planned = false ∧ again (D.sh i).keep x.s = false then s2.put (D.e i).toNat { s2.posts (D.e i).toNat with good := (s2.posts (D.e i).toNat).good ||| 2 ^ D.place i } else s2).heard = s.heard := by
        split
        · exact hh2s
        · exact hh2s
      generalize (if (s.posts i).planned = false ∧ again (D.sh i).keep x.s = false then s2.put (D.e i).toNat { s2.posts (D.e i).toNat with good := (s2.posts (D.e i).toNat).good ||| 2 ^ D.place i } else s2) = s3 at *
      walk_at "rd"
      refine w_tyL (SqL.of R3.hhd) ?_
      walk_at "rd"
      refine w_postR kh R3 hi (F3.p i hi) rfl (by decide) ?_
      rw [pl3]
      walk_at "rd"
      have z := PySem.sizeLine_eq
      refine ⟨by simp only [List.length_cons, List.length_nil]; omega, fun t ht4 => ?_⟩
      have R4 := R3.same (same_new ht4 (.tup [.int (i : Int), .bl (s.posts i).planned]))
      walk_at "rd"
      refine w_app R4.hhd (by rw [List.length_map, R4.lk, hd3]; omega) ?_
      walk_at "rd"
      refine q (a3.pushA t) _ ?_ (F3.trans (Fr.pushed R4 (same_new ht4 _) ht4))
      rw [hov]
      exact R4.pushR (t := t) (x := (i, (s.posts i).planned)) upd_same (R3.free t ht4)
  · refine q a2 H2 ?_ F12
    unfold HS.over
    dsimp only
    rw [if_pos (by omega)]
    exact R2
end
end Mn

namespace Mn
open PySem PySem.Spec PyProof.Rows L2 TL
section
variable {P : Program} {w : World} {K : PySem.W.Frag} {mg : Str → Option Value} {base : Heap} {C : Cs}
def spEase (C : Cs) : Sp := fun vs H Q _ => ∃ (A : TA) (a : HA) (D : TreeD) (s : HS) (i : Nat), vs = [.ref a.h, .int (i : Int)] ∧ HR C A a D s H ∧ D.WF ∧ i < D.n ∧ s.book.length < 16000000 ∧ s.heard.length < 16000000 ∧ ∀ a' H', HR C A a' D (s.ease D i) H' → Fr D.n a H a' H' → Q .non H'
theorem ok_ease {f : Addr} {fd : FuncData} (F : Fun K "ease" "House.ease" s_House_ease f fd) (kh : KH K C) (MO : Mth P w K mg base CX0 C.H "over" 3 ["self", "at", "word"] [] (spOver C)) : FnOk P w K mg base CX0 4 f fd ["self", "at"] (spEase C) := by
  refine F.ok sc_House_ease (fun vs H Q E h => ?_) (fun cdv A outer s H vs Q E hr h => ?_)
  · obtain ⟨A, a, D, s, i, rfl, _⟩ := h
    rfl
  obtain ⟨A, a, D, s, i, rfl, R, W, hi, hl, hl2, q⟩ := h
  have cH := kh.cH
  obtain ⟨hh, ht⟩ := R.facts rfl
  refine ⟨_, (pss_cons (ps_set (i := 2) sc_House_ease.nd rfl (Or.inl rfl) (pe_ix (kIxL (K := K) rfl) (kFld (K := K) rfl (pv 0)) (pv 1) (fun _ _ => rfl)))
    (pss_one (ps_if (pt_cmpR op_eq (kFld (K := K) rfl (pv 2)) pe_int (nomark _)) (pss_one (ps_expr (pe_ma (P := P) (w := w) (K := K) (mg := mg) (base := base) ⟨rfl, rfl, rfl, rfl, rfl⟩ hr (pv 0) (pa_cons (pv 1) (pa_cons pe_str pa_nil))))) (pss_one (ps_if (pt_cmpR op_eq (kFld (K := K) rfl (pv 2)) pe_int (nomark _)) (pss_one (ps_expr (pe_ma (P := P) (w := w) (K := K) (mg := mg) (base := base) ⟨rfl, rfl, rfl, rfl, rfl⟩ hr (pv 0) (pa_cons (pv 1) (pa_cons pe_str pa_nil))))) pss_nil))))), ?_⟩
  walk_at "rd"
  refine w_ixL (SqL.of R.hpl) (at_nat (i := i) rfl (R.poAt hi)) ?_
  walk_at "rd"
  refine w_postR kh R hi rfl rfl (by decide) ?_
  walk_at "rd"
  walk_at "if"
  all_goals rename_i c1
  · have c1 := V.int.inj c1
    walk_at "rd"
    refine w_ma1 R.hh cH.cl rfl MO (by decide) ?_
    walk_at "rd"
    refine ⟨A, a, D, s, i, .ended, rfl, R, W, hi, hl, hl2, fun a2 H2 R2 F2 => ?_⟩
    walk_at "rd"
    refine q a2 H2 ?_ F2
    unfold HS.ease
    rw [if_pos c1]
    exact R2
  · have c1 : ¬ (s.posts i).slow = 0 := fun e => c1 (congrArg V.int e)
    walk_at "rd"
    refine w_postR kh R hi rfl rfl (by decide) ?_
    walk_at "rd"
    walk_at "if"
    all_goals rename_i c2
    · have c2 := V.int.inj c2
      walk_at "rd"
      refine w_ma1 R.hh cH.cl rfl MO (by decide) ?_
      walk_at "rd"
      refine ⟨A, a, D, s, i, .cut, rfl, R, W, hi, hl, hl2, fun a2 H2 R2 F2 => ?_⟩
      walk_at "rd"
      refine q a2 H2 ?_ F2
      unfold HS.ease
      rw [if_neg c1, if_pos c2]
      exact R2
    · have c2 : ¬ (s.posts i).grace = 0 := fun e => c2 (congrArg V.int e)
      walk_at "rd"
      refine q a H ?_ Fr.refl
      unfold HS.ease
      rw [if_neg c1, if_neg c2]
      exact R
def spBegin (C : Cs) (d : Nat) : Sp := fun vs H Q _ => ∃ (A : TA) (a : HA) (D : TreeD) (s : HS) (i : Nat), vs = [.ref a.h, .int (i : Int)] ∧ HR C A a D s H ∧ D.WF ∧ i < D.n ∧ 8 < d + D.dp i ∧ s.book.length + (D.sub i).length < 16000000 ∧ ∀ a' H', HR C A a' D (s.begin D i) H' → Fr i a H a' H' → Q .non H'
theorem fresh_book (l : List Nat) : ∀ s : HS, (l.foldl HS.fresh s).book.length = s.book.length + l.length := by
  induction l with
  | nil => exact fun s => rfl
  | cons i r ih =>
    intro s
    rw [List.foldl_cons, ih, List.length_cons]
    have : (s.fresh i).book.length = s.book.length + 1 := by
      show (s.book ++ [_]).length = _
      rw [List.length_append]
      rfl
    omega
theorem ok_begin {f : Addr} {fd : FuncData} (F : Fun K "begin" "House.begin" s_House_begin f fd) (kh : KH K C) (MP : Mak P w K mg base CX0 "Post" C.P 1 ["self"] [] (spPost C)) (MN : Mth P w K mg base CX0 C.H "note" 2 ["self", "word", "at"] [] (spNote C)) (me : Meth K C.H "begin" f) (bd : Binds K fd ["self", "at"] []) : ∀ d : Nat, FnOk P w K mg base CX0 (3 + d) f fd ["self", "at"] (spBegin C d) := by
  intro d
  induction d with
  | zero =>
    refine F.ok sc_House_begin (fun vs H Q E h => ?_) (fun cdv A outer s H vs Q E hr h => ?_)
    · obtain ⟨A, a, D, s, i, rfl, _⟩ := h
      rfl
    · obtain ⟨A, a, D, s, i, rfl, R, W, hi, hd, _⟩ := h
      have := W.d8 i hi
      omega
  | succ d ih =>
  have MB : Mth P w K mg base CX0 C.H "begin" (3 + d) ["self", "at"] [] (spBegin C d) := ⟨f, fd, [], ih, me, bd, .nil⟩
  refine F.ok sc_House_begin (fun vs H Q E h => ?_) (fun cdv A outer s H vs Q E hr h => ?_)
  · obtain ⟨A, a, D, s, i, rfl, _⟩ := h
    rfl
  obtain ⟨A, a, D, s, i, rfl, R, W, hi, hd, hl, q⟩ := h
  have cH := kh.cH
  have cT := kh.cT
  have cP := kh.cP
  refine ⟨_, (pss_cons (ps_set (i := 2) sc_House_begin.nd rfl (Or.inl rfl) (pe_mka0 (P := P) (w := w) (K := K) (mg := mg) (base := base) ⟨rfl, rfl, rfl, rfl, rfl⟩ hr rfl))
    (pss_cons (kSFld (K := K) rfl (pv 2) pe_str)
    (pss_cons (kSFld (K := K) rfl (pv 2) (kFld (K := K) rfl (pv 0)))
    (pss_cons (ps_asg (pv 2) (pg_sub (kFld (K := K) rfl (pv 0)) (pv 1) set_list))
    (pss_cons (ps_expr (pe_ma (P := P) (w := w) (K := K) (mg := mg) (base := base) ⟨rfl, rfl, rfl, rfl, rfl⟩ hr (pv 0) (pa_cons pe_str (pa_cons (pv 1) pa_nil))))
    (pss_one (ps_for PassesOwn.never rfl (kPiL (K := K) rfl (pe_ix (kIxL (K := K) rfl) (kFld (K := K) rfl (kFld (K := K) rfl (pv 0))) (pv 1) (fun _ _ => rfl))) (pg_name (i := 3) sc_House_begin.nd rfl (Or.inl rfl)) (pss_one (ps_expr (pe_ma (P := P) (w := w) (K := K) (mg := mg) (base := base) ⟨rfl, rfl, rfl, rfl, rfl⟩ hr (pv 0) (pa_cons (pv 3) pa_nil))))))))))), ?_⟩
  walk_at "rd"
  refine w_mka MP (by show 1 + 1 ≤ 3 + d; omega) ?_
  walk_at "rd"
  intro x dx hx hdx nx
  refine ⟨x, dx, rfl, upd_same, fun f1 g1 H2 out hp hf hg nfg fn gn => ⟨rfl, ?_⟩⟩
  have fn := updN (updN fn)
  have gn := updN (updN gn)
  have S2 : Same H H2 := fun b u hb => out b u (by rw [List.mem_singleton]; exact neN hx hb) (by rw [upd_ne (neN hx hb), upd_ne (neN hdx hb)]; exact hb)
  unfold postF at hp
  have R2 := R.same S2
  obtain ⟨hh2, ht2⟩ := R2.facts rfl
  have hpl2 := R2.hpl
  have n1 : x ≠ a.h := (neN hx R.hh).symm
  have n2 : x ≠ a.pl := (neN hx R.hpl).symm
  have n3 : f1 ≠ x := fun e => by rw [e, hp] at hf; cases hf
  have n4 : g1 ≠ x := fun e => by rw [e, hp] at hg; cases hg
  walk_at "rd"
  have S3 : Same H (upd (upd H2 x (.ins C.P dx (postF f1 g1 { phase := .on }))) x (.ins C.P dx (postF f1 g1 { phase := .on, born := s.clock }))) := fun b u hb => by
    have nb := neN hx hb
    rw [upd_ne nb, upd_ne nb]
    exact S2 b u hb
  have R3 := R.same S3
  have R4 := R3.newR (p := x) (dx := dx) (f := f1) (g := g1) (q := { phase := .on, born := s.clock }) hi upd_same (by rw [upd_ne n3, upd_ne n3]; exact hf) (by rw [upd_ne n4, upd_ne n4]; exact hg) nfg (R.free x hx) (R.free f1 fn) (R.free g1 gn)
  have F4 : Fr i a H (a.newA i x dx f1 g1) _ := Fr.newed (o := .lst (((List.range D.n).map fun i => V.ref (a.po i)).set i (V.ref x))) R3 (Nat.le_refl i) S3 hx fn gn
  refine w_setL R3.hpl (ixN_of rfl (by rw [List.length_map, List.length_range]; exact hi)) ?_
  change tSeq _ _ _ _ (upd (upd (upd H2 x (.ins C.P dx (postF f1 g1 { phase := .on }))) x (.ins C.P dx (postF f1 g1 { phase := .on, born := s.clock }))) a.pl (.lst (((List.range D.n).map fun i => V.ref (a.po i)).set i (V.ref x))))
  generalize upd (upd (upd H2 x (.ins C.P dx (postF f1 g1 { phase := .on }))) x (.ins C.P dx (postF f1 g1 { phase := .on, born := s.clock }))) a.pl (.lst (((List.range D.n).map fun i => V.ref (a.po i)).set i (V.ref x))) = H4 at R4 F4 ⊢
  generalize a.newA i x dx f1 g1 = a4 at R4 F4
  have e4 := F4.h
  obtain ⟨hh4, ht4⟩ := R4.facts e4
  have sl : (D.sub i).length = 1 + ((D.yng i).flatMap D.sub).length := by
    rw [sub_step W hi, List.length_cons]
    omega
  walk_at "rd"
  refine w_ma1 hh4 cH.cl rfl MN (by show 2 ≤ 3 + d; omega) ?_
  walk_at "rd"
  refine ⟨A, a4, D, _, i, .begun, by rw [e4]; rfl, R4, W, hi, by show s.book.length < _; omega, fun a5 H5 R5 F5 => ?_⟩
  have F5 := F4.trans (F5.low (Nat.le_of_lt hi))
  have e5 := F5.h
  obtain ⟨hh5, ht5⟩ := R5.facts e5
  have hj : i < A.ys.length := by rw [R5.tr.lys]; exact hi
  have hz : A.ys[i]? = some A.ys[i] := List.getElem?_eq_getElem hj
  generalize A.ys[i] = z at hz
  have h1 := R5.tr.hys i z hz
  walk_at "rd"
  refine w_ixL (v := .ref z) (SqL.of R5.tr.hyg) (at_nat (i := i) rfl (by rw [List.getElem?_map, hz]; rfl)) ?_
  refine w_forL (fun k σ H' => ∃ a' y, σ = [some (.ref a.h), some (.int (i : Int)), some (.ref x), y] ∧ HR C A a' D (((D.yng i).take k).foldl (fun h c => h.begin D c) (s.fresh i)) H' ∧ Fr i a H a' H') (SqL.of h1) ⟨a5, none, rfl, R5, F5⟩ (fun k σ H' hk hm => ?_) (fun k y σ H' hy hm => ?_) (fun σ H' hm => ?_)
  · obtain ⟨a', y, rfl, R', F'⟩ := hm
    exact SqL.of (R'.tr.hys i z hz)
  · obtain ⟨a', y', rfl, R', F'⟩ := hm
    have e' := F'.h
    rw [List.getElem?_map] at hy
    obtain ⟨c, hc, rfl⟩ := Option.map_eq_some_iff.mp hy
    have hc : (D.yng i)[k]? = some c := hc
    have yc := yng_gt W (List.mem_of_getElem? hc)
    obtain ⟨hh6, ht6⟩ := R'.facts e'
    walk_at "rd"
    refine w_ma1 hh6 cH.cl rfl MB (by show 3 + d ≤ 3 + d; omega) ?_
    walk_at "rd"
    have tk := take_succ' hc
    have bl : (((D.yng i).take k).foldl (fun h c => h.begin D c) (s.fresh i)).book.length + (D.sub c).length ≤ s.book.length + (D.sub i).length := by
      rw [begins_is, fresh_book, sl]
      have h1 : (s.fresh i).book.length = s.book.length + 1 := by
        show (s.book ++ [_]).length = _
        rw [List.length_append]
        rfl
      have h2 : (D.yng i) = (D.yng i).take k ++ c :: (D.yng i).drop (k + 1) := by
        have := List.getElem_cons_drop (as := D.yng i) (i := k) (List.getElem?_eq_some_iff.mp hc).choose
        rw [(List.getElem?_eq_some_iff.mp hc).choose_spec] at this
        rw [this, List.take_append_drop]
      have h3 : ((D.yng i).flatMap D.sub).length = (((D.yng i).take k).flatMap D.sub).length + ((D.sub c).length + (((D.yng i).drop (k + 1)).flatMap D.sub).length) := by
        conv => lhs; rw [h2, List.flatMap_append, List.length_append, List.flatMap_cons, List.length_append]
      omega
    refine ⟨A, a', D, _, c, by rw [e']; rfl, R', W, yc.2.1, by omega, by omega, fun a7 H7 R7 F7 => ?_⟩
    walk_at "rd"
    refine ⟨a7, _, rfl, ?_, F'.trans (F7.low (by omega))⟩
    rw [tk, List.foldl_append]
    exact R7
  · obtain ⟨a', y', rfl, R', F'⟩ := hm
    walk_at "rd"
    refine q a' H' ?_ F'
    have e : (D.yng i).take ((yngOf D.eld i).map fun j : Nat => V.int j).length = D.yng i := List.take_of_length_le (by rw [List.length_map]; exact Nat.le_refl _)
    rw [e, begins_is] at R'
    unfold HS.begin
    rw [sub_step W hi, List.foldl_cons]
    exact R'
end
end Mn

namespace Mn
open PySem PySem.Spec PyProof.Rows L2 TL
theorem w_postQ {K : PySem.W.Frag} {C : Cs} {A : TA} {a : HA} {D : TreeD} {s : HS} {H : Hp} {i : Nat} {p0 : Post} (kh : KH K C) (R : HR C A a D (s.put i p0) H) (hi : i < D.n) (p : Post) {f : Str} {y : V} {x : Addr} (hx : a.po i = x) (hf : p.falls = p0.falls) (hw : p.waiting = p0.waiting) (hput : putF f y (postF (a.fa i) (a.wa i) p0) = postF (a.fa i) (a.wa i) p) (nf : f ∈ postN) {Rq : Hp → Prop}
    (q : ∀ H', HR C A a D (s.put i p) H' → Fr D.n a H a H' → Rq H') : ∃ a' C dx fs, V.ref x = .ref a' ∧ H a' = some (.ins C dx fs) ∧ Cls K C ∧ NoAttr K C f ∧ fs.length < 1000 ∧ Rq (upd H a' (.ins C dx (putF f y fs))) := by
  refine w_postP kh R hi p hx (by rw [put_same]; exact hf) (by rw [put_same]; exact hw) (by rw [put_same]; exact hput) nf fun H' R' F' => ?_
  rw [put_put] at R'
  exact q H' R' F'
theorem fld_slow {s : Shp} (h : s.kind < 3) : (fldS s).lookup ("slow" : Str) = some (.int s.b) := by
  unfold fldS fieldsOf
  rw [if_pos h]
  split
  · rfl
  · split
    · omega
    · rfl
theorem fld_grace {s : Shp} (h : s.kind < 3) : (fldS s).lookup ("grace" : Str) = some (.int s.a) := by
  unfold fldS fieldsOf
  rw [if_pos h]
  split
  · rfl
  · split
    · omega
    · rfl
theorem fld_most {s : Shp} (h : 3 ≤ s.kind) : (fldS s).lookup ("most" : Str) = some (.int s.a) := by
  unfold fldS
  rw [if_neg (by omega)]
  rfl
theorem fld_span {s : Shp} (h : 3 ≤ s.kind) : (fldS s).lookup ("span" : Str) = some (.int s.b) := by
  unfold fldS
  rw [if_neg (by omega)]
  rfl
theorem attr_leaf {k : Nat} (h : k < 3) {f : Str} (hf : f = "slow" ∨ f = "grace") : f ∈ attrS k := by
  unfold attrS
  rw [if_pos h]
  split
  · rcases hf with rfl | rfl <;> decide
  · rcases hf with rfl | rfl <;> decide
theorem attr_min {k : Nat} (h : 3 ≤ k) {f : Str} (hf : f = "most" ∨ f = "span") : f ∈ attrS k := by
  unfold attrS
  rw [if_neg (by omega), if_neg (by omega)]
  rcases hf with rfl | rfl <;> decide
theorem ph_down (p : Ph) : (V.str p.s = V.str "down") ↔ p = .down := by
  constructor
  · intro h
    have h := V.str.inj h
    revert h
    cases p <;> decide
  · rintro rfl
    rfl
theorem ph_on (p : Ph) : (V.str p.s = V.str "on") ↔ p = .on := by
  constructor
  · intro h
    have h := V.str.inj h
    revert h
    cases p <;> decide
  · rintro rfl
    rfl
theorem ph_turning (p : Ph) : (V.str p.s = V.str "turning") ↔ p = .turning := by
  constructor
  · intro h
    have h := V.str.inj h
    revert h
    cases p <;> decide
  · rintro rfl
    rfl
theorem ph_told (p : Ph) : (V.str p.s = V.str "told") ↔ p = .told := by
  constructor
  · intro h
    have h := V.str.inj h
    revert h
    cases p <;> decide
  · rintro rfl
    rfl
open Classical in
theorem run_succ {D : TreeD} {f : Nat} {op : Op} {h h' : HS} (e : run D (f + 1) op h = some h') : h.okB D := by
  unfold run at e
  by_cases c : h.okB D
  · exact c
  · rw [if_pos c] at e
    cases e
section
variable {P : Program} {w : World} {K : PySem.W.Frag} {mg : Str → Option Value} {base : Heap} {C : Cs}
def spTell (C : Cs) (f : Nat) : Sp := fun vs H Q _ => ∃ (A : TA) (a : HA) (D : TreeD) (s : HS) (i : Nat) (s' : HS), vs = [.ref a.h, .int (i : Int)] ∧ HR C A a D s H ∧ D.WF ∧ i < D.n ∧ run D f (.tell i) s = some s' ∧ ∀ a' H', HR C A a' D s' H' → Fr (i + 1) a H a' H' → Q .non H'
def spDown (C : Cs) (f : Nat) : Sp := fun vs H Q _ => ∃ (A : TA) (a : HA) (D : TreeD) (s : HS) (i : Nat) (g : Bool) (s' : HS), vs = [.ref a.h, .int (i : Int), .bl g] ∧ HR C A a D s H ∧ D.WF ∧ i < D.n ∧ run D f (.goDown i g) s = some s' ∧ ∀ a' H', HR C A a' D s' H' → Fr (i + 1) a H a' H' → Q .non H'
def spOn (C : Cs) (f : Nat) : Sp := fun vs H Q _ => ∃ (A : TA) (a : HA) (D : TreeD) (s : HS) (i : Nat) (s' : HS), vs = [.ref a.h, .int (i : Int)] ∧ HR C A a D s H ∧ D.WF ∧ i < D.n ∧ run D f (.goOn i) s = some s' ∧ ∀ a' H', HR C A a' D s' H' → Fr (i + 1) a H a' H' → Q .non H'
def spUp (C : Cs) (f : Nat) : Sp := fun vs H Q _ => ∃ (A : TA) (a : HA) (D : TreeD) (s : HS) (i : Nat) (s' : HS), vs = [.ref a.h, .int (i : Int)] ∧ HR C A a D s H ∧ D.WF ∧ i < D.n ∧ run D f (.comeUp i) s = some s' ∧ ∀ a' H', HR C A a' D s' H' → Fr (i + 1) a H a' H' → Q .non H'
def spDecide (C : Cs) (f : Nat) : Sp := fun vs H Q _ => ∃ (A : TA) (a : HA) (D : TreeD) (s : HS) (e i : Nat) (s' : HS), vs = [.ref a.h, .int (e : Int), .int (i : Int)] ∧ HR C A a D s H ∧ D.WF ∧ i < D.n ∧ D.e i = (e : Int) ∧ run D f (.decide e i) s = some s' ∧ ∀ a' H', HR C A a' D s' H' → Fr (e + 1) a H a' H' → Q .non H'
theorem ok_tell {f : Addr} {fd : FuncData} (F : Fun K "tell" "House.tell" s_House_tell f fd) (kh : KH K C) (kd : KdH P w K mg base C.cls) (MN : Mth P w K mg base CX0 C.H "note" 2 ["self", "word", "at"] [] (spNote C)) (ME : Mth P w K mg base CX0 C.H "ease" 4 ["self", "at"] [] (spEase C))
    (fu : Nat) (MG : Mth P w K mg base CX0 C.H "go_down" (13 + fu) ["self", "at", "gave"] [] (spDown C fu)) : FnOk P w K mg base CX0 (13 + fu + 1) f fd ["self", "at"] (spTell C (fu + 1)) := by
  refine F.ok sc_House_tell (fun vs H Q E h => ?_) (fun cdv A outer s H vs Q E hr h => ?_)
  · obtain ⟨A, a, D, s, i, s', rfl, _⟩ := h
    rfl
  obtain ⟨A, a, D, s, i, s', rfl, R, W, hi, hrun, q⟩ := h
  have cH := kh.cH
  have cT := kh.cT
  obtain ⟨hh, ht⟩ := R.facts rfl
  obtain ⟨p, dx, hp, hp', hs⟩ := R.shAt hi
  have okb := run_succ hrun
  have b1 : s.book.length < 10000000 := okb.bk
  have b2 : s.heard.length < 10000000 := okb.hd
  unfold run at hrun
  rw [if_neg (fun z => z okb)] at hrun
  dsimp only at hrun
  have kl := sh_lt W hi
  have cS := kh.kc.cf _ kl
  refine ⟨_, (pss_cons (ps_set (i := 2) sc_House_tell.nd rfl (Or.inl rfl) (pe_ix (kIxL (K := K) rfl) (kFld (K := K) rfl (pv 0)) (pv 1) (fun _ _ => rfl)))
    (pss_cons (ps_set (i := 3) sc_House_tell.nd rfl (Or.inl rfl) (pe_ix (kIxL (K := K) rfl) (kFld (K := K) rfl (kFld (K := K) rfl (pv 0))) (pv 1) (fun _ _ => rfl)))
    (pss_cons (kSFld (K := K) rfl (pv 2) pe_bl)
    (pss_cons (ps_expr (pe_ma (P := P) (w := w) (K := K) (mg := mg) (base := base) ⟨rfl, rfl, rfl, rfl, rfl⟩ hr (pv 0) (pa_cons pe_str (pa_cons (pv 1) pa_nil))))
    (pss_cons (ps_if (pt_not (pt_val (pe_ma0 (P := P) (w := w) (K := K) (mg := mg) (base := base) ⟨rfl, rfl, rfl, rfl, rfl⟩ hr (pv 3)))) (C8.pss_cut (ps_if (pt_cmpR op_ne (kFld (K := K) rfl (pv 2)) pe_str (nomark _)) (pss_one (ps_expr (pe_ma (P := P) (w := w) (K := K) (mg := mg) (base := base) ⟨rfl, rfl, rfl, rfl, rfl⟩ hr (pv 0) (pa_cons (pv 1) (pa_cons pe_bl pa_nil))))) pss_nil)
    (pss_one ps_retN)) pss_nil)
    (pss_cons (kSFld (K := K) rfl (pv 2) pe_str)
    (pss_cons (kSFld (K := K) rfl (pv 2) (kFld (K := K) rfl (pv 3)))
    (pss_cons (kSFld (K := K) rfl (pv 2) (kFld (K := K) rfl (pv 3)))
    (pss_one (ps_expr (pe_ma (P := P) (w := w) (K := K) (mg := mg) (base := base) ⟨rfl, rfl, rfl, rfl, rfl⟩ hr (pv 0) (pa_cons (pv 1) pa_nil)))))))))))), ?_⟩
  walk_at "rd"
  refine w_ixL (SqL.of R.hpl) (at_nat (i := i) rfl (R.poAt hi)) ?_
  walk_at "rd"
  refine w_ixL (v := .ref p) (SqL.of R.tr.hsh) (at_nat (i := i) rfl hp') ?_
  walk_at "rd"
  refine w_postP kh R hi { s.posts i with planned := true } rfl rfl rfl rfl (by decide) fun H1 R1 F1 => ?_
  walk_at "rd"
  refine w_ma1 R1.hh cH.cl rfl MN (by show 2 ≤ 13 + fu; omega) ?_
  walk_at "rd"
  refine ⟨A, a, D, _, i, .told, rfl, R1, W, hi, by show s.book.length < _; omega, fun a2 H2 R2 F2 => ?_⟩
  have F2 := F1.trans F2
  have e2 := F2.h
  have p2 := F2.p i hi
  obtain ⟨hh2, ht2⟩ := R2.facts e2
  obtain ⟨p', dx2, hpp, hp2', hs2⟩ := R2.shAt hi
  obtain rfl : p = p' := Option.some.inj (hp.symm.trans hpp)
  have bk2 : ((s.put i { s.posts i with planned := true }).note .told i).book.length = s.book.length + 1 := by
    show (s.book ++ [_]).length = _
    rw [List.length_append]
    rfl
  have hd2 : ((s.put i { s.posts i with planned := true }).note .told i).heard.length = s.heard.length := rfl
  generalize (s.put i { s.posts i with planned := true }).note .told i = s2 at *
  walk_at "rd"
  refine w_ma1 hs2 cS.cl (fld_no (.inl rfl)) (kd.leaf _ kl) (by show 1 ≤ 13 + fu; omega) ?_
  walk_at "rd"
  refine ⟨p, dx2, _, rfl, hs2, ?_⟩
  walk_at "rd"
  walk_at "if"
  · rename_i kk
    rw [if_neg kk] at hrun
    walk_at "rd"
    refine w_cut (fun σ H' => ∃ a', HR C A a' D s' H' ∧ Fr (i + 1) a H a' H') ?_ (fun σ H' hm => ?_)
    · walk_at "rd"
      refine w_postR kh R2 hi p2 rfl (by decide) ?_
      walk_at "rd"
      walk_at "if"
      all_goals rename_i pc
      · have pc : (s2.posts i).phase ≠ .down := fun e => pc (by rw [e]; rfl)
        rw [if_pos pc] at hrun
        walk_at "rd"
        refine w_ma1 hh2 cH.cl rfl MG (by show 13 + fu ≤ 13 + fu; omega) ?_
        walk_at "rd"
        refine ⟨A, a2, D, s2, i, false, s', by rw [e2]; rfl, R2, W, hi, hrun, fun a3 H3 R3 F3 => ?_⟩
        walk_at "rd"
        exact ⟨a3, R3, (F2.low hi).trans F3⟩
      · have pc : (s2.posts i).phase = .down := (ph_down _).mp pc
        rw [if_neg (fun z => z pc)] at hrun
        obtain rfl := Option.some.inj hrun
        walk_at "rd"
        exact ⟨a2, R2, F2.low hi⟩
    · obtain ⟨a', R', F'⟩ := hm
      walk_at "rd"
      exact q a' H' R' F'
  · rename_i kk
    rw [if_pos kk] at hrun
    obtain rfl := Option.some.inj hrun
    walk_at "rd"
    refine w_postP kh R2 hi { s2.posts i with phase := .told } p2 rfl rfl rfl (by decide) fun H3 R3 F3 => ?_
    obtain ⟨p', dx3, hpp, hp3', hs3⟩ := R3.shAt hi
    obtain rfl : p = p' := Option.some.inj (hp.symm.trans hpp)
    walk_at "rd"
    refine w_fld1 hs3 cS.cl (cS.no _ (attr_leaf kk (.inl rfl))) (fld_slow kk) ?_
    walk_at "rd"
    refine w_postQ kh R3 hi { s2.posts i with phase := .told, slow := (D.sh i).b } p2 rfl rfl rfl (by decide) fun H4 R4 F4 => ?_
    obtain ⟨p', dx4, hpp, hp4', hs4⟩ := R4.shAt hi
    obtain rfl : p = p' := Option.some.inj (hp.symm.trans hpp)
    walk_at "rd"
    refine w_fld1 hs4 cS.cl (cS.no _ (attr_leaf kk (.inr rfl))) (fld_grace kk) ?_
    walk_at "rd"
    refine w_postQ kh R4 hi { s2.posts i with phase := .told, slow := (D.sh i).b, grace := (D.sh i).a } p2 rfl rfl rfl (by decide) fun H5 R5 F5 => ?_
    have F5 := F2.trans (F3.trans (F4.trans F5))
    obtain ⟨hh5, ht5⟩ := R5.facts e2
    walk_at "rd"
    refine w_ma1 hh5 cH.cl rfl ME (by show 4 ≤ 13 + fu; omega) ?_
    walk_at "rd"
    refine ⟨A, a2, D, _, i, by rw [e2]; rfl, R5, W, hi, by show s2.book.length < _; omega, by show s2.heard.length < _; omega, fun a6 H6 R6 F6 => ?_⟩
    walk_at "rd"
    exact q a6 H6 R6 ((F5.trans F6).low hi)
end
end Mn

namespace Mn
open PySem PySem.Spec PyProof.Rows L2 TL
theorem w_postW {K : PySem.W.Frag} {C : Cs} {A : TA} {a : HA} {D : TreeD} {s : HS} {H0 H : Hp} {i : Nat} {p0 : Post} (kh : KH K C) (R : HR C A a D (s.put i p0) H0) (hi : i < D.n) (p : Post) {x g : Addr} (hx : a.po i = x) (e : Same H0 H) (fr : H0 g = none) (hg : H g = some (.lst (p.waiting.map fun j : Nat => V.int j))) (hf : p.falls = p0.falls) (hput : putF "waiting" (.ref g) (postF (a.fa i) (a.wa i) p0) = postF (a.fa i) g p) {Rq : Hp → Prop}
    (q : ∀ H', HR C A (a.waA i g) D (s.put i p) H' → Fr D.n a H0 (a.waA i g) H' → (∀ b u, b ≠ x → H b = some u → H' b = some u) → Rq H') : ∃ a' C dx fs, V.ref x = .ref a' ∧ H a' = some (.ins C dx fs) ∧ Cls K C ∧ NoAttr K C "waiting" ∧ fs.length < 1000 ∧ Rq (upd H a' (.ins C dx (putF "waiting" (.ref g) fs))) := by
  subst hx
  have R1 := R.same e
  refine ⟨_, _, _, _, rfl, R1.hpo i hi, kh.cP.cl, kh.cP.no _ (by decide), ltb rfl, ?_⟩
  rw [put_same, hput]
  have R2 := R1.waR hi (p := p) hg (R.free g fr) (by rw [put_same]; exact hf)
  rw [put_put] at R2
  exact q _ R2 (Fr.waits R1 hi e fr) fun b u hb hu => by rw [upd_ne hb]; exact hu
section
variable {P : Program} {w : World} {K : PySem.W.Frag} {mg : Str → Option Value} {base : Heap} {C : Cs}
theorem ok_down {f : Addr} {fd : FuncData} (F : Fun K "go_down" "House.go_down" s_House_go_down f fd) (kh : KH K C) (MO : Mth P w K mg base CX0 C.H "on_of" 2 ["self", "at"] [] (spOnOf C))
    (fu : Nat) (MG : Mth P w K mg base CX0 C.H "go_on" (13 + fu) ["self", "at"] [] (spOn C fu)) : FnOk P w K mg base CX0 (13 + fu + 1) f fd ["self", "at", "gave"] (spDown C (fu + 1)) := by
  refine F.ok sc_House_go_down (fun vs H Q E h => ?_) (fun cdv A outer s H vs Q E hr h => ?_)
  · obtain ⟨A, a, D, s, i, g, s', rfl, _⟩ := h
    rfl
  obtain ⟨A, a, D, s, i, g, s', rfl, R, W, hi, hrun, q⟩ := h
  have cH := kh.cH
  have okb := run_succ hrun
  unfold run at hrun
  rw [if_neg (fun z => z okb)] at hrun
  dsimp only at hrun
  obtain ⟨hh, ht⟩ := R.facts rfl
  refine ⟨_, (pss_cons (ps_set (i := 3) sc_House_go_down.nd rfl (Or.inl rfl) (pe_ix (kIxL (K := K) rfl) (kFld (K := K) rfl (pv 0)) (pv 1) (fun _ _ => rfl)))
    (pss_cons (kSFld (K := K) rfl (pv 3) pe_str)
    (pss_cons (kSFld (K := K) rfl (pv 3) (pv 2))
    (pss_cons (kSFld (K := K) rfl (pv 3) pe_int)
    (pss_cons (kSFld (K := K) rfl (pv 3) (pe_lst pa_nil))
    (pss_cons (kSFld (K := K) rfl (pv 3) (pe_ma (P := P) (w := w) (K := K) (mg := mg) (base := base) ⟨rfl, rfl, rfl, rfl, rfl⟩ hr (pv 0) (pa_cons (pv 1) pa_nil)))
    (pss_one (ps_expr (pe_ma (P := P) (w := w) (K := K) (mg := mg) (base := base) ⟨rfl, rfl, rfl, rfl, rfl⟩ hr (pv 0) (pa_cons (pv 1) pa_nil)))))))))), ?_⟩
  walk_at "rd"
  refine w_ixL (SqL.of R.hpl) (at_nat (i := i) rfl (R.poAt hi)) ?_
  walk_at "rd"
  refine w_postP kh R hi { s.posts i with phase := .down } rfl rfl rfl rfl (by decide) fun H1 R1 F1 => ?_
  walk_at "rd"
  refine w_postQ kh R1 hi { s.posts i with phase := .down, gave := g } rfl rfl rfl rfl (by decide) fun H2 R2 F2 => ?_
  walk_at "rd"
  refine w_postQ kh R2 hi { s.posts i with phase := .down, gave := g, anew := 0 } rfl rfl rfl rfl (by decide) fun H3 R3 F3 => ?_
  walk_at "rd"
  refine ⟨Nat.zero_le _, fun y hy => ?_⟩
  walk_at "rd"
  refine w_postW kh R3 hi { s.posts i with phase := .down, gave := g, anew := 0, waiting := [] } rfl (same_new hy _) hy upd_same rfl rfl fun H4 R4 F4 _ => ?_
  have F4 := F1.trans (F2.trans (F3.trans F4))
  obtain ⟨hh4, ht4⟩ := R4.facts F4.h
  have p4 := F4.p i hi
  generalize a.waA i y = a4 at R4 F4 p4 hh4
  walk_at "rd"
  refine w_ma1 hh4 cH.cl rfl MO (by show 2 ≤ 13 + fu; omega) ?_
  walk_at "rd"
  refine ⟨A, a4, D, _, i, by rw [F4.h]; rfl, R4, W, hi, ?_⟩
  walk_at "rd"
  refine w_postP kh R4 hi { (s.put i { s.posts i with phase := .down, gave := g, anew := 0, waiting := [] }).posts i with put := (s.put i { s.posts i with phase := .down, gave := g, anew := 0, waiting := [] }).onOf D i } p4 rfl rfl rfl (by decide) fun H5 R5 F5 => ?_
  have F5 := F4.trans F5
  obtain ⟨hh5, ht5⟩ := R5.facts F5.h
  walk_at "rd"
  refine w_ma1 hh5 cH.cl rfl MG (by show 13 + fu ≤ 13 + fu; omega) ?_
  walk_at "rd"
  refine ⟨A, a4, D, _, i, s', by rw [F5.h]; rfl, R5, W, hi, hrun, fun a6 H6 R6 F6 => ?_⟩
  walk_at "rd"
  exact q a6 H6 R6 ((F5.low hi).trans F6)
theorem ok_go_on {f : Addr} {fd : FuncData} (F : Fun K "go_on" "House.go_on" s_House_go_on f fd) (kh : KH K C) (CL : Cal P w K mg base CX0 "last" 1 ["bits"] [] spLast) (CW : Cal P w K mg base CX0 "without" 1 ["bits", "place"] [] spWithout) (MO : Mth P w K mg base CX0 C.H "over" 3 ["self", "at", "word"] [] (spOver C))
    (fu : Nat) (MT : Mth P w K mg base CX0 C.H "tell" (13 + fu) ["self", "at"] [] (spTell C fu)) (MU : Mth P w K mg base CX0 C.H "come_up" (13 + fu) ["self", "at"] [] (spUp C fu)) : FnOk P w K mg base CX0 (13 + fu + 1) f fd ["self", "at"] (spOn C (fu + 1)) := by
  refine F.ok sc_House_go_on (fun vs H Q E h => ?_) (fun cdv A outer s H vs Q E hr h => ?_)
  · obtain ⟨A, a, D, s, i, s', rfl, _⟩ := h
    rfl
  obtain ⟨A, a, D, s, i, s', rfl, R, W, hi, hrun, q⟩ := h
  have cH := kh.cH
  have cT := kh.cT
  have okb := run_succ hrun
  unfold run at hrun
  rw [if_neg (fun z => z okb)] at hrun
  try dsimp only at hrun
  obtain ⟨hh, ht⟩ := R.facts rfl
  cases hG : goLoop D (fun c h => run D fu (.tell c) h) i 65 s with
  | none => rw [hG] at hrun; cases hrun
  | some r =>
  obtain ⟨h1, b⟩ := r
  rw [hG] at hrun
  try dsimp only at hrun
  refine ⟨_, (pss_cons (ps_set (i := 2) sc_House_go_on.nd rfl (Or.inl rfl) (pe_ix (kIxL (K := K) rfl) (kFld (K := K) rfl (pv 0)) (pv 1) (fun _ _ => rfl)))
    (pss_cons (ps_while PassesOwn.never (pt_cmpR op_gt (kFld (K := K) rfl (pv 2)) pe_int (nomark _)) (pss_cons (ps_set (i := 3) sc_House_go_on.nd rfl (Or.inl rfl) (pe_ca (P := P) (w := w) (K := K) (mg := mg) (base := base) ⟨rfl, rfl, rfl, rfl, rfl⟩ hr rfl (pa_cons (kFld (K := K) rfl (pv 2)) pa_nil)))
    (pss_cons (ps_set (i := 4) sc_House_go_on.nd rfl (Or.inl rfl) (pe_ix (kIxL (K := K) rfl) (pe_ix (kIxL (K := K) rfl) (kFld (K := K) rfl (kFld (K := K) rfl (pv 0))) (pv 1) (fun _ _ => rfl)) (pv 3) (fun _ _ => rfl)))
    (C8.pss_cut (ps_if (PW.pt (pw_and (pt_cmpR op_ne (kFld (K := K) rfl (pe_ix (kIxL (K := K) rfl) (kFld (K := K) rfl (pv 0)) (pv 4) (fun _ _ => rfl))) pe_str (nomark _)) (pw_and1 (pt_not (pt_val (kFld (K := K) rfl (pe_ix (kIxL (K := K) rfl) (kFld (K := K) rfl (pv 0)) (pv 4) (fun _ _ => rfl)))))))) (pss_one (ps_expr (pe_ma (P := P) (w := w) (K := K) (mg := mg) (base := base) ⟨rfl, rfl, rfl, rfl, rfl⟩ hr (pv 0) (pa_cons (pv 4) pa_nil)))) pss_nil)
    (pss_cons (ps_if (pt_cmpR op_ne (kFld (K := K) rfl (pe_ix (kIxL (K := K) rfl) (kFld (K := K) rfl (pv 0)) (pv 4) (fun _ _ => rfl))) pe_str (nomark _)) (pss_one ps_retN) pss_nil)
    (pss_one (kSFld (K := K) rfl (pv 2) (pe_ca (P := P) (w := w) (K := K) (mg := mg) (base := base) ⟨rfl, rfl, rfl, rfl, rfl⟩ hr rfl (pa_cons (kFld (K := K) rfl (pv 2)) (pa_cons (pv 3) pa_nil))))))))))
    (pss_cons (ps_if (pt_cmpR op_eq (kFld (K := K) rfl (pv 2)) pe_str (nomark _)) (C8.pss_cut (ps_if (pt_val (kFld (K := K) rfl (pv 2))) (pss_one (ps_expr (pe_ma (P := P) (w := w) (K := K) (mg := mg) (base := base) ⟨rfl, rfl, rfl, rfl, rfl⟩ hr (pv 0) (pa_cons (pv 1) (pa_cons pe_str pa_nil))))) (pss_one (ps_expr (pe_ma (P := P) (w := w) (K := K) (mg := mg) (base := base) ⟨rfl, rfl, rfl, rfl, rfl⟩ hr (pv 0) (pa_cons (pv 1) (pa_cons pe_str pa_nil))))))
    (pss_one ps_retN)) pss_nil)
    (pss_one (ps_expr (pe_ma (P := P) (w := w) (K := K) (mg := mg) (base := base) ⟨rfl, rfl, rfl, rfl, rfl⟩ hr (pv 0) (pa_cons (pv 1) pa_nil))))))), ?_⟩
  walk_at "rd"
  refine w_ixL (SqL.of R.hpl) (at_nat (i := i) rfl (R.poAt hi)) ?_
  walk_at "rd"
  refine ⟨fun m σ H' => ∃ (h : HS) (a' : HA) (y z : Option V), σ = [some (.ref a.h), some (.int (i : Int)), some (.ref (a.po i)), y, z] ∧ HR C A a' D h H' ∧ Fr (i + 1) a H a' H' ∧ goLoop D (fun c h => run D fu (.tell c) h) i m h = some (h1, b), ⟨65, s, a, none, none, rfl, R, Fr.refl, hG⟩, fun m σ H' hm => ?_⟩
  obtain ⟨h, a', y, z, rfl, R', F', hg⟩ := hm
  obtain ⟨hh', ht'⟩ := R'.facts F'.h
  have p' := F'.p i (Nat.lt_succ_self i)
  walk_at "rd"
  refine w_postR kh R' hi p' rfl (by decide) ?_
  walk_at "rd"
  cases m with
  | zero => unfold goLoop at hg; cases hg
  | succ m =>
  have okh : h.okB D := by
    unfold goLoop at hg
    by_cases c : h.okB D
    · exact c
    · rw [if_pos c] at hg
      cases hg
  unfold goLoop at hg
  rw [if_neg (fun z => z okh)] at hg
  walk_at "if"
  · rename_i c
    have c0 : (h.posts i).put ≠ 0 := by omega
    rw [if_neg c0] at hg
    dsimp only at hg
    have hl : (h.posts i).put.log2 < (D.yng i).length := (Nat.log2_lt c0).mpr (okh.po i hi).1
    have hc : (D.yng i)[(h.posts i).put.log2]? = some ((D.yng i).getD (h.posts i).put.log2 0) := by
      rw [List.getD_eq_getElem?_getD, List.getElem?_eq_getElem hl]
      rfl
    have yl := yng_le W i
    have hsz := W.sz
    generalize (D.yng i).getD (h.posts i).put.log2 0 = k at hg hc
    have yk := yng_gt W (List.mem_of_getElem? hc)
    have hj : i < A.ys.length := by rw [R'.tr.lys]; exact hi
    have hz : A.ys[i]? = some A.ys[i] := List.getElem?_eq_getElem hj
    generalize A.ys[i] = zz at hz
    have h1z := R'.tr.hys i zz hz
    refine ⟨fun σ H' => ∃ m', m' < m + 1 ∧ ∃ (h : HS) (a' : HA) (y z : Option V), σ = [some (.ref a.h), some (.int (i : Int)), some (.ref (a.po i)), y, z] ∧ HR C A a' D h H' ∧ Fr (i + 1) a H a' H' ∧ goLoop D (fun c h => run D fu (.tell c) h) i m' h = some (h1, b), fun _ _ h => h, ?_⟩
    walk_at "rd"
    refine w_ca CL (by show 1 ≤ 13 + fu; omega) ?_
    walk_at "rd"
    refine w_postR kh R' hi p' rfl (by decide) ?_
    walk_at "rd"
    refine ⟨_, rfl, c0, ?_⟩
    walk_at "rd"
    refine w_ixL (v := .ref zz) (SqL.of R'.tr.hyg) (at_nat (i := i) rfl (by rw [List.getElem?_map, hz]; rfl)) ?_
    walk_at "rd"
    refine w_ixL (v := .int (k : Int)) (SqL.of h1z) (at_nat (i := (h.posts i).put.log2) rfl (by rw [List.getElem?_map, show yngOf D.eld i = D.yng i from rfl, hc]; rfl)) ?_
    walk_at "rd"
    refine w_cut (fun σ H2 => σ = [some (.ref a.h), some (.int (i : Int)), some (.ref (a.po i)), some (.int ((h.posts i).put.log2 : Int)), some (.int (k : Int))] ∧ ∃ (h2 : HS) (a2 : HA), HR C A a2 D h2 H2 ∧ Fr (i + 1) a H a2 H2 ∧ (if (h.posts k).phase ≠ .off ∧ (h.posts k).planned = false then run D fu (.tell k) h else some h) = some h2) ?_ (fun σ H2 hm => ?_)
    · walk_at "rd"
      refine w_ixL (SqL.of R'.hpl) (at_nat (i := k) rfl (R'.poAt yk.2.1)) ?_
      refine w_postR kh R' yk.2.1 rfl rfl (by decide) ?_
      walk_at "rd"
      walk_at "if"
      all_goals rename_i c1
      · have c1 : (h.posts k).phase ≠ .off := fun e => c1 ((ph_off _).mpr e)
        walk_at "rd"
        refine w_ixL (SqL.of R'.hpl) (at_nat (i := k) rfl (R'.poAt yk.2.1)) ?_
        refine w_postR kh R' yk.2.1 rfl rfl (by decide) ?_
        walk_at "rd"
        walk_at "if"
        all_goals rename_i c2
        · have c2 : (h.posts k).planned = false := by
            revert c2
            cases (h.posts k).planned <;> decide
          walk_at "rd"
          refine w_ma1 hh' cH.cl rfl MT (by show 13 + fu ≤ 13 + fu; omega) ?_
          walk_at "rd"
          rw [if_pos ⟨c1, c2⟩] at hg ⊢
          cases hT : run D fu (.tell k) h with
          | none => rw [hT] at hg; cases hg
          | some h2 =>
          refine ⟨A, a', D, h, k, h2, by rw [F'.h]; rfl, R', W, yk.2.1, hT, fun a2 H2 R2 F2 => ?_⟩
          walk_at "rd"
          exact ⟨rfl, h2, a2, R2, F'.trans (F2.low (by omega)), rfl⟩
        · have c2 : (h.posts k).planned = true := by
            revert c2
            cases (h.posts k).planned <;> decide
          walk_at "rd"
          exact ⟨rfl, h, a', R', F', if_neg (fun z => by rw [z.2] at c2; cases c2)⟩
      · have c1 : (h.posts k).phase = .off := (ph_off _).mp c1
        walk_at "rd"
        exact ⟨rfl, h, a', R', F', if_neg (fun z => z.1 c1)⟩
    · obtain ⟨rfl, h2, a2, R2, F2, e2⟩ := hm
      rw [e2] at hg
      dsimp only at hg
      obtain ⟨hh2, ht2⟩ := R2.facts F2.h
      have p2 := F2.p i (Nat.lt_succ_self i)
      walk_at "rd"
      refine w_ixL (SqL.of R2.hpl) (at_nat (i := k) rfl (R2.poAt yk.2.1)) ?_
      refine w_postR kh R2 yk.2.1 rfl rfl (by decide) ?_
      walk_at "rd"
      walk_at "if"
      all_goals rename_i c1
      · have c1 : (h2.posts k).phase ≠ .off := fun e => c1 ((ph_off _).mpr e)
        rw [if_pos c1] at hg
        obtain ⟨rfl, rfl⟩ := Prod.mk.inj (Option.some.inj hg)
        obtain rfl := Option.some.inj hrun
        walk_at "rd"
        exact q a2 H2 R2 F2
      · have c1 : (h2.posts k).phase = .off := (ph_off _).mp c1
        rw [if_neg (fun z => z c1)] at hg
        walk_at "rd"
        refine w_ca CW (by show 1 ≤ 13 + fu; omega) ?_
        walk_at "rd"
        refine w_postR kh R2 hi p2 rfl (by decide) ?_
        walk_at "rd"
        refine ⟨_, _, rfl, by omega, ?_⟩
        walk_at "rd"
        refine w_postP kh R2 hi { h2.posts i with put := andNot (h2.posts i).put (2 ^ (h.posts i).put.log2) } p2 rfl rfl rfl (by decide) fun H3 R3 F3 => ?_
        exact ⟨m, Nat.lt_succ_self m, _, a2, _, _, rfl, R3, F2.trans (F3.low hi), hg⟩
  · rename_i c
    have c0 : (h.posts i).put = 0 := by omega
    rw [if_pos c0] at hg
    obtain ⟨rfl, rfl⟩ := Prod.mk.inj (Option.some.inj hg)
    dsimp only at hrun
    have b1 : h.book.length < 10000000 := okh.bk
    have b2 : h.heard.length < 10000000 := okh.hd
    walk_at "rd"
    refine w_postR kh R' hi p' rfl (by decide) ?_
    walk_at "rd"
    walk_at "if"
    all_goals rename_i pc
    · have pc : (h.posts i).phase = .down := (ph_down _).mp pc
      rw [if_pos pc] at hrun
      obtain rfl := Option.some.inj hrun
      walk_at "rd"
      refine w_cut (fun σ H' => ∃ a', HR C A a' D (h.over D i (if (h.posts i).gave then .gaveup else .ended)) H' ∧ Fr (i + 1) a H a' H') ?_ (fun σ H' hm => ?_)
      · walk_at "rd"
        refine w_postR kh R' hi p' rfl (by decide) ?_
        walk_at "rd"
        walk_at "if"
        all_goals rename_i gc
        · rw [if_pos gc]
          walk_at "rd"
          refine w_ma1 hh' cH.cl rfl MO (by show 3 ≤ 13 + fu; omega) ?_
          walk_at "rd"
          refine ⟨A, a', D, h, i, .gaveup, by rw [F'.h]; rfl, R', W, hi, by omega, by omega, fun a3 H3 R3 F3 => ?_⟩
          walk_at "rd"
          exact ⟨a3, R3, F'.trans (F3.low hi)⟩
        · rw [if_neg (by rw [gc]; decide)]
          walk_at "rd"
          refine w_ma1 hh' cH.cl rfl MO (by show 3 ≤ 13 + fu; omega) ?_
          walk_at "rd"
          refine ⟨A, a', D, h, i, .ended, by rw [F'.h]; rfl, R', W, hi, by omega, by omega, fun a3 H3 R3 F3 => ?_⟩
          walk_at "rd"
          exact ⟨a3, R3, F'.trans (F3.low hi)⟩
      · obtain ⟨a3, R3, F3⟩ := hm
        walk_at "rd"
        exact q a3 H' R3 F3
    · have pc : (h.posts i).phase ≠ .down := fun e => pc ((ph_down _).mpr e)
      rw [if_neg pc] at hrun
      walk_at "rd"
      refine w_ma1 hh' cH.cl rfl MU (by show 13 + fu ≤ 13 + fu; omega) ?_
      walk_at "rd"
      refine ⟨A, a', D, h, i, s', by rw [F'.h]; rfl, R', W, hi, hrun, fun a3 H3 R3 F3 => ?_⟩
      walk_at "rd"
      exact q a3 H3 R3 (F'.trans F3)
end
end Mn

namespace Mn
open PySem PySem.Spec PyProof.Rows L2 TL
theorem w_postFa {K : PySem.W.Frag} {C : Cs} {A : TA} {a : HA} {D : TreeD} {s : HS} {H0 H : Hp} {i : Nat} (kh : KH K C) (R : HR C A a D s H0) (hi : i < D.n) (p : Post) {x g : Addr} (hx : a.po i = x) (e : Same H0 H) (fr : H0 g = none) (hg : H g = some (.lst (p.falls.map V.int))) (hf : p.waiting = (s.posts i).waiting) (hput : putF "falls" (.ref g) (postF (a.fa i) (a.wa i) (s.posts i)) = postF g (a.wa i) p) {Rq : Hp → Prop}
    (q : ∀ H', HR C A (a.faA i g) D (s.put i p) H' → Fr D.n a H0 (a.faA i g) H' → Rq H') : ∃ a' C dx fs, V.ref x = .ref a' ∧ H a' = some (.ins C dx fs) ∧ Cls K C ∧ NoAttr K C "falls" ∧ fs.length < 1000 ∧ Rq (upd H a' (.ins C dx (putF "falls" (.ref g) fs))) := by
  subst hx
  have R1 := R.same e
  refine ⟨_, _, _, _, rfl, R1.hpo i hi, kh.cP.cl, kh.cP.no _ (by decide), ltb rfl, ?_⟩
  rw [hput]
  exact q _ (R1.faR hi (p := p) hg (R.free g fr) hf) (Fr.falls R1 hi e fr)
theorem bit_pos (g k : Nat) : decide ((0 : Int) < ((g &&& 2 ^ k : Nat) : Int)) = g.testBit k := by
  cases h : g.testBit k with
  | false =>
    have : g &&& 2 ^ k = 0 := Nat.eq_of_testBit_eq fun j => by
      rw [Nat.testBit_and, Nat.zero_testBit, Nat.testBit_two_pow]
      by_cases e : k = j
      · rw [← e, h, Bool.false_and]
      · rw [decide_eq_false e, Bool.and_false]
    rw [this]
    decide
  | true =>
    refine decide_eq_true ?_
    have : (g &&& 2 ^ k).testBit k = true := by
      rw [Nat.testBit_and, h, Nat.testBit_two_pow, decide_eq_true rfl]
      rfl
    rcases Nat.eq_zero_or_pos (g &&& 2 ^ k) with z | z
    · rw [z, Nat.zero_testBit] at this
      cases this
    · omega
section
variable {P : Program} {w : World} {K : PySem.W.Frag} {mg : Str → Option Value} {base : Heap} {C : Cs}
theorem ok_decide {f : Addr} {fd : FuncData} (F : Fun K "decide" "House.decide" s_House_decide f fd) (T : Bt mg) (kh : KH K C) (kd : KdH P w K mg base C.cls) (MP : Mth P w K mg base CX0 C.T "place" 1 ["self", "at"] [] (spPlace C)) (CB : Cal P w K mg base CX0 "bit" 1 ["place"] [] spBit)
    (CM : Cal P w K mg base CX0 "too_many" 2 ["falls", "clock", "span", "most"] [] (spToo K)) (CR : Cal P w K mg base CX0 "recent" 1 ["falls", "clock", "span"] [] (spRec K)) (MN : Mth P w K mg base CX0 C.H "note" 2 ["self", "word", "at"] [] (spNote C)) (MO : Mth P w K mg base CX0 C.H "on_of" 2 ["self", "at"] [] (spOnOf C))
    (fu : Nat) (MD : Mth P w K mg base CX0 C.H "go_down" (13 + fu) ["self", "at", "gave"] [] (spDown C fu)) (MG : Mth P w K mg base CX0 C.H "go_on" (13 + fu) ["self", "at"] [] (spOn C fu)) : FnOk P w K mg base CX0 (13 + fu + 1) f fd ["self", "elder", "at"] (spDecide C (fu + 1)) := by
  refine F.ok sc_House_decide (fun vs H Q E h => ?_) (fun cdv A outer s H vs Q E hr h => ?_)
  · obtain ⟨A, a, D, s, e, i, s', rfl, _⟩ := h
    rfl
  obtain ⟨A, a, D, s, e, i, s', rfl, R, W, hi, hei, hrun, q⟩ := h
  have cH := kh.cH
  have cT := kh.cT
  have okb := run_succ hrun
  have b1 : s.book.length < 10000000 := okb.bk
  have b2 : s.heard.length < 10000000 := okb.hd
  unfold run at hrun
  rw [if_neg (fun z => z okb)] at hrun
  try dsimp only at hrun
  have el := W.el i hi
  have he : e < D.n := by omega
  have hk : 3 ≤ (D.sh e).kind := by
    have := W.mi i hi (by omega)
    rw [hei, Int.toNat_natCast] at this
    exact this
  have kl := sh_lt W he
  have cS := kh.kc.cf _ kl
  have b3 : (s.posts e).falls.length < 10000000 := okb.fa e he
  obtain ⟨hh, ht⟩ := R.facts rfl
  obtain ⟨p, dx, hp, hp', hs⟩ := R.shAt he
  have pl := place_lt W hi (by omega)
  have yl := yng_le W (D.e i).toNat
  rw [hei, Int.toNat_natCast] at pl yl
  have hsz := W.sz
  refine ⟨_, (pss_cons (ps_set (i := 3) sc_House_decide.nd rfl (Or.inl rfl) (pe_ix (kIxL (K := K) rfl) (kFld (K := K) rfl (pv 0)) (pv 1) (fun _ _ => rfl)))
    (pss_cons (ps_set (i := 4) sc_House_decide.nd rfl (Or.inl rfl) (pe_ix (kIxL (K := K) rfl) (kFld (K := K) rfl (kFld (K := K) rfl (pv 0))) (pv 1) (fun _ _ => rfl)))
    (pss_cons (ps_set (i := 5) sc_House_decide.nd rfl (Or.inl rfl) (pe_ma (P := P) (w := w) (K := K) (mg := mg) (base := base) ⟨rfl, rfl, rfl, rfl, rfl⟩ hr (kFld (K := K) rfl (pv 0)) (pa_cons (pv 2) pa_nil)))
    (pss_cons (ps_if (pt_cmpR op_gt (pe_op op_and (kFld (K := K) rfl (pv 3)) (pe_ca (P := P) (w := w) (K := K) (mg := mg) (base := base) ⟨rfl, rfl, rfl, rfl, rfl⟩ hr rfl (pa_cons (pv 5) pa_nil))) pe_int (nomark _)) (pss_one ps_retN) pss_nil)
    (pss_cons (ps_if (pt_val (pe_ca (P := P) (w := w) (K := K) (mg := mg) (base := base) ⟨rfl, rfl, rfl, rfl, rfl⟩ hr rfl (pa_cons (kFld (K := K) rfl (pv 3)) (pa_cons (kFld (K := K) rfl (pv 0)) (pa_cons (kFld (K := K) rfl (pv 4)) (pa_cons (kFld (K := K) rfl (pv 4)) pa_nil)))))) (pss_cons (ps_expr (pe_ma (P := P) (w := w) (K := K) (mg := mg) (base := base) ⟨rfl, rfl, rfl, rfl, rfl⟩ hr (pv 0) (pa_cons pe_str (pa_cons (pv 1) pa_nil))))
    (pss_cons (ps_expr (pe_ma (P := P) (w := w) (K := K) (mg := mg) (base := base) ⟨rfl, rfl, rfl, rfl, rfl⟩ hr (pv 0) (pa_cons (pv 1) (pa_cons pe_bl pa_nil))))
    (pss_one ps_retN))) pss_nil)
    (pss_cons (kSFld (K := K) rfl (pv 3) (pe_op op_cat (pe_ca (P := P) (w := w) (K := K) (mg := mg) (base := base) ⟨rfl, rfl, rfl, rfl, rfl⟩ hr rfl (pa_cons (kFld (K := K) rfl (pv 3)) (pa_cons (kFld (K := K) rfl (pv 0)) (pa_cons (kFld (K := K) rfl (pv 4)) pa_nil)))) (pe_lst (pa_cons (kFld (K := K) rfl (pv 0)) pa_nil))))
    (pss_cons (ps_expr (pe_ma (P := P) (w := w) (K := K) (mg := mg) (base := base) ⟨rfl, rfl, rfl, rfl, rfl⟩ hr (pv 0) (pa_cons pe_str (pa_cons (pv 2) pa_nil))))
    (pss_cons (ps_set (i := 6) sc_House_decide.nd rfl (Or.inl rfl) (pe_callB (kLenL (K := K) rfl) (by rfl) T.len (by decide +kernel) (pa_cons (pe_ix (kIxL (K := K) rfl) (kFld (K := K) rfl (kFld (K := K) rfl (pv 0))) (pv 1) (fun _ _ => rfl)) pa_nil)))
    (pss_cons (ps_asg (pe_ma (P := P) (w := w) (K := K) (mg := mg) (base := base) ⟨rfl, rfl, rfl, rfl, rfl⟩ hr (pv 4) (pa_cons (pv 5) (pa_cons (pv 6) (pa_cons (pe_ma (P := P) (w := w) (K := K) (mg := mg) (base := base) ⟨rfl, rfl, rfl, rfl, rfl⟩ hr (pv 0) (pa_cons (pv 1) pa_nil)) (pa_cons (kFld (K := K) rfl (pv 3)) pa_nil))))) (kTup (K := K) rfl rfl (pgs_cons (pg_name (i := 7) sc_House_decide.nd rfl (Or.inl rfl)) (pgs_cons (pg_name (i := 8) sc_House_decide.nd rfl (Or.inl rfl)) pgs_nil))))
    (pss_cons (kSFld (K := K) rfl (pv 3) (pv 7))
    (pss_cons (kSFld (K := K) rfl (pv 3) (pv 8))
    (pss_cons (kSFld (K := K) rfl (pv 3) pe_str)
    (pss_one (ps_expr (pe_ma (P := P) (w := w) (K := K) (mg := mg) (base := base) ⟨rfl, rfl, rfl, rfl, rfl⟩ hr (pv 0) (pa_cons (pv 1) pa_nil)))))))))))))))), ?_⟩
  walk_at "rd"
  refine w_ixL (SqL.of R.hpl) (at_nat (i := e) rfl (R.poAt he)) ?_
  walk_at "rd"
  refine w_ixL (v := .ref p) (SqL.of R.tr.hsh) (at_nat (i := e) rfl hp') ?_
  walk_at "rd"
  refine w_ma1 ht cT.cl rfl MP (by show 1 ≤ 13 + fu; omega) ?_
  walk_at "rd"
  refine ⟨A, D, i, rfl, R.tr.toTR, W, hi, by omega, ?_⟩
  walk_at "rd"
  refine w_postR kh R he rfl rfl (by decide) ?_
  refine w_ca CB (by show 1 ≤ 13 + fu; omega) ?_
  walk_at "rd"
  refine ⟨D.place i, rfl, by omega, ?_⟩
  walk_at "rd"
  rw [and_int]
  walk_at "rd"
  rw [bit_pos]
  generalize (s.posts e).good.testBit (D.place i) = tb at hrun ⊢
  walk_at "if"
  · rename_i c1
    rw [if_pos c1] at hrun
    obtain rfl := Option.some.inj hrun
    walk_at "rd"
    exact q a H R Fr.refl
  rename_i c1
  rw [if_neg (by rw [c1]; decide)] at hrun
  walk_at "rd"
  refine w_ca CM (by show 2 ≤ 13 + fu; omega) ?_
  walk_at "rd"
  refine w_postR kh R he rfl rfl (by decide) ?_
  walk_at "rd"
  refine w_fld1 hs cS.cl (cS.no _ (attr_min hk (.inr rfl))) (fld_span hk) ?_
  walk_at "rd"
  refine w_fld1 hs cS.cl (cS.no _ (attr_min hk (.inl rfl))) (fld_most hk) ?_
  walk_at "rd"
  refine ⟨a.fa e, (s.posts e).falls, _, _, _, rfl, SqL.of (R.hfa e he), by omega, fun H1 S1 => ?_⟩
  have R1 := R.same S1
  have F1 : Fr D.n a H a H1 := Fr.same S1
  obtain ⟨hh1, ht1⟩ := R1.facts rfl
  walk_at "rd"
  walk_at "if"
  · rename_i c2
    rw [if_pos c2] at hrun
    walk_at "rd"
    refine w_ma1 hh1 cH.cl rfl MN (by show 2 ≤ 13 + fu; omega) ?_
    walk_at "rd"
    refine ⟨A, a, D, s, e, .givesup, rfl, R1, W, he, by omega, fun a2 H2 R2 F2 => ?_⟩
    have F2 := F1.trans F2
    obtain ⟨hh2, ht2⟩ := R2.facts F2.h
    walk_at "rd"
    refine w_ma1 hh2 cH.cl rfl MD (by show 13 + fu ≤ 13 + fu; omega) ?_
    walk_at "rd"
    refine ⟨A, a2, D, _, e, true, s', by rw [F2.h]; rfl, R2, W, he, hrun, fun a3 H3 R3 F3 => ?_⟩
    walk_at "rd"
    exact q a3 H3 R3 ((F2.low he).trans F3)
  rename_i c2
  rw [if_neg c2] at hrun
  walk_at "rd"
  refine w_ca CR (by show 1 ≤ 13 + fu; omega) ?_
  walk_at "rd"
  refine w_postR kh R1 he rfl rfl (by decide) ?_
  walk_at "rd"
  have hs1 := S1 _ _ hs
  refine w_fld1 hs1 cS.cl (cS.no _ (attr_min hk (.inr rfl))) (fld_span hk) ?_
  walk_at "rd"
  refine ⟨a.fa e, (s.posts e).falls, _, _, rfl, SqL.of (R1.hfa e he), by omega, fun g H2 hg S2 e2 => ?_⟩
  have R2 := R1.same S2
  obtain ⟨hh2, ht2⟩ := R2.facts rfl
  walk_at "rd"
  have z := PySem.sizeLine_eq
  refine ⟨by simp only [List.length_cons, List.length_nil]; omega, fun v hv => ?_⟩
  have ng : g ≠ v := neN hv e2
  have rl := recF_le (s.clock : Int) (D.sh e).b (s.posts e).falls
  refine w_cat (xs := (recF (s.clock : Int) (D.sh e).b (s.posts e).falls).map V.int) (ys := [V.int (s.clock : Int)]) (by rw [upd_ne ng]; exact e2) upd_same (by rw [List.length_map]; simp only [List.length_cons, List.length_nil]; omega) fun r hr => ?_
  walk_at "rd"
  refine w_postFa kh R2 he { s.posts e with falls := recF (s.clock : Int) (D.sh e).b (s.posts e).falls ++ [(s.clock : Int)] } rfl (same_upd (same_new hv _) hr) (updN hr) (by rw [upd_same, List.map_append]; rfl) rfl rfl fun H3 R3 F3 => ?_
  have F3 := (F1.trans (Fr.same S2)).trans F3
  obtain ⟨hh3, ht3⟩ := R3.facts F3.h
  generalize a.faA e r = a3 at R3 F3 hh3
  walk_at "rd"
  refine w_ma1 hh3 cH.cl rfl MN (by show 2 ≤ 13 + fu; omega) ?_
  walk_at "rd"
  refine ⟨A, a3, D, _, i, .answers, by rw [F3.h]; rfl, R3, W, hi, by show s.book.length < _; omega, fun a4 H4 R4 F4 => ?_⟩
  have F4 := F3.trans F4
  obtain ⟨hh4, ht4⟩ := R4.facts F4.h
  have p4 := F4.p e he
  have g4 : (((s.put e { s.posts e with falls := recF (s.clock : Int) (D.sh e).b (s.posts e).falls ++ [(s.clock : Int)] }).note .answers i).posts e).good = (s.posts e).good := by
    show ((s.put e { s.posts e with falls := recF (s.clock : Int) (D.sh e).b (s.posts e).falls ++ [(s.clock : Int)] }).posts e).good = _
    rw [put_same]
  generalize (s.put e { s.posts e with falls := recF (s.clock : Int) (D.sh e).b (s.posts e).falls ++ [(s.clock : Int)] }).note .answers i = s4 at *
  have hj : e < A.ys.length := by rw [R4.tr.lys]; exact he
  have hz : A.ys[e]? = some A.ys[e] := List.getElem?_eq_getElem hj
  generalize A.ys[e] = zz at hz
  have h1z := R4.tr.hys e zz hz
  obtain ⟨p', dx4, hpp, hp4', hs4⟩ := R4.shAt he
  obtain rfl : p = p' := Option.some.inj (hp.symm.trans hpp)
  walk_at "rd"
  refine w_ixL (v := .ref zz) (SqL.of R4.tr.hyg) (at_nat (i := e) rfl (by rw [List.getElem?_map, hz]; rfl)) ?_
  walk_at "rd"
  rw [List.length_map, show yngOf D.eld e = D.yng e from rfl]
  refine w_ma1 hs4 cS.cl (fld_no (.inr (.inr (.inr rfl)))) (kd.chosen _ hk kl) (by show 2 ≤ 13 + fu; omega) ?_
  walk_at "rd"
  refine w_ma1 hh4 cH.cl rfl MO (by show 2 ≤ 13 + fu; omega) ?_
  walk_at "rd"
  refine ⟨A, a4, D, s4, e, by rw [F4.h]; rfl, R4, W, he, ?_⟩
  walk_at "rd"
  refine w_postR kh R4 he p4 rfl (by decide) ?_
  rw [g4]
  walk_at "rd"
  refine ⟨p, dx4, _, _, _, _, _, rfl, hs4, by omega, by omega, fun t H5 ht5 S5 e5 => ?_⟩
  have R5 := R4.same S5
  have F5 : Fr D.n a H a4 H5 := F4.trans (Fr.same S5)
  walk_at "rd"
  generalize chK (D.sh e).kind (D.place i) (D.yng e).length (HS.onOf D s4 e) (s.posts e).good = ch at *
  refine w_postP kh R5 he { s4.posts e with put := ch.1 } p4 rfl rfl rfl (by decide) fun H6 R6 F6 => ?_
  walk_at "rd"
  refine w_postQ kh R6 he { s4.posts e with put := ch.1, anew := ch.2 } p4 rfl rfl rfl (by decide) fun H7 R7 F7 => ?_
  walk_at "rd"
  refine w_postQ kh R7 he { s4.posts e with put := ch.1, anew := ch.2, phase := .turning } p4 rfl rfl rfl (by decide) fun H8 R8 F8 => ?_
  have F8 := F5.trans (F6.trans (F7.trans F8))
  obtain ⟨hh8, ht8⟩ := R8.facts F8.h
  walk_at "rd"
  refine w_ma1 hh8 cH.cl rfl MG (by show 13 + fu ≤ 13 + fu; omega) ?_
  walk_at "rd"
  refine ⟨A, a4, D, _, e, s', by rw [F8.h]; rfl, R8, W, he, hrun, fun a9 H9 R9 F9 => ?_⟩
  walk_at "rd"
  exact q a9 H9 R9 ((F8.low he).trans F9)
theorem ok_come_up {f : Addr} {fd : FuncData} (F : Fun K "come_up" "House.come_up" s_House_come_up f fd) (kh : KH K C) (CP : Cal P w K mg base CX0 "places" 1 ["bits"] [] spPlaces) (MB : Mth P w K mg base CX0 C.H "begin" 12 ["self", "at"] [] (spBegin C 9))
    (fu : Nat) (MD : Mth P w K mg base CX0 C.H "decide" (13 + fu) ["self", "elder", "at"] [] (spDecide C fu)) : FnOk P w K mg base CX0 (13 + fu + 1) f fd ["self", "at"] (spUp C (fu + 1)) := by
  refine F.ok sc_House_come_up (fun vs H Q E h => ?_) (fun cdv A outer s H vs Q E hr h => ?_)
  · obtain ⟨A, a, D, s, i, s', rfl, _⟩ := h
    rfl
  obtain ⟨A, a, D, s, i, s', rfl, R, W, hi, hrun, q⟩ := h
  have cH := kh.cH
  have cT := kh.cT
  have okb := run_succ hrun
  have b1 : s.book.length < 10000000 := okb.bk
  have an := (okb.po i hi).2.1
  have wo := (okb.po i hi).2.2
  unfold run at hrun
  rw [if_neg (fun z => z okb)] at hrun
  try dsimp only at hrun
  obtain ⟨hh, ht⟩ := R.facts rfl
  have yl := yng_le W i
  have hsz := W.sz
  refine ⟨_, (pss_cons (ps_set (i := 2) sc_House_come_up.nd rfl (Or.inl rfl) (pe_ix (kIxL (K := K) rfl) (kFld (K := K) rfl (pv 0)) (pv 1) (fun _ _ => rfl)))
    (pss_cons (kSFld (K := K) rfl (pv 2) pe_str)
    (pss_cons (ps_for PassesOwn.never rfl (kPiL (K := K) rfl (pe_ca (P := P) (w := w) (K := K) (mg := mg) (base := base) ⟨rfl, rfl, rfl, rfl, rfl⟩ hr rfl (pa_cons (pe_op op_and (kFld (K := K) rfl (pv 2)) (pe_un un_inv (kFld (K := K) rfl (pv 2)))) pa_nil))) (pg_name (i := 3) sc_House_come_up.nd rfl (Or.inl rfl)) (pss_one (ps_expr (pe_ma (P := P) (w := w) (K := K) (mg := mg) (base := base) ⟨rfl, rfl, rfl, rfl, rfl⟩ hr (pv 0) (pa_cons (pe_ix (kIxL (K := K) rfl) (pe_ix (kIxL (K := K) rfl) (kFld (K := K) rfl (kFld (K := K) rfl (pv 0))) (pv 1) (fun _ _ => rfl)) (pv 3) (fun _ _ => rfl)) pa_nil)))))
    (pss_cons (kSFld (K := K) rfl (pv 2) pe_int)
    (pss_cons (ps_set (i := 4) sc_House_come_up.nd rfl (Or.inl rfl) (kFld (K := K) rfl (pv 2)))
    (pss_cons (kSFld (K := K) rfl (pv 2) (pe_lst pa_nil))
    (pss_one (ps_for PassesOwn.never rfl (kPiL (K := K) rfl (pv 4)) (pg_name (i := 5) sc_House_come_up.nd rfl (Or.inl rfl)) (pss_one (ps_if (PW.pt (pw_and (pt_cmpR op_eq (kFld (K := K) rfl (pe_ix (kIxL (K := K) rfl) (kFld (K := K) rfl (pv 0)) (pv 5) (fun _ _ => rfl))) pe_str (nomark _)) (pw_and1 (pt_cmpR op_eq (kFld (K := K) rfl (pv 2)) pe_str (nomark _))))) (pss_one (ps_expr (pe_ma (P := P) (w := w) (K := K) (mg := mg) (base := base) ⟨rfl, rfl, rfl, rfl, rfl⟩ hr (pv 0) (pa_cons (pv 1) (pa_cons (pv 5) pa_nil))))) (pss_one (ps_if (PW.pt (pw_and (pt_cmpR op_eq (kFld (K := K) rfl (pe_ix (kIxL (K := K) rfl) (kFld (K := K) rfl (pv 0)) (pv 5) (fun _ _ => rfl))) pe_str (nomark _)) (pw_and1 (pt_cmpR op_eq (kFld (K := K) rfl (pv 2)) pe_str (nomark _))))) (pss_one (ps_expr (kBm (K := K) rfl PySem.F.plainAttrs_list PySem.F.slot_list_append PySem.F.type_list_append mt_append (kFld (K := K) rfl (pv 2)) (pa_cons (pv 5) pa_nil)))) pss_nil)))))))))))), ?_⟩
  walk_at "rd"
  refine w_ixL (SqL.of R.hpl) (at_nat (i := i) rfl (R.poAt hi)) ?_
  walk_at "rd"
  refine w_postP kh R hi { s.posts i with phase := .on } rfl rfl rfl rfl (by decide) fun H1 R1 F1 => ?_
  obtain ⟨hh1, ht1⟩ := R1.facts F1.h
  walk_at "rd"
  refine w_ca CP (by show 1 ≤ 13 + fu; omega) ?_
  walk_at "rd"
  refine w_postR kh R1 hi rfl rfl (by decide) ?_
  walk_at "rd"
  refine w_postR kh R1 hi rfl rfl (by decide) ?_
  walk_at "rd"
  rw [and_not_int]
  have e1 : andNot ((s.put i { s.posts i with phase := .on }).posts i).anew ((s.put i { s.posts i with phase := .on }).posts i).good = andNot (s.posts i).anew (s.posts i).good := by rw [put_same]
  rw [e1]
  have bb : andNot (s.posts i).anew (s.posts i).good < 2 ^ (D.yng i).length := Nat.lt_of_le_of_lt (andNot_le _ _) an
  have hrun2 := hrun
  rw [put_same] at hrun2
  dsimp only at hrun2
  generalize andNot (s.posts i).anew (s.posts i).good = bits at *
  have bk1 : (s.put i { s.posts i with phase := .on }).book.length = s.book.length := rfl
  generalize s.put i { s.posts i with phase := .on } = s1 at *
  refine ⟨bits, rfl, Nat.lt_of_lt_of_le bb (Nat.pow_le_pow_right (by decide) (by omega)), fun pa H2 hpa S2 e2 => ?_⟩
  have R2 := R1.same S2
  have F2 : Fr (i + 1) a H a H2 := (F1.trans (Fr.same S2)).low hi
  have rpa := R1.free pa hpa
  have lb : (placesOf bits).length ≤ 64 := by
    have h1 := List.length_filter_le (fun k => bits.testBit k) (List.range (bitLen bits))
    rw [List.length_range] at h1
    have h2 := bitLen_le bb
    have h3 : (placesOf bits).length = ((List.range (bitLen bits)).filter fun k => bits.testBit k).length := rfl
    omega
  refine w_forL (fun k σ H' => ∃ a' y, σ = [some (.ref a.h), some (.int (i : Int)), some (.ref (a.po i)), y, none, none] ∧ HR C A a' D (((placesOf bits).take k).foldl (fun h pl => h.begin D ((D.yng i).getD pl 0)) s1) H' ∧ Fr (i + 1) a H2 a' H' ∧ (((placesOf bits).take k).foldl (fun h pl => h.begin D ((D.yng i).getD pl 0)) s1).book.length ≤ s.book.length + 64 * k) (SqL.of e2) ⟨a, none, rfl, R2, Fr.refl, by rw [List.take_zero]; show s1.book.length ≤ _; omega⟩ (fun k σ H' hk hm => ?_) (fun k y σ H' hy hm => ?_) (fun σ H' hm => ?_)
  · obtain ⟨a', y, rfl, R', F', _⟩ := hm
    exact SqL.of (F'.k pa _ rpa e2).2
  · obtain ⟨a', y', rfl, R', F', b'⟩ := hm
    have e' := F'.h
    rw [List.getElem?_map] at hy
    obtain ⟨pl, hpl, rfl⟩ := Option.map_eq_some_iff.mp hy
    have pm := places_lt bb (List.mem_of_getElem? hpl)
    have hc : (D.yng i)[pl]? = some ((D.yng i).getD pl 0) := by
      rw [List.getD_eq_getElem?_getD, List.getElem?_eq_getElem pm.1]
      rfl
    have tk := take_succ' hpl
    have hkl : k < (placesOf bits).length := (List.getElem?_eq_some_iff.mp hpl).choose
    have step : (((placesOf bits).take (k + 1)).foldl (fun h pl => h.begin D ((D.yng i).getD pl 0)) s1) = ((((placesOf bits).take k).foldl (fun h pl => h.begin D ((D.yng i).getD pl 0)) s1)).begin D ((D.yng i).getD pl 0) := by
      rw [tk, List.foldl_append]
      rfl
    rw [step]
    generalize (D.yng i).getD pl 0 = c at *
    have yc := yng_gt W (List.mem_of_getElem? hc)
    have sl : (D.sub c).length ≤ D.n := nodup_le D.n _ (sub_nodup W _ c yc.2.1) (fun j hj => (sub_mem W _ c j yc.2.1 hj).2.1)
    obtain ⟨hh6, ht6⟩ := R'.facts e'
    have hj : i < A.ys.length := by rw [R'.tr.lys]; exact hi
    have hz : A.ys[i]? = some A.ys[i] := List.getElem?_eq_getElem hj
    generalize A.ys[i] = zz at hz
    have h1z := R'.tr.hys i zz hz
    walk_at "rd"
    refine w_ma1 hh6 cH.cl rfl MB (by show 12 ≤ 13 + fu; omega) ?_
    walk_at "rd"
    refine w_ixL (v := .ref zz) (SqL.of R'.tr.hyg) (at_nat (i := i) rfl (by rw [List.getElem?_map, hz]; rfl)) ?_
    walk_at "rd"
    refine w_ixL (v := .int (c : Int)) (SqL.of h1z) (at_nat (i := pl) rfl (by rw [List.getElem?_map, show yngOf D.eld i = D.yng i from rfl, hc]; rfl)) ?_
    walk_at "rd"
    refine ⟨A, a', D, _, c, by rw [e']; rfl, R', W, yc.2.1, by omega, by omega, fun a7 H7 R7 F7 => ?_⟩
    walk_at "rd"
    refine ⟨a7, _, rfl, R7, F'.trans (F7.low (by omega)), ?_⟩
    have fb : ∀ h : HS, (h.begin D c).book.length = h.book.length + (D.sub c).length := fun h => fresh_book _ h
    rw [fb]
    omega
  · obtain ⟨a', y', rfl, R', F', b'⟩ := hm
    have e : (placesOf bits).take ((placesOf bits).map fun j : Nat => V.int j).length = placesOf bits := List.take_of_length_le (by rw [List.length_map]; exact Nat.le_refl _)
    rw [e] at R' b'
    generalize (placesOf bits).foldl (fun h pl => h.begin D ((D.yng i).getD pl 0)) s1 = s2 at *
    have F3 := F2.trans F'
    have p3 := F3.p i (Nat.lt_succ_self i)
    obtain ⟨hh3, ht3⟩ := R'.facts F3.h
    walk_at "rd"
    refine w_postP kh R' hi { s2.posts i with anew := 0 } p3 rfl rfl rfl (by decide) fun H4 R4 F4 => ?_
    walk_at "rd"
    refine w_postR kh R4 hi p3 rfl (by decide) ?_
    walk_at "rd"
    refine ⟨Nat.zero_le _, fun y hy => ?_⟩
    have hw4 := R4.hwa i hi
    rw [put_same] at hw4
    have rw4 := R4.r_wa i hi
    walk_at "rd"
    refine w_postW kh R4 hi { s2.posts i with anew := 0, waiting := [] } p3 (same_new hy _) hy upd_same rfl rfl fun H5 R5 F5 kp5 => ?_
    have w0r : (a'.waA i y).rl (a'.wa i) = .out := by
      show (if a'.wa i = y then Role.wa i else if a'.wa i = a'.wa i then Role.out else _) = .out
      rw [if_neg (neN hy hw4), if_pos rfl]
    have w0h : H5 (a'.wa i) = some (.lst ((s2.posts i).waiting.map fun j : Nat => V.int j)) := by
      refine kp5 _ _ (fun e => ?_) (same_new hy _ _ _ hw4)
      have := R4.hpo i hi
      rw [p3, ← e, hw4] at this
      cases this
    have F5 := F3.trans ((F4.trans F5).low hi)
    generalize a'.waA i y = a5 at R5 F5 w0r
    have wo2 : ∀ d ∈ (s2.posts i).waiting, d < D.n → D.e d = (i : Int) → True := fun _ _ _ _ => trivial
    walk_at "rd"
    refine w_forL (fun k σ H' => ∃ a7 h y, σ = [some (.ref a.h), some (.int (i : Int)), some (.ref (a.po i)), y', some (.ref (a'.wa i)), y] ∧ HR C A a7 D h H' ∧ Fr (i + 1) a H a7 H' ∧ Fr (i + 1) a5 H5 a7 H' ∧ waitLoop D (fun c h => run D fu (.decide i c) h) i ((s2.posts i).waiting.drop k) h = some s') (SqL.of w0h) ⟨a5, _, none, rfl, R5, F5, Fr.refl, hrun2⟩ (fun k σ H' hk hm => ?_) (fun k y σ H' hy hm => ?_) (fun σ H' hm => ?_)
    · obtain ⟨a7, h, y, rfl, R7, F7, G7, w7⟩ := hm
      exact SqL.of (G7.k _ _ w0r w0h).2
    · obtain ⟨a7, h, y'', rfl, R7, F7, G7, w7⟩ := hm
      rw [List.getElem?_map] at hy
      obtain ⟨c, hc, rfl⟩ := Option.map_eq_some_iff.mp hy
      have dr : (s2.posts i).waiting.drop k = c :: (s2.posts i).waiting.drop (k + 1) := by
        have := List.getElem_cons_drop (as := (s2.posts i).waiting) (i := k) (List.getElem?_eq_some_iff.mp hc).choose
        rw [(List.getElem?_eq_some_iff.mp hc).choose_spec] at this
        exact this.symm
      rw [dr] at w7
      have okh : h.okB D ∧ c < D.n ∧ D.e c = (i : Int) := by
        unfold waitLoop at w7
        by_cases c : h.okB D ∧ c < D.n ∧ D.e c = (i : Int)
        · exact c
        · rw [if_pos c] at w7
          cases w7
      unfold waitLoop at w7
      rw [if_neg (fun z => z okh)] at w7
      obtain ⟨okh, hcn, hce⟩ := okh
      have bw : (h.posts i).waiting.length < 10000000 := okh.wa i hi
      obtain ⟨hh7, ht7⟩ := R7.facts F7.h
      have p7 := F7.p i (Nat.lt_succ_self i)
      have z := PySem.sizeLine_eq
      -- the second question
      have second : ¬ ((h.posts c).phase = .off ∧ (h.posts i).phase = .on) → True := fun _ => trivial
      walk_at "rd"
      refine w_ixL (SqL.of R7.hpl) (at_nat (i := c) rfl (R7.poAt hcn)) ?_
      refine w_postR kh R7 hcn rfl rfl (by decide) ?_
      walk_at "rd"
      walk_at "if"
      all_goals rename_i c1
      · have c1 := (ph_off _).mp c1
        walk_at "rd"
        refine w_postR kh R7 hi p7 rfl (by decide) ?_
        walk_at "rd"
        walk_at "if"
        all_goals rename_i c2
        · have c2 := (ph_on _).mp c2
          rw [if_pos ⟨c1, c2⟩] at w7
          cases hD : run D fu (.decide i c) h with
          | none => rw [hD] at w7; cases w7
          | some h2 =>
          rw [hD] at w7
          walk_at "rd"
          refine w_ma1 hh7 cH.cl rfl MD (by show 13 + fu ≤ 13 + fu; omega) ?_
          walk_at "rd"
          refine ⟨A, a7, D, h, i, c, h2, by rw [F7.h]; rfl, R7, W, hcn, hce, hD, fun a8 H8 R8 F8 => ?_⟩
          walk_at "rd"
          exact ⟨a8, h2, _, rfl, R8, F7.trans F8, G7.trans F8, w7⟩
        · have c2 : ¬ (h.posts i).phase = .on := fun e => c2 ((ph_on _).mpr e)
          rw [if_neg (fun z => c2 z.2)] at w7
          walk_at "rd"
          refine w_ixL (SqL.of R7.hpl) (at_nat (i := c) rfl (R7.poAt hcn)) ?_
          refine w_postR kh R7 hcn rfl rfl (by decide) ?_
          walk_at "rd"
          walk_at "if"
          all_goals rename_i c3
          · walk_at "rd"
            refine w_postR kh R7 hi p7 rfl (by decide) ?_
            walk_at "rd"
            walk_at "if"
            all_goals rename_i c4
            · have c4 := (ph_turning _).mp c4
              rw [if_pos ⟨c1, c4⟩] at w7
              walk_at "rd"
              refine w_postR kh R7 hi p7 rfl (by decide) ?_
              refine w_tyL (SqL.of (R7.hwa i hi)) ?_
              walk_at "rd"
              refine w_app (R7.hwa i hi) (by rw [List.length_map]; omega) ?_
              walk_at "rd"
              have F8 : Fr (i + 1) a7 H' a7 _ := Fr.own (o := .lst (((h.posts i).waiting.map fun j : Nat => V.int j) ++ [V.int (c : Int)])) (R7.hwa i hi) (by rw [R7.r_wa i hi]; intro z; cases z)
              exact ⟨a7, _, _, rfl, R7.wappR hi, F7.trans F8, G7.trans F8, w7⟩
            · have c4 : ¬ (h.posts i).phase = .turning := fun e => c4 ((ph_turning _).mpr e)
              rw [if_neg (fun z => c4 z.2)] at w7
              walk_at "rd"
              exact ⟨a7, h, _, rfl, R7, F7, G7, w7⟩
          · exact absurd ((ph_off _).mpr c1) c3
      · have c1 : ¬ (h.posts c).phase = .off := fun e => c1 ((ph_off _).mpr e)
        rw [if_neg (fun z => c1 z.1), if_neg (fun z => c1 z.1)] at w7
        walk_at "rd"
        refine w_ixL (SqL.of R7.hpl) (at_nat (i := c) rfl (R7.poAt hcn)) ?_
        refine w_postR kh R7 hcn rfl rfl (by decide) ?_
        walk_at "rd"
        walk_at "if"
        all_goals rename_i c3
        · exact absurd ((ph_off _).mp c3) c1
        · walk_at "rd"
          exact ⟨a7, h, _, rfl, R7, F7, G7, w7⟩
    · obtain ⟨a7, h, y, rfl, R7, F7, G7, w7⟩ := hm
      rw [List.drop_of_length_le (by rw [List.length_map]; exact Nat.le_refl _)] at w7
      obtain rfl := Option.some.inj w7
      walk_at "rd"
      exact q a7 H' R7 F7
end
end Mn

namespace Mn
open PySem PySem.Spec PyProof.Rows L2 TL
/-- a method of a class, its place alone -/
structure Mf (K : PySem.W.Frag) (C : Addr) (m : Str) (f : Addr) (fd : FuncData) (ps : List Str) : Prop where
  me : Meth K C m f
  bd : Binds K fd ps []
section
variable {P : Program} {w : World} {K : PySem.W.Frag} {mg : Str → Option Value} {base : Heap} {C : Cs}
theorem Mf.mth {Cl f : Addr} {fd : FuncData} {m : Str} {ps : List Str} {k : Nat} {sp : Sp} (M : Mf K Cl m f fd ps) (F : FnOk P w K mg base CX0 k f fd ps sp) : Mth P w K mg base CX0 Cl m k ps [] sp := ⟨f, fd, [], F, M.me, M.bd, .nil⟩
/-- the five that call one another, so deep -/
structure Ops (P : Program) (w : World) (K : PySem.W.Frag) (mg : Str → Option Value) (base : Heap) (C : Cs) (fu : Nat) : Prop where
  tell : Mth P w K mg base CX0 C.H "tell" (13 + fu) ["self", "at"] [] (spTell C fu)
  down : Mth P w K mg base CX0 C.H "go_down" (13 + fu) ["self", "at", "gave"] [] (spDown C fu)
  on : Mth P w K mg base CX0 C.H "go_on" (13 + fu) ["self", "at"] [] (spOn C fu)
  up : Mth P w K mg base CX0 C.H "come_up" (13 + fu) ["self", "at"] [] (spUp C fu)
  decide : Mth P w K mg base CX0 C.H "decide" (13 + fu) ["self", "elder", "at"] [] (spDecide C fu)
theorem run_0 {D : TreeD} {op : Op} {s s' : HS} (h : run D 0 op s = some s') : False := by
  unfold run at h
  cases h
theorem ops_all {f1 f2 f3 f4 f5 : Addr} {d1 d2 d3 d4 d5 : FuncData} (F1 : Fun K "tell" "House.tell" s_House_tell f1 d1) (F2 : Fun K "go_down" "House.go_down" s_House_go_down f2 d2) (F3 : Fun K "go_on" "House.go_on" s_House_go_on f3 d3) (F4 : Fun K "come_up" "House.come_up" s_House_come_up f4 d4) (F5 : Fun K "decide" "House.decide" s_House_decide f5 d5)
    (M1 : Mf K C.H "tell" f1 d1 ["self", "at"]) (M2 : Mf K C.H "go_down" f2 d2 ["self", "at", "gave"]) (M3 : Mf K C.H "go_on" f3 d3 ["self", "at"]) (M4 : Mf K C.H "come_up" f4 d4 ["self", "at"]) (M5 : Mf K C.H "decide" f5 d5 ["self", "elder", "at"])
    (T : Bt mg) (kh : KH K C) (kd : KdH P w K mg base C.cls) (MP : Mth P w K mg base CX0 C.T "place" 1 ["self", "at"] [] (spPlace C)) (CB : Cal P w K mg base CX0 "bit" 1 ["place"] [] spBit) (CL : Cal P w K mg base CX0 "last" 1 ["bits"] [] spLast) (CW : Cal P w K mg base CX0 "without" 1 ["bits", "place"] [] spWithout) (CP : Cal P w K mg base CX0 "places" 1 ["bits"] [] spPlaces)
    (CM : Cal P w K mg base CX0 "too_many" 2 ["falls", "clock", "span", "most"] [] (spToo K)) (CR : Cal P w K mg base CX0 "recent" 1 ["falls", "clock", "span"] [] (spRec K)) (MN : Mth P w K mg base CX0 C.H "note" 2 ["self", "word", "at"] [] (spNote C)) (MO : Mth P w K mg base CX0 C.H "on_of" 2 ["self", "at"] [] (spOnOf C))
    (MV : Mth P w K mg base CX0 C.H "over" 3 ["self", "at", "word"] [] (spOver C)) (ME : Mth P w K mg base CX0 C.H "ease" 4 ["self", "at"] [] (spEase C)) (MB : Mth P w K mg base CX0 C.H "begin" 12 ["self", "at"] [] (spBegin C 9)) : ∀ fu, Ops P w K mg base C fu := by
  intro fu
  induction fu with
  | zero =>
    refine ⟨M1.mth ?_, M2.mth ?_, M3.mth ?_, M4.mth ?_, M5.mth ?_⟩
    · refine F1.ok sc_House_tell (fun vs H Q E h => ?_) (fun cdv A outer s H vs Q E hr h => ?_)
      · obtain ⟨A, a, D, s, i, s', rfl, _⟩ := h
        rfl
      · obtain ⟨A, a, D, s, i, s', rfl, R, W, hi, hrun, q⟩ := h
        exact (run_0 hrun).elim
    · refine F2.ok sc_House_go_down (fun vs H Q E h => ?_) (fun cdv A outer s H vs Q E hr h => ?_)
      · obtain ⟨A, a, D, s, i, g, s', rfl, _⟩ := h
        rfl
      · obtain ⟨A, a, D, s, i, g, s', rfl, R, W, hi, hrun, q⟩ := h
        exact (run_0 hrun).elim
    · refine F3.ok sc_House_go_on (fun vs H Q E h => ?_) (fun cdv A outer s H vs Q E hr h => ?_)
      · obtain ⟨A, a, D, s, i, s', rfl, _⟩ := h
        rfl
      · obtain ⟨A, a, D, s, i, s', rfl, R, W, hi, hrun, q⟩ := h
        exact (run_0 hrun).elim
    · refine F4.ok sc_House_come_up (fun vs H Q E h => ?_) (fun cdv A outer s H vs Q E hr h => ?_)
      · obtain ⟨A, a, D, s, i, s', rfl, _⟩ := h
        rfl
      · obtain ⟨A, a, D, s, i, s', rfl, R, W, hi, hrun, q⟩ := h
        exact (run_0 hrun).elim
    · refine F5.ok sc_House_decide (fun vs H Q E h => ?_) (fun cdv A outer s H vs Q E hr h => ?_)
      · obtain ⟨A, a, D, s, e, i, s', rfl, _⟩ := h
        rfl
      · obtain ⟨A, a, D, s, e, i, s', rfl, R, W, hi, hei, hrun, q⟩ := h
        exact (run_0 hrun).elim
  | succ n ih =>
    exact ⟨M1.mth (ok_tell F1 kh kd MN ME n ih.down), M2.mth (ok_down F2 kh MO n ih.on), M3.mth (ok_go_on F3 kh CL CW MV n ih.tell ih.up), M4.mth (ok_come_up F4 kh CP MB n ih.decide), M5.mth (ok_decide F5 T kh kd MP CB CM CR MN MO n ih.down ih.on)⟩
end
end Mn

namespace Mn
open PySem PySem.Spec PyProof.Rows L2 TL
section
variable {P : Program} {w : World} {K : PySem.W.Frag} {mg : Str → Option Value} {base : Heap} {C : Cs}
def spHear (C : Cs) : Sp := fun vs H Q _ => ∃ (A : TA) (a : HA) (D : TreeD) (s : HS) (i : Nat) (pl : Bool) (s' : HS), vs = [.ref a.h, .int (i : Int), .bl pl] ∧ HR C A a D s H ∧ D.WF ∧ i < D.n ∧ 0 ≤ D.e i ∧ s.hear D i pl = some s' ∧ ∀ a' H', HR C A a' D s' H' → Fr 0 a H a' H' → Q .non H'
theorem ok_hear {f : Addr} {fd : FuncData} (F : Fun K "hear" "House.hear" s_House_hear f fd) (kh : KH K C) (O : Ops P w K mg base C FUEL) : FnOk P w K mg base CX0 54 f fd ["self", "at", "planned"] (spHear C) := by
  refine F.ok sc_House_hear (fun vs H Q E h => ?_) (fun cdv A outer s H vs Q E hr h => ?_)
  · obtain ⟨A, a, D, s, i, pl, s', rfl, _⟩ := h
    rfl
  obtain ⟨A, a, D, s, i, pl, s', rfl, R, W, hi, he, hrun, q⟩ := h
  have cH := kh.cH
  have cT := kh.cT
  have el := W.el i hi
  have okb : s.okB D := by
    unfold HS.hear at hrun
    by_cases c : s.okB D
    · exact c
    · rw [if_pos c] at hrun
      cases hrun
  unfold HS.hear at hrun
  rw [if_neg (fun z => z okb)] at hrun
  obtain ⟨hh, ht⟩ := R.facts rfl
  refine ⟨_, (pss_cons (ps_set (i := 3) sc_House_hear.nd rfl (Or.inl rfl) (pe_ix (kIxL (K := K) rfl) (kFld (K := K) rfl (kFld (K := K) rfl (pv 0))) (pv 1) (fun _ _ => rfl)))
    (pss_cons (ps_set (i := 4) sc_House_hear.nd rfl (Or.inl rfl) (kFld (K := K) rfl (pe_ix (kIxL (K := K) rfl) (kFld (K := K) rfl (pv 0)) (pv 3) (fun _ _ => rfl))))
    (pss_one (ps_if (pt_val (pv 2)) (pss_one (ps_if (PW.pt (pw_or (pt_cmpR op_eq (pv 4) pe_str (nomark _)) (pw_or1 (pt_cmpR op_eq (pv 4) pe_str (nomark _))))) (pss_one (ps_expr (pe_ma (P := P) (w := w) (K := K) (mg := mg) (base := base) ⟨rfl, rfl, rfl, rfl, rfl⟩ hr (pv 0) (pa_cons (pv 3) pa_nil)))) pss_nil)) (pss_one (ps_if (PW.pt (pw_and (pt_cmpR op_eq (kFld (K := K) rfl (pe_ix (kIxL (K := K) rfl) (kFld (K := K) rfl (pv 0)) (pv 1) (fun _ _ => rfl))) pe_str (nomark _)) (pw_and1 (pt_cmpR op_eq (pv 4) pe_str (nomark _))))) (pss_one (ps_expr (pe_ma (P := P) (w := w) (K := K) (mg := mg) (base := base) ⟨rfl, rfl, rfl, rfl, rfl⟩ hr (pv 0) (pa_cons (pv 3) (pa_cons (pv 1) pa_nil))))) (pss_one (ps_if (PW.pt (pw_and (pt_cmpR op_eq (kFld (K := K) rfl (pe_ix (kIxL (K := K) rfl) (kFld (K := K) rfl (pv 0)) (pv 1) (fun _ _ => rfl))) pe_str (nomark _)) (pw_and1 (pt_cmpR op_eq (pv 4) pe_str (nomark _))))) (pss_one (ps_expr (kBm (K := K) rfl PySem.F.plainAttrs_list PySem.F.slot_list_append PySem.F.type_list_append mt_append (kFld (K := K) rfl (pe_ix (kIxL (K := K) rfl) (kFld (K := K) rfl (pv 0)) (pv 3) (fun _ _ => rfl))) (pa_cons (pv 1) pa_nil)))) pss_nil)))))))), ?_⟩
  walk_at "rd"
  refine w_ixL (SqL.of R.tr.hel) (at_nat (i := i) rfl (atE W hi)) ?_
  walk_at "rd"
  have hen : (D.e i).toNat < D.n := by omega
  have hee : D.e i = (((D.e i).toNat : Nat) : Int) := by omega
  try dsimp only at hrun
  have bw : (s.posts (D.e i).toNat).waiting.length < 10000000 := okb.wa _ hen
  generalize (D.e i).toNat = e at *
  rw [hee]
  refine w_ixL (SqL.of R.hpl) (at_nat (i := e) rfl (R.poAt hen)) ?_
  refine w_postR kh R hen rfl rfl (by decide) ?_
  walk_at "rd"
  walk_at "if"
  all_goals rename_i c0
  · rw [if_pos c0] at hrun
    have go : ((s.posts e).phase = .turning ∨ (s.posts e).phase = .down) → tDrop (tMA P w K mg base CX0 ("go_on" : Str) 53 E0 (tVar 0) (tCons (tVar 3) tNil)) { nx := fun x H' => Q V.non H', rt := Q } [some (V.ref a.h), some (V.int ↑i), some (V.bl pl), some (V.int ↑e), some (V.str (s.posts e).phase.s)] H := fun c => by
      rw [if_pos c] at hrun
      walk_at "rd"
      refine w_ma1 hh cH.cl rfl O.on (by decide) ?_
      walk_at "rd"
      refine ⟨A, a, D, s, e, s', rfl, R, W, hen, hrun, fun a2 H2 R2 F2 => ?_⟩
      walk_at "rd"
      exact q a2 H2 R2 (F2.low (Nat.zero_le _))
    walk_at "rd"
    walk_at "if"
    all_goals rename_i c1
    · exact go (.inl ((ph_turning _).mp c1))
    · walk_at "rd"
      walk_at "if"
      all_goals rename_i c2
      · exact go (.inr ((ph_down _).mp c2))
      · rw [if_neg (fun z => z.elim (fun e => c1 ((ph_turning _).mpr e)) (fun e => c2 ((ph_down _).mpr e)))] at hrun
        obtain rfl := Option.some.inj hrun
        walk_at "rd"
        exact q a H R Fr.refl
  · rw [if_neg (by rw [c0]; decide)] at hrun
    walk_at "rd"
    refine w_ixL (SqL.of R.hpl) (at_nat (i := i) rfl (R.poAt hi)) ?_
    refine w_postR kh R hi rfl rfl (by decide) ?_
    have third : (¬ ((s.posts i).phase = .off ∧ (s.posts e).phase = .on)) → (s.posts i).phase = .off → (s.posts e).phase = .turning → s' = s.put e { s.posts e with waiting := (s.posts e).waiting ++ [i] } := fun h1 h2 h3 => by
      rw [if_neg h1, if_pos ⟨h2, h3⟩] at hrun
      exact (Option.some.inj hrun).symm
    have fourth : (¬ ((s.posts i).phase = .off ∧ (s.posts e).phase = .on)) → (¬ ((s.posts i).phase = .off ∧ (s.posts e).phase = .turning)) → s' = s := fun h1 h2 => by
      rw [if_neg h1, if_neg h2] at hrun
      exact (Option.some.inj hrun).symm
    walk_at "rd"
    walk_at "if"
    all_goals rename_i c1
    · have c1 := (ph_off _).mp c1
      walk_at "rd"
      walk_at "if"
      all_goals rename_i c2
      · have c2 := (ph_on _).mp c2
        rw [if_pos ⟨c1, c2⟩] at hrun
        walk_at "rd"
        refine w_ma1 hh cH.cl rfl O.decide (by decide) ?_
        walk_at "rd"
        refine ⟨A, a, D, s, e, i, s', rfl, R, W, hi, hee, hrun, fun a2 H2 R2 F2 => ?_⟩
        walk_at "rd"
        exact q a2 H2 R2 (F2.low (Nat.zero_le _))
      · have c2 : ¬ (s.posts e).phase = .on := fun z => c2 ((ph_on _).mpr z)
        walk_at "rd"
        refine w_ixL (SqL.of R.hpl) (at_nat (i := i) rfl (R.poAt hi)) ?_
        refine w_postR kh R hi rfl rfl (by decide) ?_
        walk_at "rd"
        walk_at "if"
        all_goals rename_i c3
        · walk_at "rd"
          walk_at "if"
          all_goals rename_i c4
          · obtain rfl := third (fun z => c2 z.2) c1 ((ph_turning _).mp c4)
            walk_at "rd"
            refine w_ixL (SqL.of R.hpl) (at_nat (i := e) rfl (R.poAt hen)) ?_
            refine w_postR kh R hen rfl rfl (by decide) ?_
            refine w_tyL (SqL.of (R.hwa e hen)) ?_
            walk_at "rd"
            have z := PySem.sizeLine_eq
            refine w_app (R.hwa e hen) (by rw [List.length_map]; omega) ?_
            walk_at "rd"
            exact q a _ (R.wappR hen) (Fr.own (R.hwa e hen) (by rw [R.r_wa e hen]; intro z; cases z))
          · obtain rfl := fourth (fun z => c2 z.2) (fun z => c4 ((ph_turning _).mpr z.2))
            walk_at "rd"
            exact q a H R Fr.refl
        · exact absurd ((ph_off _).mpr c1) c3
    · have c1 : ¬ (s.posts i).phase = .off := fun z => c1 ((ph_off _).mpr z)
      obtain rfl := fourth (fun z => c1 z.1) (fun z => c1 z.1)
      walk_at "rd"
      refine w_ixL (SqL.of R.hpl) (at_nat (i := i) rfl (R.poAt hi)) ?_
      refine w_postR kh R hi rfl rfl (by decide) ?_
      walk_at "rd"
      walk_at "if"
      all_goals rename_i c3
      · exact absurd ((ph_off _).mp c3) c1
      · walk_at "rd"
        exact q a H R Fr.refl
end
end Mn

/-! ### a method that may raise -/
namespace Mn
open PySem PySem.Spec PyProof.Rows L2 L2H
section
variable {X : Cx} {P : Program} {w : World} {K : PySem.W.Frag} {mg : Str → Option Value} {base : Heap} {k : Nat} {W : WX} {x m : Str} {p pos apos : Pos} {e o : Expr} {es : List Expr} {ta : TE} {t : L2.TA}
def tME (P : Program) (w : World) (K : PySem.W.Frag) (mg : Str → Option Value) (base : Heap) (m : Str) (k : Nat) (W : WX) (ta : TE) (t : L2.TA) : TE := fun σ H Q => ta σ H fun xv H1 => ∃ a C dx fs j ps dvs sp, xv = .ref a ∧ H1 a = some (.ins C dx fs) ∧ Cls K C ∧ fs.lookup m = none ∧ Mth P w K mg base (CXN P w) C m j ps dvs sp ∧ j ≤ k ∧
  t σ H1 fun vs H2 => sp (xv :: (vs ++ dvs)) H2 Q (WE W σ)
theorem pe_mae {pl : Sem Bool} (hX : Sx X P w K mg base) (hr : Room k X.A) (tk : L2N.Takes X W) (he : PE X o ta) (ha : PA X (e :: es) t)
    (hst : starEach (e :: es) X.env = (false, eval e X.env) :: starEach es X.env := by rfl) (hpl : (backTo pos (starEach es X.env)).any (·.1) = false := by rfl)
    (ht : eval (.Call (.Attribute o m apos) (e :: es) [] pos) X.env = (do
      let ov ← eval o X.env
      standAt apos.atName
      let (f, first) ← holding [ov] (getMethod ov m pl)
      callWith pos f first (backTo pos (starEach (e :: es) X.env)) (backToKw pos (keywordEach [] X.env))) := by rfl) :
    PE X (.Call (.Attribute o m apos) (e :: es) [] pos) (tME P w K mg base m k W ta t) := by
  obtain ⟨rfl, rfl, rfl, rfl, rfl⟩ := hX
  refine ⟨fun pins s σ H Q I h => ?_⟩
  refine PySem.W.methodCall_KW (pl := pl) (thn (he.run pins s σ H _ I h) fun u s1 ⟨xv, H1, I1, rx, a, C, dx, fs, j, ps, dvs, sp, ex, ea, c, l, M, hj, q⟩ => ?_) ht
  subst ex
  obtain rfl : u = Value.ref a := rx
  obtain ⟨f, fd, ds, F, hm, hb, hd⟩ := M.ex
  refine getmeth_ok I1 ea c hm l ?_
  refine PySem.W.callWith_K (first := [.ref a]) (h₀ := X.base) I.ok.mod.kin hm.kp (thn (ha.run pos pins s1 σ H1 _ I1 q) fun us s2 ⟨vs, H2, I2, r, q2⟩ => ⟨I2.kIn, ?_⟩) hst hpl
  exact run_fnSD (us := .ref a :: us) (vs := .ref a :: vs) F (hr.mono hj) hb hd (L2N.passAt tk σ) I2 (.cons rfl r) q2
theorem pe_mae0 {pl : Sem Bool} (hX : Sx X P w K mg base) (hr : Room k X.A) (tk : L2N.Takes X W) (he : PE X o ta)
    (ht : eval (.Call (.Attribute o m apos) [] [] pos) X.env = (do
      let ov ← eval o X.env
      standAt apos.atName
      let (f, first) ← holding [ov] (getMethod ov m pl)
      callWith pos f first (backTo pos (starEach [] X.env)) (backToKw pos (keywordEach [] X.env))) := by rfl) :
    PE X (.Call (.Attribute o m apos) [] [] pos) (tME P w K mg base m k W ta tNil) := by
  obtain ⟨rfl, rfl, rfl, rfl, rfl⟩ := hX
  refine ⟨fun pins s σ H Q I h => ?_⟩
  refine PySem.W.methodCall_KW (pl := pl) (thn (he.run pins s σ H _ I h) fun u s1 ⟨xv, H1, I1, rx, a, C, dx, fs, j, ps, dvs, sp, ex, ea, c, l, M, hj, q⟩ => ?_) ht
  subst ex
  obtain rfl : u = Value.ref a := rx
  obtain ⟨f, fd, ds, F, hm, hb, hd⟩ := M.ex
  refine getmeth_ok I1 ea c hm l ?_
  exact PySem.W.callWith_K0 (first := [.ref a]) I1.kIn hm.kp (run_fnSD (us := [.ref a]) (vs := [.ref a]) F (hr.mono hj) hb hd (L2N.passAt tk σ) I1 (.cons rfl .nil) q)
theorem w_mae {σ : L2.St} {H : Hp} {Q : VK} (q : ta σ H fun xv H1 => ∃ a C dx fs j ps dvs sp, xv = .ref a ∧ H1 a = some (.ins C dx fs) ∧ Cls K C ∧ fs.lookup m = none ∧ Mth P w K mg base (CXN P w) C m j ps dvs sp ∧ j ≤ k ∧ t σ H1 fun vs H2 => sp (xv :: (vs ++ dvs)) H2 Q (WE W σ)) : tME P w K mg base m k W ta t σ H Q := q
theorem w_mae1 {H : Hp} {a C dx : Addr} {fs : List (Str × V)} {j : Nat} {ps : List Str} {dvs : List V} {sp : Sp} {R : List V → Sp → Prop} (h : H a = some (.ins C dx fs)) (c : Cls K C) (l : fs.lookup m = none)
    (M : Mth P w K mg base (CXN P w) C m j ps dvs sp) (hj : j ≤ k) (q : R dvs sp) : ∃ a' C dx fs j ps dvs sp, V.ref a = .ref a' ∧ H a' = some (.ins C dx fs) ∧ Cls K C ∧ fs.lookup m = none ∧ Mth P w K mg base (CXN P w) C m j ps dvs sp ∧ j ≤ k ∧ R dvs sp := ⟨a, C, dx, fs, j, ps, dvs, sp, rfl, h, c, l, M, hj, q⟩
/-- isinstance of the error that the suite holds, its class as it comes -/
def rIsX (K : PySem.W.Frag) (c : Value) (d : Option Addr) (a : Addr) : List V → Hp → VK → Prop := fun xs H Q => ∃ D, c = .ref D ∧ d = none ∧ ExcC K D ∧ rIsE K D a xs H Q
theorem kIsX {q : Addr × Obj} {c : Value} {d : Option Addr} (hK : X.K = K) (hq : q ∈ X.pn) (hz : L2N.Zn c d q.2) (hf : ∃ vs, q.2.data = .fields vs) : CallR X (.builtin "isinstance") (rIsX K c d q.1) := by
  intro pins s σ H xs us Q I r h
  obtain ⟨D, rfl, rfl, C, h⟩ := h
  exact kIsP hK hq C hz.zc hf pins s σ H xs us Q I r h
theorem w_isX {D a : Addr} {v : V} {cv : Value} {b : Bool} {H : Hp} {Q : VK} (C : ExcC K D) (hv : ∀ u, RelV v u → u = cv) (hk : PySem.W.kitOne K (.ref D) cv = some b) (h : Q (.bl b) H) : rIsX K (.ref D) none a [.ref a, v] H Q := ⟨D, rfl, rfl, C, w_isE hv hk h⟩
/-- a def that may raise, where nothing is raised -/
theorem calm {f : Addr} {fd : FuncData} {ps : List Str} {sp : Sp} (F : FnOk P w K mg base (CXN P w) k f fd ps sp) : FnOk P w K mg base CX0 k f fd ps (fun vs H Q _ => sp vs H Q E0) :=
  ⟨fun vs H Q E h => F.len _ _ _ _ h, fun A outer s H args us vs Q E hr e0 hb hv h => codeAny_mono (F.run A outer s H args us vs Q E0 hr e0 hb hv h) fun z s' hs => by
    cases z with
    | error e =>
      obtain ⟨a, B, H', cls, d, h⟩ := hs
      exact h.2.2.2.2.2.2.2.elim
    | ok fl => cases fl <;> exact hs⟩
end
end Mn

namespace Mn
open PySem PySem.Spec PyProof.Rows L2 TL
theorem settle_inv {D : TreeD} {m : Nat} {h s' : HS} (e : HS.settle D m h = some s') : h.okB D ∧ ∃ m', m = m' + 1 ∧ ((h.heard = [] ∧ s' = h) ∨ ∃ i pl r h1, h.heard = (i, pl) :: r ∧ HS.hear D { h with heard := r } i pl = some h1 ∧ HS.settle D m' h1 = some s') := by
  cases m with
  | zero => unfold HS.settle at e; cases e
  | succ m =>
    unfold HS.settle at e
    by_cases okb : h.okB D
    · rw [if_neg (fun z => z okb)] at e
      refine ⟨okb, m, rfl, ?_⟩
      cases hh : h.heard with
      | nil =>
        rw [hh] at e
        exact .inl ⟨rfl, (Option.some.inj e).symm⟩
      | cons x r =>
        obtain ⟨i, pl⟩ := x
        rw [hh] at e
        dsimp only at e
        cases h1 : HS.hear D { h with heard := r } i pl with
        | none => rw [h1] at e; cases e
        | some h2 =>
          rw [h1] at e
          exact .inr ⟨i, pl, r, h2, rfl, h1, e⟩
    · rw [if_pos okb] at e
      cases e
section
variable {P : Program} {w : World} {K : PySem.W.Frag} {mg : Str → Option Value} {base : Heap} {C : Cs}
def spSettle (C : Cs) : Sp := fun vs H Q _ => ∃ (A : TA) (a : HA) (D : TreeD) (s : HS) (k : Nat) (s' : HS), vs = [.ref a.h] ∧ HR C A a D s H ∧ D.WF ∧ HS.settle D k s = some s' ∧ ∀ a' H', HR C A a' D s' H' → Fr 0 a H a' H' → Q .non H'
theorem ok_settle {f : Addr} {fd : FuncData} (F : Fun K "settle" "House.settle" s_House_settle f fd) (kh : KH K C) (MH : Mth P w K mg base CX0 C.H "hear" 54 ["self", "at", "planned"] [] (spHear C)) : FnOk P w K mg base CX0 55 f fd ["self"] (spSettle C) := by
  refine F.ok sc_House_settle (fun vs H Q E h => ?_) (fun cdv A outer s H vs Q E hr h => ?_)
  · obtain ⟨A, a, D, s, k, s', rfl, _⟩ := h
    rfl
  obtain ⟨A, a, D, s, k, s', rfl, R, W, hrun, q⟩ := h
  have cH := kh.cH
  refine ⟨_, (pss_one (ps_while PassesOwn.never (pt_cmpR (op_neE hr.units) (kFld (K := K) rfl (pv 0)) (pe_lst pa_nil) (nomark _)) (pss_cons (ps_asg (kBm (K := K) rfl PySem.F.plainAttrs_list PySem.F.slot_list_pop PySem.F.type_list_pop mt_popAt (kFld (K := K) rfl (pv 0)) (pa_cons pe_int pa_nil)) (kTup (K := K) rfl rfl (pgs_cons (pg_name (i := 1) sc_House_settle.nd rfl (Or.inl rfl)) (pgs_cons (pg_name (i := 2) sc_House_settle.nd rfl (Or.inl rfl)) pgs_nil))))
    (pss_one (ps_expr (pe_ma (P := P) (w := w) (K := K) (mg := mg) (base := base) ⟨rfl, rfl, rfl, rfl, rfl⟩ hr (pv 0) (pa_cons (pv 1) (pa_cons (pv 2) pa_nil)))))))), ?_⟩
  walk_at "rd"
  refine ⟨fun m σ H' => ∃ (h : HS) (a' : HA) (y z : Option V), σ = [some (.ref a.h), y, z] ∧ HR C A a' D h H' ∧ Fr 0 a H a' H' ∧ HS.settle D m h = some s', ⟨k, s, a, none, none, rfl, R, Fr.refl, hrun⟩, fun m σ H' hm => ?_⟩
  obtain ⟨h, a', y, z, rfl, R', F', hg⟩ := hm
  obtain ⟨okb, m', rfl, hs⟩ := settle_inv hg
  obtain ⟨hh', ht'⟩ := R'.facts F'.h
  walk_at "rd"
  refine ⟨Nat.zero_le _, fun p hp => ?_⟩
  have R1 := R'.same (same_new hp (.lst []))
  have F1 := F'.trans (Fr.same (same_new hp (.lst [])))
  generalize hH1 : upd H' p (.lst []) = H1 at *
  have hp1 : H1 p = some (.lst []) := by rw [← hH1]; exact upd_same
  obtain ⟨hh1, ht1⟩ := R1.facts F1.h
  refine w_neE R1.hhd hp1 ?_
  walk_at "rd"
  walk_at "if"
  all_goals rename_i c
  · have lk := R1.lk
    rcases hs with ⟨he, _⟩ | ⟨i, pl, r, h1, he, hhe, hrest⟩
    · rw [he] at lk
      rw [List.length_eq_zero_iff.mp lk] at c
      cases c
    obtain ⟨ks, hks⟩ : ∃ ks, a'.ks = ks := ⟨_, rfl⟩
    cases ks with
    | nil =>
      rw [hks, he] at lk
      cases lk
    | cons t0 tr =>
    have hx := okb.he (i, pl) (by rw [he]; exact List.mem_cons_self)
    have hx1 : i < D.n := hx.1
    have hx2 : 0 ≤ D.e i := hx.2
    refine ⟨fun σ H' => ∃ (h : HS) (a' : HA) (y z : Option V), σ = [some (.ref a.h), y, z] ∧ HR C A a' D h H' ∧ Fr 0 a H a' H' ∧ HS.settle D m' h = some s', fun σ' H2 hn => ⟨m', Nat.lt_succ_self _, hn⟩, ?_⟩
    have htup := R1.hk 0 t0 (i, pl) (by rw [hks]; rfl) (by rw [he]; rfl)
    have rt0 : a'.rl t0 = .im := R1.r_ks t0 (by rw [hks]; exact List.mem_cons_self)
    have hlst := R1.hhd
    have R2 := R1.popR he
    have F2 := F1.trans (Fr.popped (n := 0) R1 (o := .lst ((a'.ks.drop 1).map V.ref)))
    have ht2 : upd H1 a'.hd (.lst ((a'.ks.drop 1).map V.ref)) t0 = some (.tup (hrdV (i, pl))) := by
      rw [upd_ne (ne_rl (f := a'.rl) (by rw [R1.r_hd, rt0]; intro z; cases z))]
      exact htup
    have e2 := F2.h
    rw [hks] at R2 F2 ht2 hlst
    walk_at "rd"
    refine ⟨a'.hd, _, 0, 0, V.ref t0, rfl, rfl, hlst, by decide, by decide, ?_, rfl, ?_⟩
    · unfold seqIndex?
      simp
    refine ⟨t0, hrdV (i, pl), rfl, SqT.of ht2, rfl, ?_⟩
    have R2 : HR C A a'.popA D { h with heard := r } (upd H1 a'.hd (.lst (((t0 :: tr).map V.ref).eraseIdx 0))) := R2
    have F2 : Fr 0 a H a'.popA (upd H1 a'.hd (.lst (((t0 :: tr).map V.ref).eraseIdx 0))) := F2
    generalize upd H1 a'.hd (.lst (((t0 :: tr).map V.ref).eraseIdx 0)) = H2 at R2 F2 ⊢
    obtain ⟨hh2, ht2'⟩ := R2.facts e2
    unfold hrdV
    walk_at "rd"
    refine w_ma1 hh2 cH.cl rfl MH (by decide) ?_
    walk_at "rd"
    refine ⟨A, a'.popA, D, { h with heard := r }, i, pl, h1, by rw [e2]; rfl, R2, W, hx1, hx2, hhe, fun a3 H3 R3 F3 => ?_⟩
    walk_at "rd"
    exact ⟨h1, a3, _, _, rfl, R3, F2.trans F3, hrest⟩
  · rcases hs with ⟨he, rfl⟩ | ⟨i, pl, r, h1, he, _, _⟩
    · exact q a' H1 R1 F1
    · have lk := R1.lk
      rw [he] at lk
      cases hks : a'.ks with
      | nil => rw [hks] at lk; cases lk
      | cons x y =>
        rw [hks] at c
        cases c
end
end Mn

namespace Mn
open PySem PySem.Spec PyProof.Rows L2 TL
theorem endW_s {s : Shp} {st : Nat} (hk : s.kind < 3) : endOf (s.kind : Int) s.m (st : Int) = match endW s st with | none => "" | some w => w.s := by
  unfold endOf endW
  by_cases c0 : s.kind = 0
  · rw [if_pos c0, if_pos (by omega)]
  rw [if_neg c0, if_neg (by omega)]
  by_cases c1 : (st : Int) = s.m
  · rw [if_pos c1, if_pos c1]
    by_cases c2 : s.kind = 1
    · rw [if_pos c2, if_pos (by omega)]
      rfl
    · rw [if_neg c2, if_neg (by omega)]
      rfl
  · rw [if_neg c1, if_neg c1]
theorem w_fadd {K : PySem.W.Frag} {ta : TE} {f : Str} {D : Ends} {σ : L2.St} {H : Hp} {j : Int} (q : ta σ H fun x H1 => ∃ a C dx fs i, x = .ref a ∧ H1 a = some (.ins C dx fs) ∧ Cls K C ∧ NoAttr K C f ∧ fs.lookup f = some (.int i) ∧ fs.length < 1000 ∧ D.nx σ (upd H1 a (.ins C dx (putF f (.int (i + j)) fs)))) (mono : ∀ R S : VK, (∀ x H, R x H → S x H) → ta σ H R → ta σ H S) : sFldAug K ta (tC (.int j)) rAdd f D σ H :=
  mono _ _ (fun x H1 h => by
    obtain ⟨a, C, dx, fs, i, rfl, h1, c, n, l, ln, q⟩ := h
    exact ⟨a, C, dx, fs, .int i, rfl, h1, c, n, l, i, j, rfl, rfl, dx, fs, h1, ln, q⟩) q
theorem fld_kind {s : Shp} (hk : s.kind < 3) : fldS s = fieldsOf (s.kind : Int) s.name s.keep s.a s.b s.m := by
  unfold fldS
  rw [if_pos hk]
theorem w_postP2 {K : PySem.W.Frag} {C : Cs} {A : TA} {a : HA} {D : TreeD} {s : HS} {H : Hp} {i : Nat} {n j : Int} (kh : KH K C) (R : HR C A a D s H) (hi : i < D.n) (p : Post) {f : Str} {x : Addr} (hx : a.po i = x) (hl : (postF (a.fa i) (a.wa i) (s.posts i)).lookup f = some (.int n)) (hf : p.falls = (s.posts i).falls) (hw : p.waiting = (s.posts i).waiting) (hput : putF f (.int (n + j)) (postF (a.fa i) (a.wa i) (s.posts i)) = postF (a.fa i) (a.wa i) p) (nf : f ∈ postN) {Rq : Hp → Prop}
    (q : ∀ H', HR C A a D (s.put i p) H' → Fr D.n a H a H' → Rq H') : ∃ a' C dx fs n, V.ref x = .ref a' ∧ H a' = some (.ins C dx fs) ∧ Cls K C ∧ NoAttr K C f ∧ fs.lookup f = some (.int n) ∧ fs.length < 1000 ∧ Rq (upd H a' (.ins C dx (putF f (.int (n + j)) fs))) := by
  subst hx
  refine ⟨_, _, _, _, _, rfl, R.hpo i hi, kh.cP.cl, kh.cP.no _ nf, hl, ltb rfl, ?_⟩
  rw [hput]
  exact q _ (R.post hi hf hw) (Fr.own (R.hpo i hi) (by rw [R.r_po i hi]; intro z; cases z))
section
variable {P : Program} {w : World} {K : PySem.W.Frag} {mg : Str → Option Value} {base : Heap} {C : Cs}
def spStep (C : Cs) : Sp := fun vs H Q _ => ∃ (A : TA) (a : HA) (D : TreeD) (s : HS) (i : Nat), vs = [.ref a.h, .int (i : Int)] ∧ HR C A a D s H ∧ D.WF ∧ i < D.n ∧ (D.sh i).kind < 3 ∧ s.book.length < 16000000 ∧ s.heard.length < 16000000 ∧ ∀ a' H', HR C A a' D (s.step D i) H' → Fr D.n a H a' H' → Q .non H'
theorem ok_step {f : Addr} {fd : FuncData} (F : Fun K "step" "House.step" s_House_step f fd) (kh : KH K C) (kd : KdH P w K mg base C.cls) (ME : Mth P w K mg base CX0 C.H "ease" 4 ["self", "at"] [] (spEase C)) (MO : Mth P w K mg base CX0 C.H "over" 3 ["self", "at", "word"] [] (spOver C)) : FnOk P w K mg base CX0 5 f fd ["self", "at"] (spStep C) := by
  refine F.ok sc_House_step (fun vs H Q E h => ?_) (fun cdv A outer s H vs Q E hr h => ?_)
  · obtain ⟨A, a, D, s, i, rfl, _⟩ := h
    rfl
  obtain ⟨A, a, D, s, i, rfl, R, W, hi, hk, hl, hl2, q⟩ := h
  have cH := kh.cH
  have cT := kh.cT
  obtain ⟨hh, ht⟩ := R.facts rfl
  obtain ⟨p, dx, hp, hp', hs⟩ := R.shAt hi
  have kl := sh_lt W hi
  have cS := kh.kc.cf _ kl
  refine ⟨_, (pss_cons (ps_set (i := 2) sc_House_step.nd rfl (Or.inl rfl) (pe_ix (kIxL (K := K) rfl) (kFld (K := K) rfl (pv 0)) (pv 1) (fun _ _ => rfl)))
    (pss_cons (ps_if (pt_cmpR op_eq (kFld (K := K) rfl (pv 2)) pe_str (nomark _)) (pss_cons (kSFld (K := K) rfl (pv 2) (pe_op op_sub (kFld (K := K) rfl (pv 2)) pe_int))
    (pss_cons (kSFld (K := K) rfl (pv 2) (pe_op op_sub (kFld (K := K) rfl (pv 2)) pe_int))
    (pss_cons (ps_expr (pe_ma (P := P) (w := w) (K := K) (mg := mg) (base := base) ⟨rfl, rfl, rfl, rfl, rfl⟩ hr (pv 0) (pa_cons (pv 1) pa_nil)))
    (pss_one ps_retN)))) pss_nil)
    (pss_cons (ps_set (i := 3) sc_House_step.nd rfl (Or.inl rfl) (pe_ma (P := P) (w := w) (K := K) (mg := mg) (base := base) ⟨rfl, rfl, rfl, rfl, rfl⟩ hr (pe_ix (kIxL (K := K) rfl) (kFld (K := K) rfl (kFld (K := K) rfl (pv 0))) (pv 1) (fun _ _ => rfl)) (pa_cons (kFld (K := K) rfl (pv 2)) pa_nil)))
    (pss_cons (kSFldAug (K := K) rfl (pv 2) pe_int in_add)
    (pss_one (ps_if (pt_cmpR op_ne (pv 3) pe_str (nomark _)) (pss_one (ps_expr (pe_ma (P := P) (w := w) (K := K) (mg := mg) (base := base) ⟨rfl, rfl, rfl, rfl, rfl⟩ hr (pv 0) (pa_cons (pv 1) (pa_cons (pv 3) pa_nil))))) pss_nil)))))), ?_⟩
  walk_at "rd"
  refine w_ixL (SqL.of R.hpl) (at_nat (i := i) rfl (R.poAt hi)) ?_
  walk_at "rd"
  refine w_postR kh R hi rfl rfl (by decide) ?_
  walk_at "rd"
  walk_at "if"
  all_goals rename_i c1
  · have c1 := (ph_told _).mp c1
    walk_at "rd"
    refine w_postR kh R hi rfl rfl (by decide) ?_
    walk_at "rd"
    refine w_postP kh R hi { s.posts i with slow := (s.posts i).slow - 1 } rfl rfl rfl rfl (by decide) fun H1 R1 F1 => ?_
    walk_at "rd"
    refine w_postR kh R1 hi (F1.p i hi) (by rw [put_same]; rfl) (by decide) ?_
    walk_at "rd"
    refine w_postQ kh R1 hi { s.posts i with slow := (s.posts i).slow - 1, grace := (s.posts i).grace - 1 } (F1.p i hi) rfl rfl rfl (by decide) fun H2 R2 F2 => ?_
    walk_at "rd"
    obtain ⟨hh2, ht2⟩ := R2.facts rfl
    refine w_ma1 hh2 cH.cl rfl ME (by decide) ?_
    walk_at "rd"
    refine ⟨A, a, D, _, i, rfl, R2, W, hi, hl, hl2, fun a3 H3 R3 F3 => ?_⟩
    walk_at "rd"
    refine q a3 H3 ?_ ((F1.trans F2).trans F3)
    unfold HS.step
    dsimp only
    rw [if_pos c1]
    exact R3
  · have c1 : ¬ (s.posts i).phase = .told := fun z => c1 ((ph_told _).mpr z)
    walk_at "rd"
    refine w_ixL (v := .ref p) (SqL.of R.tr.hsh) (at_nat (i := i) rfl hp') ?_
    walk_at "rd"
    refine w_ma1 hs cS.cl (fld_no (.inr (.inr (.inl rfl)))) (kd.ends _ hk) (by decide) ?_
    walk_at "rd"
    refine w_postR kh R hi rfl rfl (by decide) ?_
    walk_at "rd"
    refine ⟨p, dx, (D.sh i).name, (D.sh i).keep, (D.sh i).a, (D.sh i).b, (D.sh i).m, _, rfl, by rw [← fld_kind hk]; exact hs, ?_⟩
    walk_at "rd"
    refine w_fadd ?_ (fun R S h => ?_)
    case refine_2 =>
      intro z
      exact ⟨z.choose, z.choose_spec.1, h _ _ z.choose_spec.2⟩
    walk_at "rd"
    refine w_postP2 kh R hi { s.posts i with steps := (s.posts i).steps + 1 } rfl rfl rfl rfl rfl (by decide) fun H1 R1 F1 => ?_
    walk_at "rd"
    rw [endW_s hk]
    have hst : s.step D i = match endW (D.sh i) (s.posts i).steps with | none => s.put i { s.posts i with steps := (s.posts i).steps + 1 } | some w => (s.put i { s.posts i with steps := (s.posts i).steps + 1 }).over D i w := by
      unfold HS.step
      dsimp only
      rw [if_neg c1] <;> cases endW (D.sh i) (s.posts i).steps <;> rfl
    cases hw : endW (D.sh i) (s.posts i).steps with
    | none =>
      rw [hw] at hst
      walk_at "rd"
      exact q a H1 (by rw [hst]; exact R1) F1
    | some x =>
      rw [hw] at hst
      have ne : ¬ V.str x.s = V.str "" := by cases x <;> decide
      walk_at "rd"
      walk_at "if"
      all_goals rename_i cx
      rotate_left
      · exact absurd cx ne
      walk_at "rd"
      obtain ⟨hh1, ht1⟩ := R1.facts rfl
      refine w_ma1 hh1 cH.cl rfl MO (by decide) ?_
      walk_at "rd"
      refine ⟨A, a, D, _, i, x, rfl, R1, W, hi, hl, hl2, fun a2 H2 R2 F2 => ?_⟩
      walk_at "rd"
      exact q a2 H2 (by rw [hst]; exact R2) (F1.trans F2)
end
end Mn

namespace Mn
open PySem PySem.Spec PyProof.Rows L2 TL
theorem turnAt_inv {D : TreeD} {s s1 : HS} {i : Nat} (e : s.turnAt D i = some s1) : s.okB D ∧ (((D.sh i).kind < 3 ∧ (s.posts i).phase ≠ .off ∧ (s.posts i).born < s.clock) ∧ HS.settle D SET (s.step D i) = some s1 ∨ (¬ ((D.sh i).kind < 3 ∧ (s.posts i).phase ≠ .off ∧ (s.posts i).born < s.clock)) ∧ s1 = s) := by
  unfold HS.turnAt at e
  by_cases okb : s.okB D
  · rw [if_neg (fun z => z okb)] at e
    refine ⟨okb, ?_⟩
    by_cases c : (D.sh i).kind < 3 ∧ (s.posts i).phase ≠ .off ∧ (s.posts i).born < s.clock
    · rw [if_pos c] at e
      exact .inl ⟨c, e⟩
    · rw [if_neg c] at e
      exact .inr ⟨c, (Option.some.inj e).symm⟩
  · rw [if_pos okb] at e
    cases e
theorem turnL_inv {D : TreeD} {i : Nat} {r : List Nat} {s s' : HS} (e : turnL' D (i :: r) s = some s') : ∃ s1, s.turnAt D i = some s1 ∧ turnL' D r s1 = some s' := by
  unfold turnL' at e
  cases h : s.turnAt D i with
  | none => rw [h] at e; cases e
  | some s1 => rw [h] at e; exact ⟨s1, rfl, e⟩
section
variable {P : Program} {w : World} {K : PySem.W.Frag} {mg : Str → Option Value} {base : Heap} {C : Cs}
def spTurn (C : Cs) : Sp := fun vs H Q _ => ∃ (A : TA) (a : HA) (D : TreeD) (s s' : HS), vs = [.ref a.h] ∧ HR C A a D s H ∧ D.WF ∧ s.turn D = some s' ∧ ∀ a' H', HR C A a' D s' H' → Fr 0 a H a' H' → Q .non H'
theorem ok_turn {f : Addr} {fd : FuncData} (F : Fun K "turn" "House.turn" s_House_turn f fd) (T : Bt mg) (kh : KH K C) (kd : KdH P w K mg base C.cls) (MS : Mth P w K mg base CX0 C.H "step" 5 ["self", "at"] [] (spStep C)) (ME : Mth P w K mg base CX0 C.H "settle" 55 ["self"] [] (spSettle C)) : FnOk P w K mg base CX0 56 f fd ["self"] (spTurn C) := by
  refine F.ok sc_House_turn (fun vs H Q E h => ?_) (fun cdv A outer s H vs Q E hr h => ?_)
  · obtain ⟨A, a, D, s, s', rfl, _⟩ := h
    rfl
  obtain ⟨A, a, D, s, s', rfl, R, W, hrun, q⟩ := h
  have cH := kh.cH
  have cT := kh.cT
  have cP := kh.cP
  obtain ⟨hh, ht⟩ := R.facts rfl
  have hsz := W.sz
  unfold HS.turn at hrun
  refine ⟨_, (pss_cons (kSFldAug (K := K) rfl (pv 0) pe_int in_add)
    (pss_one (ps_for PassesOwn.never rfl (pi_range1 rfl T.range (pa_cons (pe_callB (kLenL (K := K) rfl) (by rfl) T.len (by decide +kernel) (pa_cons (kFld (K := K) rfl (pv 0)) pa_nil)) pa_nil)) (pg_name (i := 1) sc_House_turn.nd rfl (Or.inl rfl)) (pss_one (ps_if (PW.pt (pw_and (pt_val (pe_ma0 (P := P) (w := w) (K := K) (mg := mg) (base := base) ⟨rfl, rfl, rfl, rfl, rfl⟩ hr (pe_ix (kIxL (K := K) rfl) (kFld (K := K) rfl (kFld (K := K) rfl (pv 0))) (pv 1) (fun _ _ => rfl)))) (pw_and (pt_cmpR op_ne (kFld (K := K) rfl (pe_ix (kIxL (K := K) rfl) (kFld (K := K) rfl (pv 0)) (pv 1) (fun _ _ => rfl))) pe_str (nomark _)) (pw_and1 (pt_cmpR op_lt (kFld (K := K) rfl (pe_ix (kIxL (K := K) rfl) (kFld (K := K) rfl (pv 0)) (pv 1) (fun _ _ => rfl))) (kFld (K := K) rfl (pv 0)) (nomark _)))))) (pss_cons (ps_expr (pe_ma (P := P) (w := w) (K := K) (mg := mg) (base := base) ⟨rfl, rfl, rfl, rfl, rfl⟩ hr (pv 0) (pa_cons (pv 1) pa_nil)))
    (pss_one (ps_expr (pe_ma0 (P := P) (w := w) (K := K) (mg := mg) (base := base) ⟨rfl, rfl, rfl, rfl, rfl⟩ hr (pv 0))))) pss_nil))))), ?_⟩
  walk_at "rd"
  refine w_fadd ?_ (fun R S h => ?_)
  case refine_2 =>
    intro z
    exact ⟨z.choose, z.choose_spec.1, h _ _ z.choose_spec.2⟩
  walk_at "rd"
  refine ⟨_, _, _, _, _, rfl, hh, cH.cl, cH.no _ (by decide), rfl, ltb rfl, ?_⟩
  have R1 : HR C A a D { s with clock := s.clock + 1 } (upd H a.h (.ins C.H a.dxh (putF "clock" (.int ((s.clock : Int) + 1)) [("tree", .ref A.t), ("clock", .int (s.clock : Int)), ("book", .ref a.bk), ("posts", .ref a.pl), ("heard", .ref a.hd)]))) := R.clockR (n := s.clock + 1)
  have F1 : Fr 0 a H a (upd H a.h (.ins C.H a.dxh (putF "clock" (.int ((s.clock : Int) + 1)) [("tree", .ref A.t), ("clock", .int (s.clock : Int)), ("book", .ref a.bk), ("posts", .ref a.pl), ("heard", .ref a.hd)]))) := Fr.own R.hh (by rw [R.r_h]; intro z; cases z)
  generalize upd H a.h (.ins C.H a.dxh (putF "clock" (.int ((s.clock : Int) + 1)) [("tree", .ref A.t), ("clock", .int (s.clock : Int)), ("book", .ref a.bk), ("posts", .ref a.pl), ("heard", .ref a.hd)])) = H1 at R1 F1 ⊢
  generalize ({ s with clock := s.clock + 1 } : HS) = s0 at *
  obtain ⟨hh1, ht1⟩ := R1.facts rfl
  have hpl1 := R1.hpl
  walk_at "rd"
  rw [List.length_map, List.length_range]
  refine w_forR (fun k σ H' => ∃ (h : HS) (a' : HA) (y : Option V), σ = [some (.ref a.h), y] ∧ HR C A a' D h H' ∧ Fr 0 a H a' H' ∧ turnL' D ((List.range D.n).drop k) h = some s') (by omega) (by omega) ⟨s0, a, none, rfl, R1, F1, hrun⟩ (fun k σ H' hk hm => ?_) (fun σ H' hm => ?_)
  · obtain ⟨h, a', y, rfl, R', F', hg⟩ := hm
    have hk : k < D.n := by
      have : k < (D.n : Int).toNat := hk
      omega
    rw [List.drop_eq_getElem_cons (by rw [List.length_range]; exact hk), List.getElem_range] at hg
    obtain ⟨s1, hat, hrest⟩ := turnL_inv hg
    obtain ⟨okb, hcase⟩ := turnAt_inv hat
    have b1 : h.book.length < 10000000 := okb.bk
    have b2 : h.heard.length < 10000000 := okb.hd
    obtain ⟨hh', ht'⟩ := R'.facts F'.h
    obtain ⟨p, dx, hp, hp', hs⟩ := R'.shAt hk
    have kl := sh_lt W hk
    have cS := kh.kc.cf _ kl
    rw [Int.zero_add]
    walk_at "rd"
    refine w_ixL (v := .ref p) (SqL.of R'.tr.hsh) (at_nat (i := k) rfl hp') ?_
    walk_at "rd"
    refine w_ma1 hs cS.cl (fld_no (.inl rfl)) (kd.leaf _ kl) (by decide) ?_
    walk_at "rd"
    refine ⟨p, dx, _, rfl, hs, ?_⟩
    have stay : (¬ ((D.sh k).kind < 3 ∧ (h.posts k).phase ≠ .off ∧ (h.posts k).born < h.clock)) → s1 = h := fun n => by
      rcases hcase with ⟨c, _⟩ | ⟨_, e⟩
      · exact absurd c n
      · exact e
    walk_at "rd"
    walk_at "if"
    all_goals rename_i c1
    rotate_left
    · obtain rfl := stay fun z => c1 z.1
      walk_at "rd"
      exact ⟨_, a', _, rfl, R', F', hrest⟩
    walk_at "rd"
    refine w_ixL (SqL.of R'.hpl) (at_nat (i := k) rfl (R'.poAt hk)) ?_
    refine w_postR kh R' hk rfl rfl (by decide) ?_
    walk_at "rd"
    walk_at "if"
    all_goals rename_i c2
    rotate_left
    · have c2 := (ph_off _).mp c2
      obtain rfl := stay fun z => z.2.1 c2
      walk_at "rd"
      exact ⟨_, a', _, rfl, R', F', hrest⟩
    have c2 : (h.posts k).phase ≠ .off := fun z => c2 ((ph_off _).mpr z)
    walk_at "rd"
    refine w_ixL (SqL.of R'.hpl) (at_nat (i := k) rfl (R'.poAt hk)) ?_
    refine w_postR kh R' hk rfl rfl (by decide) ?_
    walk_at "rd"
    walk_at "if"
    all_goals rename_i c3
    rotate_left
    · obtain rfl := stay fun z => c3 (by have := z.2.2; omega)
      walk_at "rd"
      exact ⟨_, a', _, rfl, R', F', hrest⟩
    rcases hcase with ⟨_, hset⟩ | ⟨n, _⟩
    case inr => exact absurd ⟨c1, c2, by omega⟩ n
    walk_at "rd"
    refine w_ma1 hh' cH.cl rfl MS (by decide) ?_
    walk_at "rd"
    refine ⟨A, a', D, h, k, by rw [F'.h]; rfl, R', W, hk, c1, by omega, by omega, fun a2 H2 R2 F2 => ?_⟩
    have F2 := F'.trans (F2.low (Nat.zero_le _))
    have e2 := F2.h
    obtain ⟨hh2, ht2⟩ := R2.facts e2
    walk_at "rd"
    refine w_ma1 hh2 cH.cl rfl ME (by decide) ?_
    walk_at "rd"
    refine ⟨A, a2, D, h.step D k, SET, s1, by rw [e2]; rfl, R2, W, hset, fun a3 H3 R3 F3 => ?_⟩
    walk_at "rd"
    exact ⟨s1, a3, _, rfl, R3, F2.trans F3, hrest⟩
  · obtain ⟨h, a', y, rfl, R', F', hg⟩ := hm
    rw [List.drop_of_length_le (by rw [List.length_range]; omega)] at hg
    obtain rfl := Option.some.inj hg
    exact q a' H' R' F'
end
end Mn

namespace Mn
open PySem PySem.Spec PyProof.Rows L2 TL
theorem sh_some {D : TreeD} {i : Nat} (hi : i < D.n) : D.shs[i]? = some (D.sh i) := by
  have hi : i < D.shs.length := hi
  unfold TreeD.sh
  rw [List.getD_eq_getElem?_getD, List.getElem?_eq_getElem hi]
  rfl
section
variable {P : Program} {w : World} {K : PySem.W.Frag} {mg : Str → Option Value} {base : Heap} {C : Cs}
def spFind (C : Cs) : Sp := fun vs H Q _ => ∃ (A : TA) (D : TreeD) (i : Nat), vs = [.ref A.t, .str (D.sh i).name] ∧ TRm C.T C.cls A D H ∧ D.WF ∧ i < D.n ∧ Q (.int (i : Int)) H
theorem ok_find {f : Addr} {fd : FuncData} (F : Fun K "find" "Tree.find" s_Tree_find f fd) (kh : KH K C) : FnOk P w K mg base CX0 1 f fd ["self", "name"] (spFind C) := by
  refine F.ok sc_Tree_find (fun vs H Q E h => ?_) (fun cdv A outer s H vs Q E hr h => ?_)
  · obtain ⟨A, D, i, rfl, _⟩ := h
    rfl
  obtain ⟨A, D, i, rfl, R, W, hi, q⟩ := h
  have cT := kh.cT
  have ht := R.ht
  unfold treeF at ht
  have hu := hu_of hr
  refine ⟨_, (pss_one (ps_try_thru (pss_one (ps_set (i := 2) sc_Tree_find.nd rfl (Or.inl rfl) (pe_dget hu (kFld (K := K) rfl (pv 0)) (pv 1) (fun _ _ => rfl)))) (pss_one (ps_ret (pv 2))))), ?_⟩
  refine w_thru ?_
  walk_at "rd"
  refine w_dget2 (k := .inr (D.sh i).name) R.hkn rfl (kvs_at W.nm (i := i) (s := D.sh i) (sh_some hi)) ?_
  walk_at "rd"
  exact q
def spDoing (C : Cs) : Sp := fun vs H Q _ => ∃ (A : TA) (a : HA) (D : TreeD) (s : HS) (i : Nat), vs = [.ref a.h, .str (D.sh i).name] ∧ HR C A a D s H ∧ D.WF ∧ i < D.n ∧ Q (.str (s.posts i).phase.s) H
theorem ok_doing {f : Addr} {fd : FuncData} (F : Fun K "doing" "House.doing" s_House_doing f fd) (kh : KH K C) (MF : Mth P w K mg base CX0 C.T "find" 1 ["self", "name"] [] (spFind C)) : FnOk P w K mg base CX0 2 f fd ["self", "name"] (spDoing C) := by
  refine F.ok sc_House_doing (fun vs H Q E h => ?_) (fun cdv A outer s H vs Q E hr h => ?_)
  · obtain ⟨A, a, D, s, i, rfl, _⟩ := h
    rfl
  obtain ⟨A, a, D, s, i, rfl, R, W, hi, q⟩ := h
  have cH := kh.cH
  have cT := kh.cT
  obtain ⟨hh, ht⟩ := R.facts rfl
  refine ⟨_, (pss_one (ps_ret (kFld (K := K) rfl (pe_ix (kIxL (K := K) rfl) (kFld (K := K) rfl (pv 0)) (pe_ma (P := P) (w := w) (K := K) (mg := mg) (base := base) ⟨rfl, rfl, rfl, rfl, rfl⟩ hr (kFld (K := K) rfl (pv 0)) (pa_cons (pv 1) pa_nil)) (fun _ _ => rfl))))), ?_⟩
  walk_at "rd"
  refine w_ma1 ht cT.cl rfl MF (by decide) ?_
  walk_at "rd"
  refine ⟨A, D, i, rfl, R.tr, W, hi, ?_⟩
  refine w_ixL (SqL.of R.hpl) (at_nat (i := i) rfl (R.poAt hi)) ?_
  refine w_postR kh R hi rfl rfl (by decide) ?_
  exact q
def spStop (C : Cs) (CN : Addr) : Sp := fun vs H Q E => ∃ (A : TA) (a : HA) (D : TreeD) (s : HS), vs = [.ref a.h] ∧ HR C A a D s H ∧ D.WF ∧ 0 < D.n ∧ ((s.posts 0).phase = .off → E (.ref CN) none H) ∧
  ((s.posts 0).phase ≠ .off → ∃ s', s.stopM D = some s' ∧ ∀ a' H', HR C A a' D s' H' → Fr 0 a H a' H' → Q .non H')
theorem ok_stop {CN f : Addr} {fd : FuncData} (F : Fun K "stop" "House.stop" s_House_stop f fd) (kh : KH K C) (e_NotOn : ErrK K mg "NotOn" CN) (MT : Mth P w K mg base CX0 C.H "tell" (13 + FUEL) ["self", "at"] [] (spTell C FUEL))
    (ME : Mth P w K mg base CX0 C.H "settle" 55 ["self"] [] (spSettle C)) : FnOk P w K mg base (CXN P w) 56 f fd ["self"] (spStop C CN) := by
  refine okN F sc_House_stop (fun vs H Q E h => ?_) (fun cdv A outer s H vs Q E hr h => ?_)
  · obtain ⟨A, a, D, s, rfl, _⟩ := h
    rfl
  obtain ⟨A, a, D, s, rfl, R, W, hi, e1, q⟩ := h
  have cH := kh.cH
  have cT := kh.cT
  obtain ⟨hh, ht⟩ := R.facts rfl
  refine ⟨_, (pss_cons (ps_if (pt_cmpR op_eq (kFld (K := K) rfl (pe_ix (kIxL (K := K) rfl) (kFld (K := K) rfl (pv 0)) pe_int (fun _ _ => rfl))) pe_str (nomark _)) (pss_one (L2N.ps_raise rfl (L2N.takes_of rfl rfl rfl rfl) (L2N.pmk_own PySem.F.excBase_ValueError e_NotOn.xf e_NotOn.g e_NotOn.k (raises_own e_NotOn.b e_NotOn.t) rfl))) pss_nil)
    (pss_one (ps_if (pt_not (pt_val (kFld (K := K) rfl (pe_ix (kIxL (K := K) rfl) (kFld (K := K) rfl (pv 0)) pe_int (fun _ _ => rfl))))) (pss_cons (ps_expr (pe_ma (P := P) (w := w) (K := K) (mg := mg) (base := base) ⟨rfl, rfl, rfl, rfl, rfl⟩ hr (pv 0) (pa_cons pe_int pa_nil)))
    (pss_one (ps_expr (pe_ma0 (P := P) (w := w) (K := K) (mg := mg) (base := base) ⟨rfl, rfl, rfl, rfl, rfl⟩ hr (pv 0))))) pss_nil))), ?_⟩
  walk_at "rd"
  refine w_ixL (SqL.of R.hpl) (at_nat (i := 0) rfl (R.poAt hi)) ?_
  refine w_postR kh R hi rfl rfl (by decide) ?_
  walk_at "rd"
  walk_at "if"
  all_goals rename_i c1
  · walk_at "rd"
    exact e1 ((ph_off _).mp c1)
  obtain ⟨s', e, q⟩ := q (fun z => c1 ((ph_off _).mpr z))
  walk_at "rd"
  refine w_ixL (SqL.of R.hpl) (at_nat (i := 0) rfl (R.poAt hi)) ?_
  refine w_postR kh R hi rfl rfl (by decide) ?_
  unfold HS.stopM at e
  walk_at "rd"
  walk_at "if"
  all_goals rename_i c2
  · rw [if_neg (by cases z : (s.posts 0).planned <;> simp_all)] at e
    obtain ⟨s1, er, es⟩ := Option.bind_eq_some_iff.mp e
    walk_at "rd"
    refine w_ma1 hh cH.cl rfl MT (by decide) ?_
    walk_at "rd"
    refine ⟨A, a, D, s, 0, s1, rfl, R, W, hi, er, fun a2 H2 R2 F2 => ?_⟩
    have F2 := F2.low (Nat.zero_le _)
    have h2 := F2.h
    obtain ⟨hh2, ht2⟩ := R2.facts h2
    walk_at "rd"
    refine w_ma1 hh2 cH.cl rfl ME (by decide) ?_
    walk_at "rd"
    refine ⟨A, a2, D, s1, SET, s', by rw [h2]; rfl, R2, W, es, fun a3 H3 R3 F3 => ?_⟩
    walk_at "rd"
    exact q a3 H3 R3 (F2.trans F3)
  · rw [if_pos (by cases z : (s.posts 0).planned <;> simp_all)] at e
    obtain rfl := Option.some.inj e
    walk_at "rd"
    exact q a H R Fr.refl
end
end Mn

namespace Mn
open PySem PySem.Spec PyProof.Rows L2 TL
/-! ### the house is built; who is on; the book's rows -/
def HS.ons (D : TreeD) (s : HS) (k : Nat) : List Str := ((List.range k).filter fun i => decide ((s.posts i).phase ≠ .off)).map fun i => (D.sh i).name
theorem ons_succ {D : TreeD} {s : HS} {k : Nat} : s.ons D (k + 1) = s.ons D k ++ (if (s.posts k).phase ≠ .off then [(D.sh k).name] else []) := by
  unfold HS.ons
  rw [List.range_succ, List.filter_append, List.map_append]
  by_cases c : (s.posts k).phase = .off
  · rw [if_neg (fun z => z c)]
    simp [c]
  · rw [if_pos c]
    simp [c]
theorem ons_len {D : TreeD} {s : HS} {k : Nat} : (s.ons D k).length ≤ k := by
  unfold HS.ons
  rw [List.length_map]
  refine Nat.le_trans (List.length_filter_le _ _) ?_
  rw [List.length_range]
  exact Nat.le_refl _
/-- posts that are made, one by one -/
structure PV (C : Cs) (rl0 : Addr → Role) (H1 : Hp) (c : Addr) (k : Nat) (rl : Addr → Role) (po pdx fa wa : Nat → Addr) (H' : Hp) : Prop where
  sm : Same H1 H'
  ls : H' c = some (.lst ((List.range k).map fun i => V.ref (po i)))
  ho : ∀ i, i < k → H' (po i) = some (.ins C.P (pdx i) (postF (fa i) (wa i) {}))
  hf : ∀ i, i < k → H' (fa i) = some (.lst [])
  hw : ∀ i, i < k → H' (wa i) = some (.lst [])
  r0 : ∀ b, H1 b ≠ none → rl b = rl0 b
  rc : rl c = .pl
  rp : ∀ i, i < k → rl (po i) = .po i
  rf : ∀ i, i < k → rl (fa i) = .fa i
  rw : ∀ i, i < k → rl (wa i) = .wa i
  fr : ∀ b, H' b = none → rl b = .out
theorem PV.zero {C : Cs} {rl0 : Addr → Role} {H1 : Hp} {c : Addr} (hc : H1 c = none) (fr : ∀ b, H1 b = none → rl0 b = .out) : PV C rl0 H1 c 0 (fun b => if b = c then .pl else rl0 b) (fun _ => c) (fun _ => c) (fun _ => c) (fun _ => c) (upd H1 c (.lst [])) :=
  ⟨same_new hc _, upd_same, fun i h => absurd h (Nat.not_lt_zero i), fun i h => absurd h (Nat.not_lt_zero i), fun i h => absurd h (Nat.not_lt_zero i), fun b h => by rw [if_neg (fun e => h (by rw [e]; exact hc))], if_pos rfl, fun i h => absurd h (Nat.not_lt_zero i), fun i h => absurd h (Nat.not_lt_zero i), fun i h => absurd h (Nat.not_lt_zero i), fun b h => by
    have e : b ≠ c := fun e => by rw [e, upd_same] at h; cases h
    show (if b = c then _ else _) = _
    rw [if_neg e]
    exact fr b (by rw [upd_ne e] at h; exact h)⟩
theorem PV.succ {C : Cs} {rl0 : Addr → Role} {H1 : Hp} {c : Addr} {k : Nat} {rl : Addr → Role} {po pdx fa wa : Nat → Addr} {H2 H3 : Hp} {x dx f g : Addr} {acc : List V} (hc : H1 c = none) (V0 : PV C rl0 H1 c k rl po pdx fa wa H2) (sm : Same H2 H3) (nx : H2 x = none) (nf : H2 f = none) (ng : H2 g = none) (fg : f ≠ g)
    (hx : H3 x = some (.ins C.P dx (postF f g {}))) (hf : H3 f = some (.lst [])) (hg : H3 g = some (.lst [])) (ha : H3 c = some (.lst acc)) :
    ∃ rl po pdx fa wa, PV C rl0 H1 c (k + 1) rl po pdx fa wa (upd H3 c (.lst (acc ++ [V.ref x]))) := by
  have n1 : f ≠ x := fun e => by rw [e, hx] at hf; cases hf
  have n2 : g ≠ x := fun e => by rw [e, hx] at hg; cases hg
  have cx : c ≠ x := neN nx V0.ls
  have cf : c ≠ f := neN nf V0.ls
  have cg : c ≠ g := neN ng V0.ls
  have ox := V0.fr x nx
  have of_ := V0.fr f nf
  have og := V0.fr g ng
  have hacc : acc = (List.range k).map fun i => V.ref (po i) := by
    have := sm _ _ V0.ls
    rw [ha] at this
    injection this with this
    injection this
  have kp : ∀ b u, rl b ≠ .pl → H2 b = some u → upd H3 c (.lst (acc ++ [V.ref x])) b = some u := fun b u hb hu => by
    rw [upd_ne (ne_rl (f := rl) (by rw [V0.rc]; exact hb))]
    exact sm _ _ hu
  have r3 : ∀ b r, rl b = r → r ≠ .out → (if b = x then Role.po k else if b = f then Role.fa k else if b = g then Role.wa k else rl b) = r := fun b r hb hr => rl_n3 hb ox of_ og hr
  refine ⟨fun b => if b = x then .po k else if b = f then .fa k else if b = g then .wa k else rl b, fun j => if j = k then x else po j, fun j => if j = k then dx else pdx j, fun j => if j = k then f else fa j, fun j => if j = k then g else wa j, ?_⟩
  refine ⟨fun b u hb => ?_, ?_, fun j hj => ?_, fun j hj => ?_, fun j hj => ?_, fun b hb => ?_, r3 _ _ V0.rc (by intro z; cases z), fun j hj => ?_, fun j hj => ?_, fun j hj => ?_, fun b hb => ?_⟩
  · rw [upd_ne (neN hc hb)]
    exact sm _ _ (V0.sm _ _ hb)
  · rw [upd_same, hacc, List.range_succ, List.map_append]
    congr 3
    · refine List.map_congr_left fun j hj => ?_
      have := List.mem_range.mp hj
      rw [if_neg (by omega)]
    · simp
  · by_cases e : j = k
    · simp only [if_pos e]
      rw [upd_ne cx.symm]
      exact hx
    · simp only [if_neg e]
      have hj : j < k := by omega
      exact kp _ _ (by rw [V0.rp j hj]; intro z; cases z) (V0.ho j hj)
  · by_cases e : j = k
    · simp only [if_pos e]
      rw [upd_ne cf.symm]
      exact hf
    · simp only [if_neg e]
      have hj : j < k := by omega
      exact kp _ _ (by rw [V0.rf j hj]; intro z; cases z) (V0.hf j hj)
  · by_cases e : j = k
    · simp only [if_pos e]
      rw [upd_ne cg.symm]
      exact hg
    · simp only [if_neg e]
      have hj : j < k := by omega
      exact kp _ _ (by rw [V0.rw j hj]; intro z; cases z) (V0.hw j hj)
  · obtain ⟨u, hu⟩ := Option.ne_none_iff_exists'.mp hb
    have h2 := V0.sm _ _ hu
    show (if b = x then Role.po k else if b = f then Role.fa k else if b = g then Role.wa k else rl b) = rl0 b
    rw [if_neg (neN nx h2), if_neg (neN nf h2), if_neg (neN ng h2)]
    exact V0.r0 b hb
  · show (if (if j = k then x else po j) = x then Role.po k else if (if j = k then x else po j) = f then Role.fa k else if (if j = k then x else po j) = g then Role.wa k else rl (if j = k then x else po j)) = .po j
    by_cases e : j = k
    · simp only [if_pos e]
      rw [if_pos trivial, e]
    · simp only [if_neg e]
      exact r3 _ _ (V0.rp j (by omega)) (by intro z; cases z)
  · show (if (if j = k then f else fa j) = x then Role.po k else if (if j = k then f else fa j) = f then Role.fa k else if (if j = k then f else fa j) = g then Role.wa k else rl (if j = k then f else fa j)) = .fa j
    by_cases e : j = k
    · simp only [if_pos e]
      rw [if_neg n1, if_pos trivial, e]
    · simp only [if_neg e]
      exact r3 _ _ (V0.rf j (by omega)) (by intro z; cases z)
  · show (if (if j = k then g else wa j) = x then Role.po k else if (if j = k then g else wa j) = f then Role.fa k else if (if j = k then g else wa j) = g then Role.wa k else rl (if j = k then g else wa j)) = .wa j
    by_cases e : j = k
    · simp only [if_pos e]
      rw [if_neg n2, if_neg fg.symm, if_pos trivial, e]
    · simp only [if_neg e]
      exact r3 _ _ (V0.rw j (by omega)) (by intro z; cases z)
  · have h3 := upd_none ha hb
    have h2 := same_none sm h3
    show (if b = x then Role.po k else if b = f then Role.fa k else if b = g then Role.wa k else rl b) = .out
    rw [if_neg (fun e => by rw [e, hx] at h3; cases h3), if_neg (fun e => by rw [e, hf] at h3; cases h3), if_neg (fun e => by rw [e, hg] at h3; cases h3)]
    exact V0.fr b h2
section
variable {P : Program} {w : World} {K : PySem.W.Frag} {mg : Str → Option Value} {base : Heap} {C : Cs}
def spHOn (C : Cs) : Sp := fun vs H Q _ => ∃ (A : TA) (a : HA) (D : TreeD) (s : HS), vs = [.ref a.h] ∧ HR C A a D s H ∧ D.WF ∧ ∀ p H', H p = none → Same H H' → H' p = some (.lst ((s.ons D D.n).map V.str)) → Q (.ref p) H'
theorem ok_hon {f : Addr} {fd : FuncData} (F : Fun K "on" "House.on" s_House_on f fd) (T : Bt mg) (kh : KH K C) : FnOk P w K mg base CX0 1 f fd ["self"] (spHOn C) := by
  refine F.ok sc_House_on (fun vs H Q E h => ?_) (fun cdv A outer s H vs Q E hr h => ?_)
  · obtain ⟨A, a, D, s, rfl, _⟩ := h
    rfl
  obtain ⟨A, a, D, s, rfl, R, W, q⟩ := h
  have cH := kh.cH
  have cT := kh.cT
  have hsz := W.sz
  refine ⟨_, (pss_cons (ps_set (i := 1) sc_House_on.nd rfl (Or.inl rfl) (pe_lst pa_nil))
    (pss_cons (ps_for PassesOwn.never rfl (pi_range1 rfl T.range (pa_cons (pe_callB (kLenL (K := K) rfl) (by rfl) T.len (by decide +kernel) (pa_cons (kFld (K := K) rfl (pv 0)) pa_nil)) pa_nil)) (pg_name (i := 2) sc_House_on.nd rfl (Or.inl rfl)) (pss_one (ps_if (pt_cmpR op_ne (kFld (K := K) rfl (pe_ix (kIxL (K := K) rfl) (kFld (K := K) rfl (pv 0)) (pv 2) (fun _ _ => rfl))) pe_str (nomark _)) (pss_one (ps_expr (kBm (K := K) rfl PySem.F.plainAttrs_list PySem.F.slot_list_append PySem.F.type_list_append mt_append (pv 1) (pa_cons (kFld (K := K) rfl (pe_ix (kIxL (K := K) rfl) (kFld (K := K) rfl (kFld (K := K) rfl (pv 0))) (pv 2) (fun _ _ => rfl))) pa_nil)))) pss_nil)))
    (pss_one (ps_ret (pv 1))))), ?_⟩
  walk_at "rd"
  refine ⟨Nat.zero_le _, fun p hp => ?_⟩
  have R1 := R.same (same_new hp (.lst []))
  have e1 : upd H p (.lst []) p = some (.lst []) := upd_same
  have s1 := same_new hp (.lst [])
  generalize upd H p (.lst []) = H1 at R1 e1 s1 ⊢
  obtain ⟨hh1, ht1⟩ := R1.facts rfl
  have hpl1 := R1.hpl
  walk_at "rd"
  rw [List.length_map, List.length_range]
  refine w_forR (fun k σ H' => ∃ (y : Option V), σ = [some (.ref a.h), some (.ref p), y] ∧ Same H H' ∧ H' p = some (.lst ((s.ons D k).map V.str))) (by omega) (by omega) ⟨none, rfl, s1, e1⟩ (fun k σ H' hk hm => ?_) (fun σ H' hm => ?_)
  · obtain ⟨y, rfl, s', hp'⟩ := hm
    have hk : k < D.n := by
      have : k < (D.n : Int).toNat := hk
      omega
    have R' := R.same s'
    obtain ⟨hh', ht'⟩ := R'.facts rfl
    obtain ⟨r, dx, hr, hr', hs⟩ := R'.shAt hk
    have kl := sh_lt W hk
    have cS := kh.kc.cf _ kl
    rw [Int.zero_add]
    walk_at "rd"
    refine w_ixL (SqL.of R'.hpl) (at_nat (i := k) rfl (R'.poAt hk)) ?_
    refine w_postR kh R' hk rfl rfl (by decide) ?_
    walk_at "rd"
    walk_at "if"
    all_goals rename_i c
    · have c : (s.posts k).phase ≠ .off := fun z => c ((ph_off _).mpr z)
      walk_at "rd"
      refine w_ixL (v := .ref r) (SqL.of R'.tr.hsh) (at_nat (i := k) rfl hr') ?_
      refine w_fld1 hs cS.cl (cS.no _ (attr_name _)) (fld_name _) ?_
      walk_at "rd"
      have l := ons_len (D := D) (s := s) (k := k)
      have z := PySem.sizeLine_eq
      refine w_app hp' (by rw [List.length_map]; omega) ?_
      walk_at "rd"
      refine ⟨_, rfl, same_mut s' hp, ?_⟩
      rw [upd_same, ons_succ, if_pos c, List.map_append]
      rfl
    · have c := (ph_off _).mp c
      walk_at "rd"
      refine ⟨_, rfl, s', ?_⟩
      rw [ons_succ, if_neg (fun z => z c), List.append_nil]
      exact hp'
  · obtain ⟨y, rfl, s', hp'⟩ := hm
    walk_at "rd"
    exact q p H' hp s' hp'
def spHRows (C : Cs) : Sp := fun vs H Q _ => ∃ (A : TA) (a : HA) (D : TreeD) (s : HS), vs = [.ref a.h] ∧ HR C A a D s H ∧ ∀ u, H u = none → Q (.ref u) (upd H u (.lst (a.ts.map V.ref)))
theorem ok_hrows {f : Addr} {fd : FuncData} (F : Fun K "rows" "House.rows" s_House_rows f fd) (kh : KH K C) (MR : Mth P w K mg base CX0 C.B "rows" 1 ["self"] [] (spRows C)) : FnOk P w K mg base CX0 2 f fd ["self"] (spHRows C) := by
  refine F.ok sc_House_rows (fun vs H Q E h => ?_) (fun cdv A outer s H vs Q E hr h => ?_)
  · obtain ⟨A, a, D, s, rfl, _⟩ := h
    rfl
  obtain ⟨A, a, D, s, rfl, R, q⟩ := h
  have cH := kh.cH
  obtain ⟨hh, ht⟩ := R.facts rfl
  refine ⟨_, (pss_one (ps_ret (pe_ma0 (P := P) (w := w) (K := K) (mg := mg) (base := base) ⟨rfl, rfl, rfl, rfl, rfl⟩ hr (kFld (K := K) rfl (pv 0))))), ?_⟩
  walk_at "rd"
  refine w_ma1 R.hb kh.cB.cl rfl MR (by decide) ?_
  walk_at "rd"
  exact ⟨a.bk, a.dxb, a.en, _, rfl, R.hb, R.he, fun u hu => q u hu⟩
end
end Mn

namespace Mn
open PySem PySem.Spec PyProof.Rows L2 TL
theorem built_le (D : TreeD) : (HS.built D).book.length = (D.sub 0).length := by
  unfold HS.built HS.begin
  rw [fresh_book]
  show 0 + _ = _
  omega
section
variable {P : Program} {w : World} {K : PySem.W.Frag} {mg : Str → Option Value} {base : Heap} {C : Cs}
theorem tr_some {A : TA} {D : TreeD} {H : Hp} (R : TRm C.T C.cls A D H) : ∀ b ∈ A.all, H b ≠ none := by
  intro b hb
  have f0 : A.foot = A.t :: A.sh :: A.el :: A.yg :: A.kn :: A.ys := rfl
  unfold TA.all at hb
  rw [f0] at hb
  rcases List.mem_append.mp hb with hb | hb
  · simp only [List.mem_cons] at hb
    rcases hb with rfl | rfl | rfl | rfl | rfl | hb
    · rw [R.ht]; intro z; cases z
    · rw [R.hsh]; intro z; cases z
    · rw [R.hel]; intro z; cases z
    · rw [R.hyg]; intro z; cases z
    · rw [R.hkn]; intro z; cases z
    · obtain ⟨i, hi, e⟩ := List.getElem_of_mem hb
      rw [R.hys i b (by rw [List.getElem?_eq_getElem hi, e])]
      intro z; cases z
  · obtain ⟨i, hi, e⟩ := List.getElem_of_mem hb
    have h := R.hps i b (by rw [List.getElem?_eq_getElem hi, e])
    rw [h.choose_spec]
    intro z; cases z
def spHInit (C : Cs) : Sp := fun vs H Q _ => ∃ (p dx : Addr) (A : TA) (D : TreeD), vs = [.ref p, .ref A.t] ∧ H p = some (.ins C.H dx []) ∧ TRm C.T C.cls A D H ∧ D.WF ∧ 0 < D.n ∧ (∀ b ∈ A.all, b ≠ p) ∧
  ∀ a H', a.h = p → HR C A a D (HS.built D) H' → (∀ b o, H b = some o → b ≠ p → b ∉ A.all → a.rl b = .out ∧ H' b = some o) → Q .non H'
theorem ok_House_init {f : Addr} {fd : FuncData} (F : Fun K "__init__" "House.__init__" s_House_init f fd) (kh : KH K C) (MP : Mak P w K mg base CX0 "Post" C.P 1 ["self"] [] (spPost C)) (MB : Mak P w K mg base CX0 "Book" C.B 1 ["self"] [] (spBInit C)) (MG : Mth P w K mg base CX0 C.H "begin" 12 ["self", "at"] [] (spBegin C 9)) : FnOk P w K mg base CX0 13 f fd ["self", "tree"] (spHInit C) := by
  refine F.ok sc_House_init (fun vs H Q E h => ?_) (fun cdv A outer s H vs Q E hr h => ?_)
  · obtain ⟨p, dx, A, D, rfl, _⟩ := h
    rfl
  obtain ⟨p, dx, A, D, rfl, hp, R, W, hn, hA, q⟩ := h
  have cH := kh.cH
  have cT := kh.cT
  have cP := kh.cP
  refine ⟨_, (pss_cons (kSFld (K := K) rfl (pv 0) (pv 1))
    (pss_cons (kSFld (K := K) rfl (pv 0) pe_int)
    (pss_cons (kSFld (K := K) rfl (pv 0) (pe_mka0 (P := P) (w := w) (K := K) (mg := mg) (base := base) ⟨rfl, rfl, rfl, rfl, rfl⟩ hr rfl))
    (pss_cons (kSFld (K := K) rfl (pv 0) (pe_lc (own := [("shape", 2)]) (g := gName 2) (by rfl) sc_House_init.nd (kPiL (K := K) rfl (kFld (K := K) rfl (pv 1))) (blkOk_by (own := [("shape", 2)]) (N := ["self", "tree", "shape"]) (sc := defScope s_House_init) (by decide +kernel)) (fun _ _ _ _ _ => pg_name (i := 2) sc_House_init.nd rfl (Or.inl rfl)) (fun _ _ _ _ _ => pts_nil) (fun _ _ _ _ _ => by exact (pe_mka0 (P := P) (w := w) (K := K) (mg := mg) (base := base) ⟨rfl, rfl, rfl, rfl, rfl⟩ hr rfl))))
    (pss_cons (kSFld (K := K) rfl (pv 0) (pe_lst pa_nil))
    (pss_one (ps_expr (pe_ma (P := P) (w := w) (K := K) (mg := mg) (base := base) ⟨rfl, rfl, rfl, rfl, rfl⟩ hr (pv 0) (pa_cons pe_int pa_nil))))))))), ?_⟩
  walk_at "rd"
  have p1 : upd (upd H p (.ins C.H dx (putF "tree" (.ref A.t) []))) p (.ins C.H dx (putF "clock" (.int 0) (putF "tree" (.ref A.t) []))) p = some (.ins C.H dx [("tree", .ref A.t), ("clock", .int 0)]) := upd_same
  have o1 : ∀ b u, b ≠ p → H b = some u → upd (upd H p (.ins C.H dx (putF "tree" (.ref A.t) []))) p (.ins C.H dx (putF "clock" (.int 0) (putF "tree" (.ref A.t) []))) b = some u := fun b u hb hu => by
    rw [upd_ne hb, upd_ne hb]
    exact hu
  have m1 : ∀ b, upd (upd H p (.ins C.H dx (putF "tree" (.ref A.t) []))) p (.ins C.H dx (putF "clock" (.int 0) (putF "tree" (.ref A.t) []))) b = none → H b = none := fun b h => updN (updN h)
  generalize upd (upd H p (.ins C.H dx (putF "tree" (.ref A.t) []))) p (.ins C.H dx (putF "clock" (.int 0) (putF "tree" (.ref A.t) []))) = H1 at p1 o1 m1 ⊢
  refine w_mka MB (by decide) ?_
  walk_at "rd"
  intro bk dxb hbk hdx ndx
  refine ⟨bk, dxb, rfl, upd_same, fun en H2 out hb2 he2 ne => ⟨rfl, ?_⟩⟩
  have ne := updN (updN ne)
  have s2 : Same H1 H2 := fun b u hb => out b u (by rw [List.mem_singleton]; exact neN hbk hb) (by rw [upd_ne (neN hbk hb), upd_ne (neN hdx hb)]; exact hb)
  have p2 := s2 _ _ p1
  walk_at "rd"
  have n_bp : bk ≠ p := (neN hbk p1).symm
  have n_ep : en ≠ p := (neN ne p1).symm
  have n_eb : en ≠ bk := fun e => by rw [e, hb2] at he2; cases he2
  have p3 : upd H2 p (.ins C.H dx (putF "book" (.ref bk) [("tree", .ref A.t), ("clock", .int 0)])) p = some (.ins C.H dx [("tree", .ref A.t), ("clock", .int 0), ("book", .ref bk)]) := upd_same
  have o3 : ∀ b u, b ≠ p → H2 b = some u → upd H2 p (.ins C.H dx (putF "book" (.ref bk) [("tree", .ref A.t), ("clock", .int 0)])) b = some u := fun b u hb hu => by
    rw [upd_ne hb]
    exact hu
  have m3 : ∀ b, upd H2 p (.ins C.H dx (putF "book" (.ref bk) [("tree", .ref A.t), ("clock", .int 0)])) b = none → H2 b = none := fun b h => updN h
  generalize upd H2 p (.ins C.H dx (putF "book" (.ref bk) [("tree", .ref A.t), ("clock", .int 0)])) = H3 at p3 o3 m3 ⊢
  have o03 : ∀ b u, b ≠ p → H b = some u → H3 b = some u := fun b u hb hu => o3 b u hb (s2 _ _ (o1 b u hb hu))
  have b3 := o3 _ _ n_bp hb2
  have e3 := o3 _ _ n_ep he2
  have R3 : TRm C.T C.cls A D H3 := { R.toTR.keep (fun b u hb hu => o03 b u (hA b hb) hu) with nd := R.nd }
  have ht3 := R3.ht
  unfold treeF at ht3
  have hsh3 := R3.hsh
  have lps := R3.lps
  have hbk0 : H bk = none := m1 _ hbk
  have hen0 : H en = none := m1 _ ne
  obtain ⟨rl0, hrl0⟩ : ∃ rl0 : Addr → Role, rl0 = fun b => if b = bk then .im else if b = en then .en else if b = p then .h else if b ∈ A.all then .tr else .out := ⟨_, rfl⟩
  have fr0 : ∀ b, H3 b = none → rl0 b = .out := fun b hb => by
    rw [hrl0]
    show (if b = bk then Role.im else if b = en then .en else if b = p then .h else if b ∈ A.all then .tr else .out) = .out
    rw [if_neg (fun e => by rw [e, b3] at hb; cases hb), if_neg (fun e => by rw [e, e3] at hb; cases hb), if_neg (fun e => by rw [e, p3] at hb; cases hb), if_neg (fun e => tr_some R3 b e hb)]
  walk_at "rd"
  refine w_lcL (xs := A.ps.map V.ref) (fun c k H' => ∃ rl po pdx fa wa, PV C rl0 H3 c k rl po pdx fa wa H') (SqL.of hsh3) (fun c hc => ⟨_, _, _, _, _, PV.zero hc fr0⟩) (fun c k H' hc hk hm => ?_) (fun c k x H' hc hx hm => ?_) (fun c H4 hc hm => ?_)
  · obtain ⟨rl, po, pdx, fa, wa, V0⟩ := hm
    exact SqL.of (V0.sm _ _ hsh3)
  · obtain ⟨rl, po, pdx, fa, wa, V0⟩ := hm
    have hk : k < D.n := by
      have := (List.getElem?_eq_some_iff.mp hx).choose
      rw [List.length_map, lps] at this
      exact this
    have hsz := W.sz
    walk_at "rd"
    refine w_mka MP (by decide) ?_
    walk_at "rd"
    intro y dy hy hdy ndy
    refine ⟨y, dy, rfl, upd_same, fun f1 g1 H5 out5 hy5 hf5 hg5 nfg fn gn => ⟨rfl, ?_⟩⟩
    have s5 : Same H' H5 := fun b u hb => out5 b u (by rw [List.mem_singleton]; exact neN hy hb) (by rw [upd_ne (neN hy hb), upd_ne (neN hdy hb)]; exact hb)
    have fn := updN (updN fn)
    have gn := updN (updN gn)
    have hc5 := s5 _ _ V0.ls
    have z := PySem.sizeLine_eq
    exact ⟨_, hc5, by rw [List.length_map, List.length_range]; omega, PV.succ hc V0 s5 hy fn gn nfg hy5 hf5 hg5 hc5⟩
  obtain ⟨rl, po, pdx, fa, wa, V0⟩ := hm
  rw [List.length_map, lps] at V0
  have p4 := V0.sm _ _ p3
  walk_at "rd"
  refine ⟨Nat.zero_le _, fun hd hhd => ?_⟩
  have hhd4 : H4 hd = none := updN hhd
  have n_hp : hd ≠ p := (neN hhd4 p4).symm
  walk_at "rd"
  have p6 : upd (upd (upd H4 p (.ins C.H dx (putF "posts" (.ref c) [("tree", .ref A.t), ("clock", .int 0), ("book", .ref bk)]))) hd (.lst [])) p (.ins C.H dx (putF "heard" (.ref hd) (putF "posts" (.ref c) [("tree", .ref A.t), ("clock", .int 0), ("book", .ref bk)]))) p = some (.ins C.H dx [("tree", .ref A.t), ("clock", .int 0), ("book", .ref bk), ("posts", .ref c), ("heard", .ref hd)]) := upd_same
  have o6 : ∀ b u, b ≠ p → H4 b = some u → upd (upd (upd H4 p (.ins C.H dx (putF "posts" (.ref c) [("tree", .ref A.t), ("clock", .int 0), ("book", .ref bk)]))) hd (.lst [])) p (.ins C.H dx (putF "heard" (.ref hd) (putF "posts" (.ref c) [("tree", .ref A.t), ("clock", .int 0), ("book", .ref bk)]))) b = some u := fun b u hb hu => by
    rw [upd_ne hb, upd_ne (neN hhd4 hu), upd_ne hb]
    exact hu
  have d6 : upd (upd (upd H4 p (.ins C.H dx (putF "posts" (.ref c) [("tree", .ref A.t), ("clock", .int 0), ("book", .ref bk)]))) hd (.lst [])) p (.ins C.H dx (putF "heard" (.ref hd) (putF "posts" (.ref c) [("tree", .ref A.t), ("clock", .int 0), ("book", .ref bk)]))) hd = some (.lst []) := by
    rw [upd_ne n_hp, upd_same]
  have f6 : ∀ b, upd (upd (upd H4 p (.ins C.H dx (putF "posts" (.ref c) [("tree", .ref A.t), ("clock", .int 0), ("book", .ref bk)]))) hd (.lst [])) p (.ins C.H dx (putF "heard" (.ref hd) (putF "posts" (.ref c) [("tree", .ref A.t), ("clock", .int 0), ("book", .ref bk)]))) b = none → H4 b = none := fun b h => updN (updN (updN h))
  generalize upd (upd (upd H4 p (.ins C.H dx (putF "posts" (.ref c) [("tree", .ref A.t), ("clock", .int 0), ("book", .ref bk)]))) hd (.lst [])) p (.ins C.H dx (putF "heard" (.ref hd) (putF "posts" (.ref c) [("tree", .ref A.t), ("clock", .int 0), ("book", .ref bk)]))) = H6 at p6 o6 d6 f6 ⊢
  have o36 : ∀ b u, b ≠ p → H3 b = some u → H6 b = some u := fun b u hb hu => o6 b u hb (V0.sm _ _ hu)
  have rl_p : rl p = .h := by
    rw [V0.r0 p (by rw [p3]; intro z; cases z), hrl0]
    show (if p = bk then Role.im else if p = en then .en else if p = p then .h else if p ∈ A.all then .tr else .out) = .h
    rw [if_neg n_bp.symm, if_neg n_ep.symm, if_pos rfl]
  have rl_b : rl bk = .im := by
    rw [V0.r0 bk (by rw [b3]; intro z; cases z), hrl0]
    show (if bk = bk then Role.im else _) = .im
    rw [if_pos rfl]
  have rl_e : rl en = .en := by
    rw [V0.r0 en (by rw [e3]; intro z; cases z), hrl0]
    show (if en = bk then Role.im else if en = en then .en else _) = .en
    rw [if_neg n_eb, if_pos rfl]
  have rl_t : ∀ b ∈ A.all, rl b = .tr := fun b hb => by
    rw [V0.r0 b (tr_some R3 b hb), hrl0]
    show (if b = bk then Role.im else if b = en then .en else if b = p then .h else if b ∈ A.all then .tr else .out) = .tr
    rw [if_neg (fun e => tr_some R b hb (by rw [e]; exact hbk0)), if_neg (fun e => tr_some R b hb (by rw [e]; exact hen0)), if_neg (hA b hb), if_pos hb]
  have rn : ∀ b, rl b ≠ .out → b ≠ hd := fun b hb e => hb (by rw [e]; exact V0.fr _ hhd4)
  have ki : ∀ (b : Addr) (r : Role), rl b = r → r ≠ .out → (if b = hd then Role.hd else rl b) = r := fun b r hb hr => by
    rw [if_neg (rn b (by rw [hb]; exact hr))]
    exact hb
  have np : ∀ (b : Addr) (r : Role), rl b = r → r ≠ .h → b ≠ p := fun b r hb hr e => hr (by rw [← hb, e, rl_p])
  have R6 : TRm C.T C.cls A D H6 := { R3.toTR.keep (fun b u hb hu => o36 b u (hA b hb) hu) with nd := R3.nd }
  have RR : HR C A { h := p, dxh := dx, bk := bk, dxb := dxb, en := en, pl := c, hd := hd, ts := [], ks := [], po := po, pdx := pdx, fa := fa, wa := wa, rl := fun b => if b = hd then .hd else rl b } D { clock := 0, book := [], posts := fun _ => {}, heard := [] } H6 :=
    { tr := R6, hh := p6, hb := o36 _ _ n_bp b3, he := o36 _ _ n_ep e3, lt := rfl, ht := (fun k t e h => by cases h), hpl := o6 _ _ (np _ _ V0.rc (by intro z; cases z)) V0.ls, hhd := d6, lk := rfl, hk := (fun k t e h => by cases h),
      hpo := fun i hi => o6 _ _ (np _ _ (V0.rp i hi) (by intro z; cases z)) (V0.ho i hi), hfa := fun i hi => o6 _ _ (np _ _ (V0.rf i hi) (by intro z; cases z)) (V0.hf i hi), hwa := fun i hi => o6 _ _ (np _ _ (V0.rw i hi) (by intro z; cases z)) (V0.hw i hi),
      r_tr := fun b hb => ki b _ (rl_t b hb) (by intro z; cases z), r_h := ki _ _ rl_p (by intro z; cases z), r_bk := ki _ _ rl_b (by intro z; cases z), r_en := ki _ _ rl_e (by intro z; cases z), r_pl := ki _ _ V0.rc (by intro z; cases z), r_hd := if_pos rfl,
      r_ts := (fun t h => absurd h List.not_mem_nil), r_ks := (fun t h => absurd h List.not_mem_nil), r_po := fun i hi => ki _ _ (V0.rp i hi) (by intro z; cases z), r_fa := fun i hi => ki _ _ (V0.rf i hi) (by intro z; cases z), r_wa := fun i hi => ki _ _ (V0.rw i hi) (by intro z; cases z),
      free := fun b hb => by
        show (if b = hd then Role.hd else rl b) = .out
        rw [if_neg (fun e => by rw [e, d6] at hb; cases hb)]
        exact V0.fr b (f6 b hb) }
  have d0 : D.dp 0 = 0 := by
    rw [W.dp 0 hn, if_pos]
    rcases W.el 0 hn with h | h <;> omega
  have nd : (D.sub 0).Nodup := sub_nodup W _ 0 hn
  have lt : ∀ j ∈ D.sub 0, j < D.n := fun j hj => (sub_mem W _ 0 j hn hj).2.1
  have ll := nodup_le D.n _ nd lt
  have hsz := W.sz
  refine w_ma1 p6 cH.cl rfl MG (by decide) ?_
  walk_at "rd"
  refine ⟨A, _, D, _, 0, rfl, RR, W, hn, by omega, by show 0 + _ < _; omega, fun a' H' R' F' => ?_⟩
  walk_at "rd"
  refine q a' H' F'.h R' fun b o ho hbp hba => ?_
  have h3 : H3 b = some o := o03 b o hbp ho
  have ro : rl b = .out := by
    rw [V0.r0 b (by rw [h3]; intro z; cases z), hrl0]
    show (if b = bk then Role.im else if b = en then .en else if b = p then .h else if b ∈ A.all then .tr else .out) = .out
    rw [if_neg (fun e => by rw [e, hbk0] at ho; cases ho), if_neg (fun e => by rw [e, hen0] at ho; cases ho), if_neg hbp, if_neg hba]
  refine F'.k b o ?_ (o36 b o hbp h3)
  show (if b = hd then Role.hd else rl b) = .out
  rw [if_neg (fun e => ?_)]
  · exact ro
  · have := V0.sm _ _ (show H3 hd = some o by rw [← e]; exact h3)
    rw [this] at hhd4
    cases hhd4
/-- built(tree) -/
def spBuilt (C : Cs) : Sp := fun vs H Q _ => ∃ (A : TA) (D : TreeD), vs = [.ref A.t] ∧ TRm C.T C.cls A D H ∧ D.WF ∧ 0 < D.n ∧ ∀ a H', HR C A a D (HS.built D) H' → (∀ b o, H b = some o → b ∉ A.all → a.rl b = .out ∧ H' b = some o) → Q (.ref a.h) H'
theorem ok_built {f : Addr} {fd : FuncData} (F : Fun K "built" "built" s_built f fd) (MH : Mak P w K mg base CX0 "House" C.H 13 ["self", "tree"] [] (spHInit C)) : FnOk P w K mg base CX0 15 f fd ["tree"] (spBuilt C) := by
  refine F.ok sc_built (fun vs H Q E h => ?_) (fun cdv A outer s H vs Q E hr h => ?_)
  · obtain ⟨A, D, rfl, _⟩ := h
    rfl
  obtain ⟨A, D, rfl, R, W, hn, q⟩ := h
  refine ⟨_, (pss_one (ps_ret (pe_mka (P := P) (w := w) (K := K) (mg := mg) (base := base) ⟨rfl, rfl, rfl, rfl, rfl⟩ hr rfl (pa_cons (pv 0) pa_nil)))), ?_⟩
  walk_at "rd"
  refine w_mka MH (by decide) ?_
  walk_at "rd"
  intro x dx hx hdx ndx
  have S : Same H (upd (upd H dx (.own x)) x (.ins C.H dx [])) := fun b u hb => by
    rw [upd_ne (neN hx hb), upd_ne (neN hdx hb)]
    exact hb
  have R1 : TRm C.T C.cls A D (upd (upd H dx (.own x)) x (.ins C.H dx [])) := R.same S
  refine ⟨x, dx, A, D, rfl, upd_same, R1, W, hn, fun b hb e => tr_some R b hb (by rw [e]; exact hx), fun a H' ea R' k => ⟨rfl, ?_⟩⟩
  walk_at "rd"
  subst ea
  exact q a H' R' fun b o ho hb => k b o (S _ _ ho) (neN hx ho) hb
end
end Mn

namespace Mn
open PySem PySem.Spec PyProof.Rows L2 TL
/-! ### a minder and an idle leaf -/
def shA : Shp := ⟨5, "qa", "never", 0, 1, 0⟩
def shB (g s : Int) : Shp := ⟨0, "qb", "always", g, s, 0⟩
def D8 (g s : Int) : TreeD := (TreeD.nil.add shA (-1)).add (shB g s) ((0 : Nat) : Int)
section
variable {g s : Int}
theorem d8_n : (D8 g s).n = 2 := rfl
theorem d8_e0 : (D8 g s).e 0 = -1 := rfl
theorem d8_e1 : (D8 g s).e 1 = 0 := rfl
theorem d8_s0 : (D8 g s).sh 0 = shA := rfl
theorem d8_s1 : (D8 g s).sh 1 = shB g s := rfl
theorem d8_y0 : (D8 g s).yng 0 = [1] := rfl
theorem d8_y1 : (D8 g s).yng 1 = [] := rfl
theorem d8_sub : (D8 g s).sub 0 = [0, 1] := rfl
theorem d8_good (hg : 0 ≤ g ∧ g ≤ 1000000) (hs : 0 ≤ s ∧ s ≤ 1000000) : Good (D8 g s) := by
  obtain ⟨g1, p1⟩ := good_top (s := shA) ⟨by decide, by decide, by decide +kernel, by decide, by decide, by decide, fun _ _ => rfl, fun _ => by decide⟩ (by decide)
  exact (good_row g1 p1 (j := 1) (b := 0) (by decide) (by decide) rfl (s := shB g s) ⟨show 0 < 6 by decide, show ("always" : Str) ∈ keeps3 by decide, show fitL (tl "qb") = true by decide +kernel, hg, hs, ⟨Int.le_refl 0, show (0 : Int) ≤ 1000000 by decide⟩, fun _ _ => rfl, fun h => absurd h (by show ¬ 3 ≤ 0; decide)⟩ (show ("qb" : Str) ∉ ([("qa" : Str)] : List Str) by decide) (show 1 < 64 by decide)).1
theorem over1 {h : HS} {w : Wd} (hp : (h.posts 1).planned = true) : (h.over (D8 g s) 1 w).clock = h.clock ∧ (h.over (D8 g s) 1 w).book = h.book ++ [⟨h.clock, w, 1⟩] ∧ (h.over (D8 g s) 1 w).posts 1 = { h.posts 1 with phase := .off } ∧ (h.over (D8 g s) 1 w).posts 0 = h.posts 0 ∧ (h.over (D8 g s) 1 w).heard = h.heard ++ [(1, true)] := by
  unfold HS.over
  simp only [d8_e1, hp]
  refine ⟨rfl, rfl, rfl, rfl, rfl⟩
theorem over0 {h : HS} {w : Wd} : (h.over (D8 g s) 0 w).clock = h.clock ∧ (h.over (D8 g s) 0 w).book = h.book ++ [⟨h.clock, w, 0⟩] ∧ (h.over (D8 g s) 0 w).posts 0 = { h.posts 0 with phase := .off } ∧ (h.over (D8 g s) 0 w).posts 1 = h.posts 1 ∧ (h.over (D8 g s) 0 w).heard = h.heard := by
  unfold HS.over
  simp only [d8_e0]
  refine ⟨rfl, rfl, rfl, rfl, rfl⟩
theorem goLoop_ok {D : TreeD} {tell : Nat → HS → Option HS} {i k : Nat} {h : HS} {r : HS × Bool} (e : goLoop D tell i k h = some r) : ∃ k', k = k' + 1 ∧ h.okB D ∧ (if (h.posts i).put = 0 then some (h, false) else
    match (if (h.posts ((D.yng i).getD (h.posts i).put.log2 0)).phase ≠ .off ∧ (h.posts ((D.yng i).getD (h.posts i).put.log2 0)).planned = false then tell ((D.yng i).getD (h.posts i).put.log2 0) h else some h) with
    | none => none
    | some h1 => if (h1.posts ((D.yng i).getD (h.posts i).put.log2 0)).phase ≠ .off then some (h1, true)
      else goLoop D tell i k' (h1.put i { h1.posts i with put := andNot (h1.posts i).put (2 ^ (h.posts i).put.log2) })) = some r := by
  cases k with
  | zero => unfold goLoop at e; cases e
  | succ k =>
    unfold goLoop at e
    by_cases okb : h.okB D
    · rw [if_neg (fun z => z okb)] at e
      exact ⟨k, rfl, okb, e⟩
    · rw [if_pos okb] at e
      cases e
theorem goLoop_off {tell : Nat → HS → Option HS} {k : Nat} {h : HS} {r : HS × Bool} (e : goLoop (D8 g s) tell 0 k h = some r) (hp : (h.posts 0).put = 1) (ho : (h.posts 1).phase = .off) : r = (h.put 0 { h.posts 0 with put := 0 }, false) := by
  obtain ⟨k', _, okb, e⟩ := goLoop_ok e
  have an : andNot (h.posts 0).put (2 ^ (h.posts 0).put.log2) = 0 := by rw [hp]; decide
  have c1 : ((D8 g s).yng 0).getD (h.posts 0).put.log2 0 = 1 := by rw [hp]; rfl
  rw [if_neg (by rw [hp]; decide), c1, if_neg (fun z => z.1 ho)] at e
  dsimp only at e
  rw [if_neg (fun z => z ho), an] at e
  obtain ⟨k2, _, _, e⟩ := goLoop_ok e
  rw [put_same, if_pos rfl] at e
  exact (Option.some.inj e).symm
theorem goLoop_tell {tell : Nat → HS → Option HS} {k : Nat} {h : HS} {r : HS × Bool} (e : goLoop (D8 g s) tell 0 k h = some r) (hp : (h.posts 0).put = 1) (ho : (h.posts 1).phase ≠ .off) (hq : (h.posts 1).planned = false) (keep : ∀ h1, tell 1 h = some h1 → h1.posts 0 = h.posts 0) :
    ∃ h1, tell 1 h = some h1 ∧ (((h1.posts 1).phase ≠ .off ∧ r = (h1, true)) ∨ ((h1.posts 1).phase = .off ∧ r = (h1.put 0 { h1.posts 0 with put := 0 }, false))) := by
  obtain ⟨k', _, okb, e⟩ := goLoop_ok e
  have c1 : ((D8 g s).yng 0).getD (h.posts 0).put.log2 0 = 1 := by rw [hp]; rfl
  rw [if_neg (by rw [hp]; decide), c1, if_pos ⟨ho, hq⟩] at e
  cases ht : tell 1 h with
  | none => rw [ht] at e; cases e
  | some h1 =>
    rw [ht] at e
    dsimp only at e
    refine ⟨h1, rfl, ?_⟩
    have k0 := keep h1 ht
    by_cases c : (h1.posts 1).phase = .off
    · refine .inr ⟨c, ?_⟩
      have an : andNot (h1.posts 0).put (2 ^ (h.posts 0).put.log2) = 0 := by rw [k0, hp]; decide
      rw [if_neg (fun z => z c), an] at e
      obtain ⟨k2, _, _, e⟩ := goLoop_ok e
      rw [put_same, if_pos rfl] at e
      exact (Option.some.inj e).symm
    · refine .inl ⟨c, ?_⟩
      rw [if_pos c] at e
      exact (Option.some.inj e).symm
theorem hear_pl {D : TreeD} {h h' : HS} {i : Nat} (e : HS.hear D h i true = some h') : (((h.posts (D.e i).toNat).phase = .turning ∨ (h.posts (D.e i).toNat).phase = .down) ∧ run D FUEL (.goOn (D.e i).toNat) h = some h') ∨ (¬ ((h.posts (D.e i).toNat).phase = .turning ∨ (h.posts (D.e i).toNat).phase = .down) ∧ h' = h) := by
  unfold HS.hear at e
  by_cases okb : h.okB D
  · rw [if_neg (fun z => z okb)] at e
    dsimp only at e
    rw [if_pos rfl] at e
    by_cases c : (h.posts (D.e i).toNat).phase = .turning ∨ (h.posts (D.e i).toNat).phase = .down
    · rw [if_pos c] at e
      exact .inl ⟨c, e⟩
    · rw [if_neg c] at e
      exact .inr ⟨c, (Option.some.inj e).symm⟩
  · rw [if_pos okb] at e
    cases e
theorem run_ok {D : TreeD} {f : Nat} {op : Op} {h h' : HS} (e : run D f op h = some h') : ∃ f', f = f' + 1 ∧ h.okB D := by
  cases f with
  | zero => unfold run at e; cases e
  | succ f => exact ⟨f, rfl, run_succ e⟩
theorem goOn_off {f : Nat} {h h' : HS} (e : run (D8 g s) f (.goOn 0) h = some h') (hp : (h.posts 0).put = 1) (hd : (h.posts 0).phase = .down) (hg : (h.posts 0).gave = false) (ho : (h.posts 1).phase = .off) : h' = (h.put 0 { h.posts 0 with put := 0 }).over (D8 g s) 0 .ended := by
  obtain ⟨f, rfl, okb⟩ := run_ok e
  unfold run at e
  rw [if_neg (fun z => z okb)] at e
  dsimp only at e
  cases hl : goLoop (D8 g s) (fun c h => run (D8 g s) f (.tell c) h) 0 65 h with
  | none => rw [hl] at e; cases e
  | some r =>
    rw [hl] at e
    obtain rfl := goLoop_off hl hp ho
    dsimp only at e
    rw [if_pos (by rw [put_same]; exact hd), if_neg (by rw [put_same]; show ¬ (h.posts 0).gave = true; rw [hg]; decide)] at e
    exact (Option.some.inj e).symm
/-- the leaf is eased -/
theorem ease1 {h : HS} : ((h.posts 1).slow = 0 → h.ease (D8 g s) 1 = h.over (D8 g s) 1 .ended) ∧ ((h.posts 1).slow ≠ 0 → (h.posts 1).grace = 0 → h.ease (D8 g s) 1 = h.over (D8 g s) 1 .cut) ∧ ((h.posts 1).slow ≠ 0 → (h.posts 1).grace ≠ 0 → h.ease (D8 g s) 1 = h) := by
  unfold HS.ease
  refine ⟨fun a => by rw [if_pos a], fun a b => by rw [if_neg a, if_pos b], fun a b => by rw [if_neg a, if_neg b]⟩
abbrev b2 : List Ent := [⟨0, .begun, 0⟩, ⟨0, .begun, 1⟩]
abbrev b4 (t : Nat) : List Ent := b2 ++ [⟨t, .told, 0⟩, ⟨t, .told, 1⟩]
structure S1 (h : HS) (n : Nat) : Prop where
  ck : h.clock = n
  bk : h.book = b2
  hd : h.heard = []
  p0 : h.posts 0 = { phase := .on }
  p1 : h.posts 1 = { phase := .on, steps := n }
structure S2 (g s : Int) (h : HS) (t n : Nat) : Prop where
  ck : h.clock = n
  bk : h.book = b4 t
  hd : h.heard = []
  a1 : (h.posts 0).phase = .down
  a2 : (h.posts 0).planned = true
  a3 : (h.posts 0).put = 1
  a4 : (h.posts 0).gave = false
  c1 : (h.posts 1).phase = .told
  c2 : (h.posts 1).planned = true
  c3 : (h.posts 1).slow = s - (n - t : Nat)
  c4 : (h.posts 1).grace = g - (n - t : Nat)
  c5 : (h.posts 1).born = 0
  le : t ≤ n
  lt : ((n - t : Nat) : Int) < s ∧ ((n - t : Nat) : Int) < g
structure S3 (h : HS) (t u : Nat) (w : Wd) : Prop where
  bk : h.book = b4 t ++ [⟨u, w, 1⟩, ⟨u, .ended, 0⟩]
  hd : h.heard = []
  a1 : (h.posts 0).phase = .off
  c1 : (h.posts 1).phase = .off
/-- the leaf is over, its minder hears of it -/
theorem settle_over {k : Nat} {h h' : HS} {w : Wd} {t : Nat} (e : HS.settle (D8 g s) k (h.over (D8 g s) 1 w) = some h') (bk : h.book = b4 t) (hd : h.heard = []) (a1 : (h.posts 0).phase = .down) (a3 : (h.posts 0).put = 1) (a4 : (h.posts 0).gave = false) (c2 : (h.posts 1).planned = true) : S3 h' t h.clock w := by
  obtain ⟨o1, o2, o3, o4, o5⟩ := over1 (g := g) (s := s) (h := h) (w := w) c2
  generalize h.over (D8 g s) 1 w = h1 at *
  obtain ⟨_, k', rfl, ⟨x, _⟩ | ⟨i, pl, r, h2, x, hh, e⟩⟩ := settle_inv e
  · rw [o5, hd] at x
    cases x
  rw [o5, hd] at x
  injection x with x1 x2
  injection x1 with x1 x3
  subst x1 x2 x3
  have ce : ((D8 g s).e 1).toNat = 0 := rfl
  rcases hear_pl hh with ⟨_, hh⟩ | ⟨c, _⟩
  case inr =>
    rw [ce] at c
    exact absurd (.inr (by show (h1.posts 0).phase = .down; rw [o4]; exact a1)) c
  rw [ce] at hh
  have := goOn_off hh (by show (h1.posts 0).put = 1; rw [o4]; exact a3) (by show (h1.posts 0).phase = _; rw [o4]; exact a1) (by show (h1.posts 0).gave = _; rw [o4]; exact a4) (by show (h1.posts 1).phase = _; rw [o3])
  obtain ⟨q1, q2, q3, q4, q5⟩ := over0 (g := g) (s := s) (h := ({ h1 with heard := [] } : HS).put 0 { h1.posts 0 with put := 0 }) (w := .ended)
  subst this
  have q5 : ((({ h1 with heard := [] } : HS).put 0 { h1.posts 0 with put := 0 }).over (D8 g s) 0 .ended).heard = [] := q5
  obtain ⟨_, k2, rfl, ⟨x, rfl⟩ | ⟨i, pl, r, h2, x, hh, e⟩⟩ := settle_inv e
  · refine ⟨?_, q5, by rw [q3], ?_⟩
    · rw [q2]
      show h1.book ++ [⟨h1.clock, .ended, 0⟩] = _
      rw [o2, o1, bk, List.append_assoc]
      rfl
    · rw [q4]
      show (if 1 = 0 then _ else h1.posts 1).phase = _
      rw [if_neg (by decide), o3]
  · have x := x.symm.trans q5
    cases x
theorem built8 : S1 (HS.built (D8 g s)) 0 := by
  unfold HS.built HS.begin
  rw [d8_sub]
  exact ⟨rfl, rfl, rfl, rfl, rfl⟩
/-- the law's word for the end -/
abbrev w8 (g s : Int) : Wd := if s ≤ g then .ended else .cut
theorem stop8 {h h' : HS} {t : Nat} (hg : 0 ≤ g) (hs : 0 ≤ s) (S : S1 h t) (e : h.stopM (D8 g s) = some h') : (0 < s ∧ 0 < g → S2 g s h' t t) ∧ (¬ (0 < s ∧ 0 < g) → S3 h' t t (w8 g s)) := by
  unfold HS.stopM at e
  rw [if_neg (by rw [S.p0]; decide)] at e
  obtain ⟨h1, e1, e2⟩ := Option.bind_eq_some_iff.mp e
  obtain ⟨f, hf, okb⟩ := run_ok e1
  obtain rfl : f = 39 := by have : FUEL = 40 := rfl; omega
  rw [hf] at e1
  unfold run at e1
  rw [if_neg (fun z => z okb)] at e1
  simp only [d8_s0] at e1
  rw [if_neg (by decide)] at e1
  have p0 : (((h.put 0 { h.posts 0 with planned := true }).note .told 0).posts 0) = { phase := .on, planned := true } := by
    show ((h.put 0 { h.posts 0 with planned := true }).posts 0) = _
    rw [put_same, S.p0]
  have p1 : (((h.put 0 { h.posts 0 with planned := true }).note .told 0).posts 1) = { phase := .on, steps := t } := by
    show ((h.put 0 { h.posts 0 with planned := true }).posts 1) = _
    rw [put_ne _ _ (by decide), S.p1]
  have bk : ((h.put 0 { h.posts 0 with planned := true }).note .told 0).book = b2 ++ [⟨t, .told, 0⟩] := by
    show h.book ++ [⟨h.clock, .told, 0⟩] = _
    rw [S.bk, S.ck]
  have ck : ((h.put 0 { h.posts 0 with planned := true }).note .told 0).clock = t := S.ck
  have hd : ((h.put 0 { h.posts 0 with planned := true }).note .told 0).heard = [] := S.hd
  generalize (h.put 0 { h.posts 0 with planned := true }).note .told 0 = x at *
  rw [if_pos (by rw [p0]; decide)] at e1
  obtain ⟨f, hf, okb⟩ := run_ok e1
  obtain rfl : f = 38 := by omega
  unfold run at e1
  rw [if_neg (fun z => z okb)] at e1
  dsimp only at e1
  have on1 : HS.onOf (D8 g s) (x.put 0 { x.posts 0 with phase := .down, gave := false, anew := 0, waiting := [] }) 0 = 1 := by
    unfold HS.onOf
    rw [d8_y0]
    show bitsOf [decide (((x.put 0 _).posts 1).phase ≠ .off)] = 1
    rw [put_ne _ _ (by decide), p1]
    rfl
  rw [on1, put_put] at e1
  have y0 : ((x.put 0 { (x.put 0 { x.posts 0 with phase := .down, gave := false, anew := 0, waiting := [] }).posts 0 with put := 1 }).posts 0) = { phase := .down, planned := true, put := 1 } := by
    rw [put_same, put_same, p0]
  have y1 : ((x.put 0 { (x.put 0 { x.posts 0 with phase := .down, gave := false, anew := 0, waiting := [] }).posts 0 with put := 1 }).posts 1) = { phase := .on, steps := t } := by
    rw [put_ne _ _ (by decide), p1]
  have ybk : (x.put 0 { (x.put 0 { x.posts 0 with phase := .down, gave := false, anew := 0, waiting := [] }).posts 0 with put := 1 }).book = b2 ++ [⟨t, .told, 0⟩] := bk
  have yck : (x.put 0 { (x.put 0 { x.posts 0 with phase := .down, gave := false, anew := 0, waiting := [] }).posts 0 with put := 1 }).clock = t := ck
  have yhd : (x.put 0 { (x.put 0 { x.posts 0 with phase := .down, gave := false, anew := 0, waiting := [] }).posts 0 with put := 1 }).heard = [] := hd
  generalize x.put 0 { (x.put 0 { x.posts 0 with phase := .down, gave := false, anew := 0, waiting := [] }).posts 0 with put := 1 } = y at *
  obtain ⟨f, hf, okb⟩ := run_ok e1
  obtain rfl : f = 37 := by omega
  unfold run at e1
  rw [if_neg (fun z => z okb)] at e1
  dsimp only at e1
  cases hl : goLoop (D8 g s) (fun c h => run (D8 g s) 37 (.tell c) h) 0 65 y with
  | none => rw [hl] at e1; cases e1
  | some r =>
  rw [hl] at e1
  -- the leaf is told
  have tellq : ∀ z, run (D8 g s) 37 (.tell 1) y = some z → ∃ v, z = HS.ease (D8 g s) v 1 ∧ v.clock = t ∧ v.book = b4 t ∧ v.heard = [] ∧ v.posts 0 = y.posts 0 ∧ v.posts 1 = { phase := .told, planned := true, steps := t, slow := s, grace := g } := fun z hz => by
    obtain ⟨f, hf, okb⟩ := run_ok hz
    obtain rfl : f = 36 := by omega
    unfold run at hz
    rw [if_neg (fun z => z okb)] at hz
    dsimp only at hz
    rw [if_pos (show ((D8 g s).sh 1).kind < 3 from (show 0 < 3 by decide))] at hz
    obtain rfl := Option.some.inj hz
    refine ⟨_, rfl, yck, ?_, yhd, ?_, ?_⟩
    · show y.book ++ [⟨y.clock, .told, 1⟩] = _
      rw [ybk, yck, List.append_assoc]
      rfl
    · rw [put_ne _ _ (by decide)]
      exact put_ne (i := 1) (j := 0) y { y.posts 1 with planned := true } (by decide)
    · rw [put_same]
      show ({ (HS.put y 1 { y.posts 1 with planned := true }).posts 1 with phase := .told, slow := s, grace := g } : Post) = _
      rw [put_same, y1]
  have keep : ∀ z, run (D8 g s) 37 (.tell 1) y = some z → z.posts 0 = y.posts 0 := fun z hz => by
    obtain ⟨v, rfl, _, _, _, v0, v1⟩ := tellq z hz
    unfold HS.ease
    split
    · rw [(over1 (by rw [v1])).2.2.2.1, v0]
    · split
      · rw [(over1 (by rw [v1])).2.2.2.1, v0]
      · exact v0
  obtain ⟨z, hz, hc⟩ := goLoop_tell hl (by rw [y0]) (by rw [y1]; intro z; cases z) (by rw [y1]) keep
  have z0 := keep z hz
  obtain ⟨v, rfl, vck, vbk, vhd, v0, v1⟩ := tellq z hz
  obtain ⟨E1, E2, E3⟩ := ease1 (g := g) (s := s) (h := v)
  rw [v1] at E1 E2 E3
  dsimp only at E1 E2 E3
  -- it is over at once
  have fast : ∀ w, HS.ease (D8 g s) v 1 = v.over (D8 g s) 1 w → S3 h' t t w := fun w ew => by
    obtain ⟨o1, o2, o3, o4, o5⟩ := over1 (g := g) (s := s) (h := v) (w := w) (by rw [v1])
    rw [ew] at hc z0
    rcases hc with ⟨c, _⟩ | ⟨c, rfl⟩
    · exact absurd (by rw [o3]) c
    simp only [put_same, z0, y0] at e1
    simp at e1
    subst e1
    obtain ⟨q1, q2, q3, q4, q5⟩ := over0 (g := g) (s := s) (h := (v.over (D8 g s) 1 w).put 0 { phase := .down, planned := true }) (w := .ended)
    generalize ((v.over (D8 g s) 1 w).put 0 { phase := .down, planned := true }).over (D8 g s) 0 .ended = u at *
    have q2 : u.book = b4 t ++ [⟨t, w, 1⟩, ⟨t, .ended, 0⟩] := by
      rw [q2]
      show (v.over (D8 g s) 1 w).book ++ [⟨(v.over (D8 g s) 1 w).clock, .ended, 0⟩] = _
      rw [o2, o1, vck, vbk, List.append_assoc]
      rfl
    have q5 : u.heard = [(1, true)] := by
      rw [q5]
      show (v.over (D8 g s) 1 w).heard = _
      rw [o5, vhd]
      rfl
    have q4 : (u.posts 1).phase = .off := by
      rw [q4]
      show (((v.over (D8 g s) 1 w).put 0 _).posts 1).phase = _
      rw [put_ne _ _ (by decide), o3]
    have q3 : (u.posts 0).phase = .off := by rw [q3]
    obtain ⟨_, k', hk', ⟨x, _⟩ | ⟨i, pl, r, h2, x, hh, e⟩⟩ := settle_inv e2
    · rw [q5] at x
      cases x
    rw [q5] at x
    injection x with x1 x2
    injection x1 with x1 x3
    subst x1 x2 x3
    have ce : ((D8 g s).e 1).toNat = 0 := rfl
    rcases hear_pl hh with ⟨c, _⟩ | ⟨_, rfl⟩
    · rw [ce] at c
      have c : (u.posts 0).phase = .turning ∨ (u.posts 0).phase = .down := c
      rw [q3] at c
      rcases c with c | c <;> cases c
    obtain ⟨_, k2, hk2, ⟨x, rfl⟩ | ⟨i, pl, r, h2, x, hh, e⟩⟩ := settle_inv e
    · exact ⟨q2, rfl, q3, q4⟩
    · cases x
  refine ⟨fun c => ?_, fun c => ?_⟩
  · have ev := E3 (by omega) (by omega)
    rw [ev] at hc
    rcases hc with ⟨_, rfl⟩ | ⟨c, _⟩
    · obtain rfl := Option.some.inj e1
      obtain ⟨_, k', hk', ⟨x, rfl⟩ | ⟨i, pl, r, h2, x, hh, e⟩⟩ := settle_inv e2
      · exact ⟨vck, vbk, vhd, by rw [v0, y0], by rw [v0, y0], by rw [v0, y0], by rw [v0, y0], by rw [v1], by rw [v1], by rw [v1, Nat.sub_self]; show s = s - ((0 : Nat) : Int); omega, by rw [v1, Nat.sub_self]; show g = g - ((0 : Nat) : Int); omega, by rw [v1], Nat.le_refl _, by rw [Nat.sub_self]; omega⟩
      · rw [vhd] at x
        cases x
    · rw [v1] at c
      cases c
  · by_cases c0 : s = 0
    · have : w8 g s = .ended := if_pos (by omega)
      rw [this]
      exact fast _ (E1 c0)
    · have : w8 g s = .cut := if_neg (by omega)
      rw [this]
      exact fast _ (E2 c0 (by omega))
theorem turn8 {h h' : HS} (e : h.turn (D8 g s) = some h') : ∃ okb : ({ h with clock := h.clock + 1 } : HS).okB (D8 g s), (((h.posts 1).phase ≠ .off ∧ (h.posts 1).born < h.clock + 1) ∧ HS.settle (D8 g s) SET (HS.step (D8 g s) { h with clock := h.clock + 1 } 1) = some h') ∨ (¬ ((h.posts 1).phase ≠ .off ∧ (h.posts 1).born < h.clock + 1) ∧ h' = { h with clock := h.clock + 1 }) := by
  unfold HS.turn at e
  rw [d8_n] at e
  obtain ⟨h1, e1, e⟩ := turnL_inv (show turnL' (D8 g s) [0, 1] _ = some h' from e)
  obtain ⟨h2, e2, e⟩ := turnL_inv e
  obtain rfl := Option.some.inj (show some h2 = some h' from e)
  obtain ⟨okb, ⟨c, _⟩ | ⟨_, rfl⟩⟩ := turnAt_inv e1
  · exact absurd c.1 (by rw [d8_s0]; decide)
  obtain ⟨_, ⟨c, x⟩ | ⟨c, x⟩⟩ := turnAt_inv e2
  · exact ⟨okb, .inl ⟨⟨c.2.1, c.2.2⟩, x⟩⟩
  · exact ⟨okb, .inr ⟨fun z => c ⟨by rw [d8_s1]; show 0 < 3; decide, z.1, z.2⟩, x⟩⟩
theorem turn8_1 {h h' : HS} {n : Nat} (S : S1 h n) (e : h.turn (D8 g s) = some h') : S1 h' (n + 1) := by
  obtain ⟨_, ⟨_, x⟩ | ⟨c, _⟩⟩ := turn8 e
  · have st : HS.step (D8 g s) { h with clock := h.clock + 1 } 1 = ({ h with clock := h.clock + 1 } : HS).put 1 { phase := .on, steps := n + 1 } := by
      unfold HS.step
      dsimp only
      rw [if_neg (by show ¬ (h.posts 1).phase = .told; rw [S.p1]; intro z; cases z)]
      have ew : endW ((D8 g s).sh 1) (h.posts 1).steps = none := by
        unfold endW
        rw [d8_s1]
        exact if_pos rfl
      rw [ew]
      show HS.put _ 1 { h.posts 1 with steps := (h.posts 1).steps + 1 } = _
      rw [S.p1]
    rw [st] at x
    obtain ⟨_, k', _, ⟨y, rfl⟩ | ⟨i, pl, r, h2, y, _, _⟩⟩ := settle_inv x
    · exact ⟨by show h.clock + 1 = _; rw [S.ck], S.bk, S.hd, by rw [put_ne _ _ (by decide)]; exact S.p0, put_same _ _ _⟩
    · have y : h.heard = _ := y
      rw [S.hd] at y
      cases y
  · exact absurd ⟨(by rw [S.p1]; intro z; cases z), by rw [S.p1]; show 0 < h.clock + 1; omega⟩ c
theorem turn8_2 {h h' : HS} {t n : Nat} (S : S2 g s h t n) (e : h.turn (D8 g s) = some h') : (((n + 1 - t : Nat) : Int) < s ∧ ((n + 1 - t : Nat) : Int) < g → S2 g s h' t (n + 1)) ∧ (¬ (((n + 1 - t : Nat) : Int) < s ∧ ((n + 1 - t : Nat) : Int) < g) → S3 h' t (n + 1) (w8 g s)) := by
  have le := S.le
  have lt := S.lt
  have cs : ((n + 1 - t : Nat) : Int) = ((n - t : Nat) : Int) + 1 := by omega
  obtain ⟨_, ⟨_, x⟩ | ⟨c, _⟩⟩ := turn8 e
  · have st : HS.step (D8 g s) { h with clock := h.clock + 1 } 1 = HS.ease (D8 g s) (({ h with clock := h.clock + 1 } : HS).put 1 { h.posts 1 with slow := s - (n + 1 - t : Nat), grace := g - (n + 1 - t : Nat) }) 1 := by
      unfold HS.step
      have p1 : (({ h with clock := h.clock + 1 } : HS).posts 1).phase = .told := S.c1
      rw [if_pos p1]
      have a : (h.posts 1).slow - 1 = s - (n + 1 - t : Nat) := by rw [S.c3]; omega
      have b : (h.posts 1).grace - 1 = g - (n + 1 - t : Nat) := by rw [S.c4]; omega
      rw [← a, ← b]
    rw [st] at x
    have v1 : ((({ h with clock := h.clock + 1 } : HS).put 1 { h.posts 1 with slow := s - (n + 1 - t : Nat), grace := g - (n + 1 - t : Nat) }).posts 1) = { h.posts 1 with slow := s - (n + 1 - t : Nat), grace := g - (n + 1 - t : Nat) } := put_same _ _ _
    have v0 : ((({ h with clock := h.clock + 1 } : HS).put 1 { h.posts 1 with slow := s - (n + 1 - t : Nat), grace := g - (n + 1 - t : Nat) }).posts 0) = h.posts 0 := put_ne _ _ (by decide)
    have vck : ((({ h with clock := h.clock + 1 } : HS).put 1 { h.posts 1 with slow := s - (n + 1 - t : Nat), grace := g - (n + 1 - t : Nat) }).clock) = n + 1 := by show h.clock + 1 = _; rw [S.ck]
    have vbk : ((({ h with clock := h.clock + 1 } : HS).put 1 { h.posts 1 with slow := s - (n + 1 - t : Nat), grace := g - (n + 1 - t : Nat) }).book) = b4 t := S.bk
    have vhd : ((({ h with clock := h.clock + 1 } : HS).put 1 { h.posts 1 with slow := s - (n + 1 - t : Nat), grace := g - (n + 1 - t : Nat) }).heard) = [] := S.hd
    generalize ({ h with clock := h.clock + 1 } : HS).put 1 { h.posts 1 with slow := s - (n + 1 - t : Nat), grace := g - (n + 1 - t : Nat) } = v at *
    obtain ⟨E1, E2, E3⟩ := ease1 (g := g) (s := s) (h := v)
    rw [v1] at E1 E2 E3
    dsimp only at E1 E2 E3
    have fast : ∀ w, HS.ease (D8 g s) v 1 = v.over (D8 g s) 1 w → S3 h' t (n + 1) w := fun w ew => by
      rw [ew] at x
      have := settle_over x vbk vhd (by rw [v0]; exact S.a1) (by rw [v0]; exact S.a3) (by rw [v0]; exact S.a4) (by rw [v1]; exact S.c2)
      rw [vck] at this
      exact this
    refine ⟨fun c => ?_, fun c => ?_⟩
    · rw [E3 (by omega) (by omega)] at x
      obtain ⟨_, k', _, ⟨y, rfl⟩ | ⟨i, pl, r, h2, y, _, _⟩⟩ := settle_inv x
      · exact ⟨vck, vbk, vhd, by rw [v0]; exact S.a1, by rw [v0]; exact S.a2, by rw [v0]; exact S.a3, by rw [v0]; exact S.a4, by rw [v1]; exact S.c1, by rw [v1]; exact S.c2, by rw [v1], by rw [v1], by rw [v1]; exact S.c5, by omega, c⟩
      · rw [vhd] at y
        cases y
    · by_cases c0 : s - ((n + 1 - t : Nat) : Int) = 0
      · have : w8 g s = .ended := if_pos (by omega)
        rw [this]
        exact fast _ (E1 c0)
      · have : w8 g s = .cut := if_neg (by omega)
        rw [this]
        exact fast _ (E2 c0 (by omega))
  · exact absurd ⟨(by rw [S.c1]; intro z; cases z), by rw [S.c5]; omega⟩ c
theorem turn8_3 {h h' : HS} {t u : Nat} {w : Wd} (S : S3 h t u w) (e : h.turn (D8 g s) = some h') : S3 h' t u w := by
  obtain ⟨_, ⟨c, _⟩ | ⟨_, rfl⟩⟩ := turn8 e
  · exact absurd S.c1 c.1
  · exact ⟨S.bk, S.hd, S.a1, S.c1⟩
end
end Mn

namespace Mn
open PySem L2
section
variable {P : Program} {w : World} {K : PySem.W.Frag} {mg : Str → Option Value} {base : Heap}
def cellAt (ns : List Int) (k : Nat) : Int := ns.getD k 0
def spCell (K : PySem.W.Frag) : Sp := fun vs H Q _ => ∃ (a : Addr) (ns : List Int) (k : Nat), vs = [.ref a, .int (k : Int)] ∧ SqL K H a (ns.map V.int) ∧ ns.length ≤ 1000 ∧ Q (.int (cellAt ns k)) H
theorem ok_cell {f : Addr} {fd : FuncData} (F : Fun K "_law_cell_at" "_law_cell_at" s_law_cell_at f fd) (T : Bt mg) : FnOk P w K mg base CX0 1 f fd ["_law_script", "_law_k"] (spCell K) := by
  refine F.ok sc_law_cell_at (fun vs H Q E h => ?_) (fun cdv A outer s H vs Q E hr h => ?_)
  · obtain ⟨a, ns, k, rfl, _⟩ := h
    rfl
  obtain ⟨a, ns, k, rfl, hS, h1, q⟩ := h
  unfold cellAt at q
  refine ⟨_, (pss_cons (ps_if (pt_cmpR op_lt (pv 1) (pe_callB (kLenL (K := K) rfl) (by rfl) T.len (by decide +kernel) (pa_cons (pv 0) pa_nil)) (nomark _)) (pss_one (ps_ret (pe_ix (kIxL (K := K) rfl) (pv 0) (pv 1) (fun _ _ => rfl)))) pss_nil)
    (pss_one (ps_ret pe_int))), ?_⟩
  walk_at "rd"
  walk_at "if"
  all_goals rename_i c
  all_goals rw [List.length_map] at c
  all_goals walk_at "rd"
  · have e := at_ints (ns := ns) (k := (k : Int)) (by omega) c
    rw [Int.toNat_natCast] at e
    exact w_ixL hS e q
  · have e : ns.getD k 0 = 0 := by simp [List.getD, List.getElem?_eq_none (show ns.length ≤ k by omega)]
    rw [e] at q
    exact q
end
end Mn

namespace Mn
open PySem PySem.Spec PyProof.Rows L2 TL
/-- an entry as the law tells it -/
abbrev Tri := Int × Str × Str
def triV (e : Tri) : List V := [.int e.1, .str e.2.1, .str e.2.2]
def triD (e : Tri) : PyData := .tuple [.int e.1, .str e.2.1, .str e.2.2]
def triOf (D : TreeD) (e : Ent) : Tri := ((e.t : Int), e.w.s, (D.sh e.a).name)
/-- entries in the heap -/
structure TriAt (H : Hp) (ts : List Addr) (L : List Tri) : Prop where
  ln : ts.length = L.length
  at_ : ∀ (k : Nat) t e, ts[k]? = some t → L[k]? = some e → H t = some (.tup (triV e))
theorem TriAt.same {H H' : Hp} {ts : List Addr} {L : List Tri} (T : TriAt H ts L) (s : Same H H') : TriAt H' ts L := ⟨T.ln, fun k t e h1 h2 => s _ _ (T.at_ k t e h1 h2)⟩
theorem TriAt.nil {H : Hp} : TriAt H [] [] := ⟨rfl, fun k t e h => by cases h⟩
theorem TriAt.new {H : Hp} {ts : List Addr} {L : List Tri} {r : Addr} {o : HO} (T : TriAt H ts L) (hr : H r = none) : TriAt (upd H r o) ts L := T.same (same_new hr _)
theorem TriAt.snoc {H : Hp} {ts : List Addr} {L : List Tri} {t : Addr} {e : Tri} (T : TriAt H ts L) (ht : H t = none) : TriAt (upd H t (.tup (triV e))) (ts ++ [t]) (L ++ [e]) := by
  refine ⟨by rw [List.length_append, List.length_append, T.ln]; rfl, fun k x y h1 h2 => ?_⟩
  by_cases c : k < ts.length
  · rw [List.getElem?_append_left c] at h1
    rw [List.getElem?_append_left (by rw [← T.ln]; exact c)] at h2
    exact same_new ht _ _ _ (T.at_ k x y h1 h2)
  · have c2 : k = ts.length := by
      have := (List.getElem?_eq_some_iff.mp h1).choose
      rw [List.length_append, List.length_singleton] at this
      omega
    subst c2
    rw [List.getElem?_append_right (Nat.le_refl _), Nat.sub_self] at h1
    rw [List.getElem?_append_right (by rw [T.ln]; exact Nat.le_refl _), T.ln, Nat.sub_self] at h2
    obtain rfl := Option.some.inj h1
    obtain rfl := Option.some.inj h2
    exact upd_same
/-- a list of entries in the heap -/
structure TriL (H : Hp) (p : Addr) (ts : List Addr) (L : List Tri) : Prop where
  ls : H p = some (.lst (ts.map V.ref))
  tr : TriAt H ts L
theorem TriL.same {H H' : Hp} {p : Addr} {ts : List Addr} {L : List Tri} (T : TriL H p ts L) (s : Same H H') : TriL H' p ts L := ⟨s _ _ T.ls, T.tr.same s⟩
theorem dp_tri {K : PySem.W.Frag} {H : Hp} : ∀ (ts : List Addr) (L : List Tri), ts.length = L.length → (∀ (k : Nat) t e, ts[k]? = some t → L[k]? = some e → H t = some (.tup (triV e))) → DpAll K H (ts.map V.ref) (L.map triD)
  | [], [], _, _ => .nil
  | t :: r, e :: l, h, q => .cons (.tup (SqT.of (q 0 t e rfl rfl)) (.cons (.int _) (.cons (.str _) (.cons (.str _) .nil)))) (dp_tri r l (by simpa using h) fun k t e h1 h2 => q (k + 1) t e h1 h2)
  | [], _ :: _, h, _ => by simp at h
  | _ :: _, [], h, _ => by simp at h
theorem tri_eqv : ∀ L : List Tri, PyData.eqvAll (L.map triD) (L.map triD) = true
  | [] => by simp [PyData.eqvAll]
  | e :: l => by
    rw [List.map_cons]
    simp [PyData.eqvAll, PyData.eqv, triD, tri_eqv l]
theorem tri_lay {L : List Tri} (h : ∀ e ∈ L, PyData.strOk e.2.1 = true ∧ PyData.strOk e.2.2 = true) : SeqAt.shaped (.list (L.map triD)) = true := by
  unfold SeqAt.shaped
  have h1 : ∀ L : List Tri, (∀ e ∈ L, PyData.strOk e.2.1 = true ∧ PyData.strOk e.2.2 = true) → PyData.canLayAll0 (L.map triD) = true := by
    intro L
    induction L with
    | nil => intro _; simp [PyData.canLayAll0]
    | cons e l ih =>
      intro h
      have he := h e List.mem_cons_self
      rw [List.map_cons]
      simp [PyData.canLayAll0, PyData.canLay0, triD, he.1, he.2, ih fun x hx => h x (List.mem_cons_of_mem _ hx)]
  have h2 : ∀ L : List Tri, PyData.depthAll (L.map triD) ≤ 1 := by
    intro L
    induction L with
    | nil => simp [PyData.depthAll]
    | cons e l ih =>
      rw [List.map_cons]
      simp only [PyData.depthAll, PyData.depth, triD]
      omega
  rw [Bool.and_eq_true]
  have := h2 L
  exact ⟨by simp only [PyData.canLay0]; exact h1 L h, decide_eq_true (by simp only [PyData.depth]; omega)⟩
section
variable {P : Program} {w : World} {K : PySem.W.Frag} {mg : Str → Option Value} {base : Heap} {C : Cs}
def num8 (c : Int) : Int := if c % 9 = 8 then c / 9 % 1000001 else c % 9
theorem num8_le (c : Int) : 0 ≤ num8 c ∧ num8 c ≤ 1000000 := by
  unfold num8
  split <;> omega
def spNum8 : Sp := fun vs H Q _ => ∃ c : Int, vs = [.int c] ∧ Q (.str (toString (num8 c))) H
theorem ok_num8 {f : Addr} {fd : FuncData} (F : Fun K "_law_number" "_law_number" s_law_number f fd) (T : Bt mg) : FnOk P w K mg base CX0 1 f fd ["_law_cell"] spNum8 := by
  refine F.ok sc_law_number (fun vs H Q E h => ?_) (fun cdv A outer s H vs Q E hr h => ?_)
  · obtain ⟨c, rfl, _⟩ := h
    rfl
  obtain ⟨c, rfl, q⟩ := h
  have l := num8_le c
  have lg : (num8 c).natAbs.log2 < 1920 := by
    by_cases z : (num8 c).natAbs = 0
    · rw [z]
      decide
    · have h20 : (num8 c).natAbs < 2 ^ 20 := by
        have : (2 : Nat) ^ 20 = 1048576 := by decide
        omega
      have := (Nat.log2_lt z).mpr h20
      omega
  unfold num8 at q lg
  refine ⟨_, (pss_cons (ps_if (pt_cmpR op_eq (pe_op op_mod (pv 0) pe_int) pe_int (nomark _)) (pss_one (ps_ret (pe_callTy call_strI (by rfl) T.str (by decide +kernel) (pa_cons (pe_op op_mod (pe_op op_fdiv (pv 0) pe_int) pe_int) pa_nil)))) pss_nil)
    (pss_one (ps_ret (pe_callTy call_strI (by rfl) T.str (by decide +kernel) (pa_cons (pe_op op_mod (pv 0) pe_int) pa_nil))))), ?_⟩
  walk_at "rd"
  walk_at "if"
  all_goals rename_i c1
  all_goals walk_at "rd"
  · have c1 := V.int.inj c1
    rw [if_pos c1] at q lg
    exact w_strI lg q
  · have c1 : ¬ c % 9 = 8 := fun z => c1 (congrArg V.int z)
    rw [if_neg c1] at q lg
    exact w_strI lg q
abbrev d2 : List Tri := [(0, "begun", "qa"), (0, "begun", "qb")]
abbrev d4 (t : Int) : List Tri := d2 ++ ([(t, "told", "qa"), (t, "told", "qb")] : List Tri)
def due8 (clock stop slow grace : Int) : List Tri := if stop < 0 then d2 else if clock < stop + min slow grace then d4 stop else d4 stop ++ ([(stop + min slow grace, if slow ≤ grace then "ended" else "cut", "qb"), (stop + min slow grace, "ended", "qa")] : List Tri)
def spDue8 : Sp := fun vs H Q _ => ∃ c t s g : Int, vs = [.int c, .int t, .int s, .int g] ∧ ∀ p ts H', Same H H' → H p = none → (∀ x ∈ ts, H x = none) → TriL H' p ts (due8 c t s g) → Q (.ref p) H'
theorem ok_due8 {f : Addr} {fd : FuncData} (F : Fun K "_law_due" "_law_due" s_law_due f fd) (T : Bt mg) : FnOk P w K mg base CX0 1 f fd ["_law_clock", "_law_stop", "_law_slow", "_law_grace"] spDue8 := by
  refine F.ok sc_law_due (fun vs H Q E h => ?_) (fun cdv A outer s H vs Q E hr h => ?_)
  · obtain ⟨c, t, s, g, rfl, _⟩ := h
    rfl
  obtain ⟨c, t, s, g, rfl, q⟩ := h
  unfold due8 at q
  refine ⟨_, (pss_cons (ps_set (i := 4) sc_law_due.nd rfl (Or.inl rfl) (pe_lst (pa_cons (pe_tup (pa_cons pe_int (pa_cons pe_str (pa_cons pe_str pa_nil)))) (pa_cons (pe_tup (pa_cons pe_int (pa_cons pe_str (pa_cons pe_str pa_nil)))) pa_nil))))
    (pss_cons (ps_if (pt_cmpR op_lt (pv 1) pe_int (nomark _)) (pss_one (ps_ret (pv 4))) pss_nil)
    (pss_cons (ps_set (i := 4) sc_law_due.nd rfl (Or.inl rfl) (pe_op op_cat (pv 4) (pe_lst (pa_cons (pe_tup (pa_cons (pv 1) (pa_cons pe_str (pa_cons pe_str pa_nil)))) (pa_cons (pe_tup (pa_cons (pv 1) (pa_cons pe_str (pa_cons pe_str pa_nil)))) pa_nil)))))
    (pss_cons (ps_set (i := 5) sc_law_due.nd rfl (Or.inl rfl) (pe_op op_add (pv 1) (pe_callB (call_minI rfl) (by rfl) T.min (by decide +kernel) (pa_cons (pv 2) (pa_cons (pv 3) pa_nil)))))
    (pss_cons (ps_if (pt_cmpR op_lt (pv 0) (pv 5) (nomark _)) (pss_one (ps_ret (pv 4))) pss_nil)
    (pss_cons (ps_set (i := 6) sc_law_due.nd rfl (Or.inl rfl) pe_str)
    (C8.pss_cut (ps_if (pt_cmpR op_le (pv 2) (pv 3) (nomark _)) (pss_one (ps_set (i := 6) sc_law_due.nd rfl (Or.inl rfl) pe_str)) pss_nil)
    (pss_one (ps_ret (pe_op op_cat (pv 4) (pe_lst (pa_cons (pe_tup (pa_cons (pv 5) (pa_cons (pv 6) (pa_cons pe_str pa_nil)))) (pa_cons (pe_tup (pa_cons (pv 5) (pa_cons pe_str (pa_cons pe_str pa_nil)))) pa_nil))))))))))))), ?_⟩
  walk_at "rd"
  refine ⟨by walk_at "sz", fun t1 n1 => ?_⟩
  have T1 : TriAt (upd H t1 (.tup (triV (0, "begun", "qa")))) [t1] [(0, "begun", "qa")] := TriAt.nil.snoc n1
  have s1 : Same H (upd H t1 (.tup (triV (0, "begun", "qa")))) := same_new n1 _
  change tCons _ _ _ (upd H t1 (.tup (triV (0, "begun", "qa")))) _
  generalize upd H t1 (.tup (triV (0, "begun", "qa"))) = H1 at T1 s1 ⊢
  walk_at "rd"
  refine ⟨by walk_at "sz", fun t2 n2 => ?_⟩
  have T2 : TriAt (upd H1 t2 (.tup (triV (0, "begun", "qb")))) [t1, t2] d2 := T1.snoc n2
  have s2 := s1.trans (same_new n2 (.tup (triV (0, "begun", "qb"))))
  generalize hH2 : upd H1 t2 (.tup (triV (0, "begun", "qb"))) = H2 at T2 s2
  change upd H1 t2 (.tup [V.int 0, V.str "begun", V.str "qb"]) = H2 at hH2
  rw [hH2]
  walk_at "rd"
  refine ⟨by walk_at "sz", fun r nr => ?_⟩
  have T3 : TriAt (upd H2 r (.lst [V.ref t1, V.ref t2])) [t1, t2] d2 := T2.new nr
  have s3 := s2.trans (same_new nr (.lst [V.ref t1, V.ref t2]))
  have e3 : upd H2 r (.lst [V.ref t1, V.ref t2]) r = some (.lst [V.ref t1, V.ref t2]) := upd_same
  have nr0 : H r = none := same_none s2 nr
  generalize upd H2 r (.lst [V.ref t1, V.ref t2]) = H3 at T3 s3 e3 ⊢
  walk_at "rd"
  have z1 := n1
  have z2 := same_none s1 n2
  walk_at "if"
  all_goals rename_i c0
  all_goals walk_at "rd"
  · rw [if_pos c0] at q
    refine q r [t1, t2] H3 s3 nr0 (fun x hx => ?_) ⟨e3, T3⟩
    simp only [List.mem_cons, List.not_mem_nil, or_false] at hx
    rcases hx with rfl | rfl
    · exact z1
    · exact z2
  rw [if_neg c0] at q
  refine ⟨by walk_at "sz", fun t4a n1 => ?_⟩
  have T4a : TriAt (upd H3 t4a (.tup [V.int (t), V.str "told", V.str "qa"])) ([t1, t2] ++ [t4a]) (d2 ++ [((t, "told", "qa") : Tri)]) := T3.snoc (e := (t, "told", "qa")) n1
  have s4a := s3.trans (same_new n1 (.tup [V.int (t), V.str "told", V.str "qa"]))
  have e4a := same_new n1 (.tup [V.int (t), V.str "told", V.str "qa"]) _ _ e3
  generalize upd H3 t4a (.tup [V.int (t), V.str "told", V.str "qa"]) = H4a at T4a s4a e4a ⊢
  walk_at "rd"
  refine ⟨by walk_at "sz", fun t4b n2 => ?_⟩
  have T4b : TriAt (upd H4a t4b (.tup [V.int (t), V.str "told", V.str "qb"])) ([t1, t2] ++ [t4a] ++ [t4b]) (d2 ++ [((t, "told", "qa") : Tri)] ++ [((t, "told", "qb") : Tri)]) := T4a.snoc (e := (t, "told", "qb")) n2
  have s4b := s4a.trans (same_new n2 (.tup [V.int (t), V.str "told", V.str "qb"]))
  have e4b := same_new n2 (.tup [V.int (t), V.str "told", V.str "qb"]) _ _ e4a
  generalize upd H4a t4b (.tup [V.int (t), V.str "told", V.str "qb"]) = H4b at T4b s4b e4b ⊢
  walk_at "rd"
  have z3 := same_none s3 n1
  have z4 := same_none s4a n2
  refine ⟨by walk_at "sz", fun l4 nl => ?_⟩
  have nl0 := neN nl e4b
  refine w_cat ((upd_ne nl0).trans e4b) upd_same (by walk_at "sz") fun da4 nd => ?_
  have T4 := (T4b.new (o := .lst [V.ref t4a, V.ref t4b]) nl).new (o := .lst (([t1, t2]).map V.ref ++ [V.ref t4a, V.ref t4b])) nd
  have s4 : Same H _ := same_upd (o := .lst (([t1, t2]).map V.ref ++ [V.ref t4a, V.ref t4b])) (same_upd (o := .lst [V.ref t4a, V.ref t4b]) s4b nl) nd
  have e4 : upd (upd H4b l4 (.lst [V.ref t4a, V.ref t4b])) da4 (.lst (([t1, t2]).map V.ref ++ [V.ref t4a, V.ref t4b])) da4 = some (.lst (([t1, t2]).map V.ref ++ [V.ref t4a, V.ref t4b])) := upd_same
  have n40 : H da4 = none := same_none (same_upd (o := .lst [V.ref t4a, V.ref t4b]) s4b nl) nd
  change gName 4 (V.ref da4) _ (upd (upd H4b l4 (.lst [V.ref t4a, V.ref t4b])) da4 (.lst (([t1, t2]).map V.ref ++ [V.ref t4a, V.ref t4b]))) _
  generalize upd (upd H4b l4 (.lst [V.ref t4a, V.ref t4b])) da4 (.lst (([t1, t2]).map V.ref ++ [V.ref t4a, V.ref t4b])) = H4 at T4 s4 e4 ⊢
  walk_at "rd"
  walk_at "if"
  all_goals rename_i c1
  · rw [if_pos c1] at q
    walk_at "rd"
    refine q da4 [t1, t2, t4a, t4b] H4 s4 n40 (fun x hx => ?_) ⟨e4, T4⟩
    simp only [List.mem_cons, List.not_mem_nil, or_false] at hx
    rcases hx with rfl | rfl | rfl | rfl
    · exact z1
    · exact z2
    · exact z3
    · exact z4
  rw [if_neg c1] at q
  walk_at "rd"
  refine w_cut (fun σ H' => H' = H4 ∧ σ = [some (.int c), some (.int t), some (.int s), some (.int g), some (.ref da4), some (.int (t + min s g)), some (.str (if s ≤ g then "ended" else "cut"))]) ?_ (fun σ H' hm => ?_)
  · walk_at "rd"
    walk_at "if"
    all_goals rename_i c2
    all_goals walk_at "rd"
    · exact ⟨rfl, by rw [if_pos c2]⟩
    · exact ⟨rfl, by rw [if_neg c2]⟩
  obtain ⟨rfl, rfl⟩ := hm
  generalize (if s ≤ g then ("ended" : Str) else "cut") = wd at *
  walk_at "rd"
  refine ⟨by walk_at "sz", fun t6a n1 => ?_⟩
  have T6a : TriAt (upd H' t6a (.tup [V.int (t + min s g), V.str wd, V.str "qb"])) ([t1, t2, t4a, t4b] ++ [t6a]) (d4 t ++ [((t + min s g, wd, "qb") : Tri)]) := T4.snoc (e := (t + min s g, wd, "qb")) n1
  have s6a := s4.trans (same_new n1 (.tup [V.int (t + min s g), V.str wd, V.str "qb"]))
  have e6a := same_new n1 (.tup [V.int (t + min s g), V.str wd, V.str "qb"]) _ _ e4
  generalize upd H' t6a (.tup [V.int (t + min s g), V.str wd, V.str "qb"]) = H6a at T6a s6a e6a ⊢
  walk_at "rd"
  refine ⟨by walk_at "sz", fun t6b n2 => ?_⟩
  have T6b : TriAt (upd H6a t6b (.tup [V.int (t + min s g), V.str "ended", V.str "qa"])) ([t1, t2, t4a, t4b] ++ [t6a] ++ [t6b]) (d4 t ++ [((t + min s g, wd, "qb") : Tri)] ++ [((t + min s g, "ended", "qa") : Tri)]) := T6a.snoc (e := (t + min s g, "ended", "qa")) n2
  have s6b := s6a.trans (same_new n2 (.tup [V.int (t + min s g), V.str "ended", V.str "qa"]))
  have e6b := same_new n2 (.tup [V.int (t + min s g), V.str "ended", V.str "qa"]) _ _ e6a
  generalize upd H6a t6b (.tup [V.int (t + min s g), V.str "ended", V.str "qa"]) = H6b at T6b s6b e6b ⊢
  walk_at "rd"
  have z5 := same_none s4 n1
  have z6 := same_none s6a n2
  refine ⟨by walk_at "sz", fun l6 nl => ?_⟩
  have nl0 := neN nl e6b
  refine w_cat ((upd_ne nl0).trans e6b) upd_same (by walk_at "sz") fun da6 nd => ?_
  have T6 := (T6b.new (o := .lst [V.ref t6a, V.ref t6b]) nl).new (o := .lst (([t1, t2, t4a, t4b]).map V.ref ++ [V.ref t6a, V.ref t6b])) nd
  have s6 : Same H _ := same_upd (o := .lst (([t1, t2, t4a, t4b]).map V.ref ++ [V.ref t6a, V.ref t6b])) (same_upd (o := .lst [V.ref t6a, V.ref t6b]) s6b nl) nd
  have e6 : upd (upd H6b l6 (.lst [V.ref t6a, V.ref t6b])) da6 (.lst (([t1, t2, t4a, t4b]).map V.ref ++ [V.ref t6a, V.ref t6b])) da6 = some (.lst (([t1, t2, t4a, t4b]).map V.ref ++ [V.ref t6a, V.ref t6b])) := upd_same
  have n60 : H da6 = none := same_none (same_upd (o := .lst [V.ref t6a, V.ref t6b]) s6b nl) nd
  refine q da6 [t1, t2, t4a, t4b, t6a, t6b] _ s6 n60 (fun x hx => ?_) ⟨e6, T6⟩
  simp only [List.mem_cons, List.not_mem_nil, or_false] at hx
  rcases hx with rfl | rfl | rfl | rfl | rfl | rfl
  · exact z1
  · exact z2
  · exact z3
  · exact z4
  · exact z5
  · exact z6
def spStands8 (C : Cs) : Sp := fun vs H Q _ => ∃ (A : TA) (a : HA) (g s : Int) (h : HS) (p : Addr) (ts : List Addr), vs = [.ref a.h, .ref p] ∧ HR C A a (D8 g s) h H ∧ (D8 g s).WF ∧ TriL H p ts (h.book.map (triOf (D8 g s))) ∧
  ((h.book.length = 2 ∧ (h.posts 0).phase = .on ∧ (h.posts 1).phase = .on) ∨ (h.book.length = 4 ∧ (h.posts 0).phase = .down ∧ (h.posts 1).phase = .told) ∨ (h.book.length = 6 ∧ (h.posts 0).phase = .off ∧ (h.posts 1).phase = .off)) ∧ ∀ H', Same H H' → Q (.bl true) H'
end
end Mn

namespace Mn
open PySem PySem.Spec PyProof.Rows L2 TL
theorem wd_ok (x : Wd) : PyData.strOk x.s = true := by cases x <;> decide +kernel
theorem nm8_ok {g s : Int} (i : Nat) : PyData.strOk ((D8 g s).sh i).name = true := by
  match i with
  | 0 => exact (by decide +kernel : PyData.strOk ("qa" : Str) = true)
  | 1 => exact (by decide +kernel : PyData.strOk ("qb" : Str) = true)
  | i + 2 => exact (by decide +kernel : PyData.strOk (default : Shp).name = true)
section
variable {P : Program} {w : World} {K : PySem.W.Frag} {mg : Str → Option Value} {base : Heap} {C : Cs}
theorem dp_triL {K : PySem.W.Frag} {H : Hp} {p : Addr} {ts : List Addr} {L : List Tri} (T : TriL H p ts L) : Dp K H (.ref p) (.list (L.map triD)) := .lst (SqL.of T.ls) (dp_tri ts L T.tr.ln T.tr.at_)
theorem ok_stands8 {f : Addr} {fd : FuncData} (F : Fun K "_law_stands" "_law_stands" s_law_stands f fd) (T : Bt mg) (kh : KH K C) (MR : Mth P w K mg base CX0 C.H "rows" 2 ["self"] [] (spHRows C)) (MD : Mth P w K mg base CX0 C.H "doing" 2 ["self", "name"] [] (spDoing C)) (MO : Mth P w K mg base CX0 C.H "on" 1 ["self"] [] (spHOn C)) : FnOk P w K mg base CX0 3 f fd ["_law_house", "_law_due_here"] (spStands8 C) := by
  refine F.ok sc_law_stands (fun vs H Q E h => ?_) (fun cdv A outer s H vs Q E hr h => ?_)
  · obtain ⟨A, a, g, s, h, p, ts, rfl, _⟩ := h
    rfl
  obtain ⟨A, a, g, s, h, p, ts, rfl, R, W, TL, hst, q⟩ := h
  have cH := kh.cH
  have cT := kh.cT
  obtain ⟨hh, ht⟩ := R.facts rfl
  refine ⟨_, (pss_cons (ps_set (i := 2) sc_law_stands.nd rfl (Or.inl rfl) (pe_ma0 (P := P) (w := w) (K := K) (mg := mg) (base := base) ⟨rfl, rfl, rfl, rfl, rfl⟩ hr (pv 0)))
    (pss_cons (ps_if (PW.pt (pw_or (pt_not (pt_val (pe_callB (kIsi (K := K) rfl) (by rfl) T.isinstance (by decide +kernel) (pa_cons (pv 2) (pa_cons (pe_bltn (v := .ty "list") (u := .type "list") rfl T.list (by decide +kernel) rfl) pa_nil))))) (pw_or1 (pt_cmpR (kNeD (K := K) rfl hr.units) (pv 2) (pv 1) (nomark _))))) (pss_one (ps_ret pe_bl)) pss_nil)
    (pss_cons (ps_expr (kBm (K := K) rfl PySem.F.plainAttrs_list PySem.F.slot_list_append PySem.F.type_list_append mt_append (pv 2) (pa_cons pe_int pa_nil)))
    (pss_cons (ps_set (i := 3) sc_law_stands.nd rfl (Or.inl rfl) (pe_lst (pa_cons pe_str (pa_cons pe_str pa_nil))))
    (pss_cons (ps_set (i := 4) sc_law_stands.nd rfl (Or.inl rfl) (pe_lst (pa_cons pe_str (pa_cons pe_str pa_nil))))
    (C8.pss_cut (ps_if (pt_cmpR op_eq (pe_callB (kLenL (K := K) rfl) (by rfl) T.len (by decide +kernel) (pa_cons (pv 1) pa_nil)) pe_int (nomark _)) (pss_one (ps_set (i := 3) sc_law_stands.nd rfl (Or.inl rfl) (pe_lst (pa_cons pe_str (pa_cons pe_str pa_nil))))) pss_nil)
    (C8.pss_cut (ps_if (pt_cmpR op_eq (pe_callB (kLenL (K := K) rfl) (by rfl) T.len (by decide +kernel) (pa_cons (pv 1) pa_nil)) pe_int (nomark _)) (pss_cons (ps_set (i := 3) sc_law_stands.nd rfl (Or.inl rfl) (pe_lst (pa_cons pe_str (pa_cons pe_str pa_nil))))
    (pss_one (ps_set (i := 4) sc_law_stands.nd rfl (Or.inl rfl) (pe_lst pa_nil)))) pss_nil)
    (pss_cons (ps_if (PW.pt (pw_or (pt_cmpR op_ne (pe_ma (P := P) (w := w) (K := K) (mg := mg) (base := base) ⟨rfl, rfl, rfl, rfl, rfl⟩ hr (pv 0) (pa_cons pe_str pa_nil)) (pe_ix (kIxL (K := K) rfl) (pv 3) pe_int (fun _ _ => rfl)) (nomark _)) (pw_or1 (pt_cmpR op_ne (pe_ma (P := P) (w := w) (K := K) (mg := mg) (base := base) ⟨rfl, rfl, rfl, rfl, rfl⟩ hr (pv 0) (pa_cons pe_str pa_nil)) (pe_ix (kIxL (K := K) rfl) (pv 3) pe_int (fun _ _ => rfl)) (nomark _))))) (pss_one (ps_ret pe_bl)) pss_nil)
    (pss_one (ps_ret (pe_cmpR (kEqS (K := K) rfl hr.units) (pe_ma0 (P := P) (w := w) (K := K) (mg := mg) (base := base) ⟨rfl, rfl, rfl, rfl, rfl⟩ hr (pv 0)) (pv 4) (nomark _)))))))))))), ?_⟩
  walk_at "rd"
  refine w_ma1 hh cH.cl rfl MR (by decide) ?_
  walk_at "rd"
  refine ⟨A, a, D8 g s, h, rfl, R, fun u hu => ?_⟩
  have s1 := same_new hu (.lst (a.ts.map V.ref))
  have R1 := R.same s1
  have TL1 := TL.same s1
  have T1 : TriL (upd H u (.lst (a.ts.map V.ref))) u a.ts (h.book.map (triOf (D8 g s))) := by
    refine ⟨upd_same, by rw [List.length_map]; exact R.lt, fun k t e h1 h2 => ?_⟩
    rw [List.getElem?_map] at h2
    obtain ⟨e', h3, rfl⟩ := Option.map_eq_some_iff.mp h2
    exact s1 _ _ (R.ht k t e' h1 h3)
  generalize upd H u (.lst (a.ts.map V.ref)) = H1 at *
  walk_at "rd"
  refine w_isi (TyX.base (TyOf.lst T1.ls)) kit_ll ?_
  refine w_bl ?_
  rw [Bool.not_true]
  walk_at "rd"
  have lay : SeqAt.shaped (.list ((h.book.map (triOf (D8 g s))).map triD)) = true := tri_lay fun e he => by
    obtain ⟨x, _, rfl⟩ := List.mem_map.mp he
    exact ⟨wd_ok x.w, nm8_ok x.a⟩
  refine ⟨_, _, dp_triL T1, dp_triL TL1, lay, lay, ?_⟩
  rw [PyData.eqv, tri_eqv, Bool.not_true]
  walk_at "rd"
  have T1l := T1.ls
  have zl := PySem.sizeLine_eq
  have bl6 : h.book.length ≤ 6 := by rcases hst with h | h | h <;> omega
  refine w_tyL (SqL.of T1l) ?_
  walk_at "rd"
  refine w_app T1l (by rw [List.length_map, R.lt]; omega) ?_
  have s2 := same_mut (o := .lst (a.ts.map V.ref ++ [V.int 7])) s1 hu
  generalize upd H1 u (.lst (a.ts.map V.ref ++ [V.int 7])) = H2 at s2 ⊢
  walk_at "rd"
  refine ⟨by walk_at "sz", fun pw npw => ?_⟩
  have s3 := s2.trans (same_new npw (.lst [V.str "on", V.str "on"]))
  have e3 : upd H2 pw (.lst [V.str "on", V.str "on"]) pw = some (.lst [V.str "on", V.str "on"]) := upd_same
  generalize upd H2 pw (.lst [V.str "on", V.str "on"]) = H3 at s3 e3 ⊢
  walk_at "rd"
  refine ⟨by walk_at "sz", fun po npo => ?_⟩
  have s4 := s3.trans (same_new npo (.lst [V.str "qa", V.str "qb"]))
  have e4 := same_new npo (.lst [V.str "qa", V.str "qb"]) _ _ e3
  have f4 : upd H3 po (.lst [V.str "qa", V.str "qb"]) po = some (.lst [V.str "qa", V.str "qb"]) := upd_same
  generalize upd H3 po (.lst [V.str "qa", V.str "qb"]) = H4 at s4 e4 f4 ⊢
  have hp4 := s4 _ _ TL.ls
  have lts : ts.length = h.book.length := by rw [TL.tr.ln, List.length_map]
  walk_at "rd"
  refine w_cut (fun σ H' => ∃ pw, σ = [some (.ref a.h), some (.ref p), some (.ref u), some (.ref pw), some (.ref po)] ∧ Same H H' ∧ H' po = some (.lst [V.str "qa", V.str "qb"]) ∧ H' pw = some (.lst [V.str (if h.book.length = 4 then "down" else "on"), V.str (if h.book.length = 4 then "told" else "on")])) ?_ (fun σ H' hm => ?_)
  · walk_at "rd"
    rw [List.length_map, lts]
    walk_at "if"
    all_goals rename_i c
    · have c : h.book.length = 4 := by have := V.int.inj c; omega
      walk_at "rd"
      refine ⟨by walk_at "sz", fun x nx => ?_⟩
      walk_at "rd"
      exact ⟨x, rfl, s4.trans (same_new nx _), same_new nx _ _ _ f4, by rw [if_pos c, if_pos c]; exact upd_same⟩
    · have c : ¬ h.book.length = 4 := fun z => c (by rw [z]; rfl)
      walk_at "rd"
      exact ⟨pw, rfl, s4, f4, by rw [if_neg c, if_neg c]; exact e4⟩
  obtain ⟨pw, rfl, s5, f5, e5⟩ := hm
  have hp5 := s5 _ _ TL.ls
  walk_at "rd"
  refine w_cut (fun σ H' => ∃ pw po, σ = [some (.ref a.h), some (.ref p), some (.ref u), some (.ref pw), some (.ref po)] ∧ Same H H' ∧ H' po = some (.lst ((if h.book.length = 6 then [] else ["qa", "qb"] : List Str).map V.str)) ∧ H' pw = some (.lst [V.str (h.posts 0).phase.s, V.str (h.posts 1).phase.s])) ?_ (fun σ H' hm => ?_)
  · walk_at "rd"
    rw [List.length_map, lts]
    walk_at "if"
    all_goals rename_i c
    · have c : h.book.length = 6 := by have := V.int.inj c; omega
      walk_at "rd"
      refine ⟨by walk_at "sz", fun x nx => ?_⟩
      have s6 := s5.trans (same_new nx (.lst [V.str "off", V.str "off"]))
      have e6 : upd H' x (.lst [V.str "off", V.str "off"]) x = some (.lst [V.str "off", V.str "off"]) := upd_same
      generalize upd H' x (.lst [V.str "off", V.str "off"]) = H6 at s6 e6 ⊢
      walk_at "rd"
      refine ⟨by walk_at "sz", fun y ny => ?_⟩
      walk_at "rd"
      refine ⟨x, y, rfl, s6.trans (same_new ny _), by rw [if_pos c]; exact upd_same, ?_⟩
      rw [same_new ny _ _ _ e6]
      rcases hst with z | z | z
      · omega
      · omega
      · rw [z.2.1, z.2.2]
        rfl
    · have c : ¬ h.book.length = 6 := fun z => c (by rw [z]; rfl)
      walk_at "rd"
      refine ⟨pw, po, rfl, s5, by rw [if_neg c]; exact f5, ?_⟩
      rw [e5]
      rcases hst with z | z | z
      · rw [if_neg (by omega), if_neg (by omega), z.2.1, z.2.2]
        rfl
      · rw [if_pos z.1, if_pos z.1, z.2.1, z.2.2]
        rfl
      · exact absurd z.1 c
  obtain ⟨pw, po, rfl, s6, f6, e6⟩ := hm
  have R6 := R.same s6
  obtain ⟨hh6, ht6⟩ := R6.facts rfl
  walk_at "rd"
  refine w_ma1 hh6 cH.cl rfl MD (by decide) ?_
  walk_at "rd"
  refine ⟨A, a, D8 g s, h, 0, rfl, R6, W, (by show 0 < 2; decide), ?_⟩
  walk_at "rd"
  refine w_ixL (v := .str (h.posts 0).phase.s) (SqL.of e6) (at_nat (i := 0) rfl rfl) ?_
  walk_at "rd"
  rw [decide_eq_true rfl, Bool.not_true]
  walk_at "rd"
  refine w_ma1 hh6 cH.cl rfl MD (by decide) ?_
  walk_at "rd"
  refine ⟨A, a, D8 g s, h, 1, rfl, R6, W, (by show 1 < 2; decide), ?_⟩
  walk_at "rd"
  refine w_ixL (v := .str (h.posts 1).phase.s) (SqL.of e6) (at_nat (i := 1) rfl rfl) ?_
  walk_at "rd"
  rw [decide_eq_true rfl, Bool.not_true]
  walk_at "rd"
  refine w_ma1 hh6 cH.cl rfl MO (by decide) ?_
  walk_at "rd"
  refine ⟨A, a, D8 g s, h, rfl, R6, W, fun x H7 nx s7 e7 => ?_⟩
  have on8 : h.ons (D8 g s) (D8 g s).n = (if h.book.length = 6 then [] else ["qa", "qb"] : List Str) := by
    show h.ons (D8 g s) 2 = _
    rw [ons_succ, ons_succ]
    rcases hst with z | z | z
    · rw [if_neg (show ¬ h.book.length = 6 by omega), if_pos (show (h.posts 0).phase ≠ .off by rw [z.2.1]; intro z; cases z), if_pos (show (h.posts 1).phase ≠ .off by rw [z.2.2]; intro z; cases z)]
      rfl
    · rw [if_neg (show ¬ h.book.length = 6 by omega), if_pos (show (h.posts 0).phase ≠ .off by rw [z.2.1]; intro z; cases z), if_pos (show (h.posts 1).phase ≠ .off by rw [z.2.2]; intro z; cases z)]
      rfl
    · rw [if_pos z.1, if_neg (show ¬ (h.posts 0).phase ≠ .off by rw [z.2.1]; exact fun z => z rfl), if_neg (show ¬ (h.posts 1).phase ≠ .off by rw [z.2.2]; exact fun z => z rfl)]
      rfl
  rw [on8] at e7
  walk_at "rd"
  refine w_eqLS (SqL.of e7) (SqL.of (s7 _ _ f6)) ?_ ?_ ?_
  · split <;> decide +kernel
  · split <;> decide +kernel
  rw [decide_eq_true rfl]
  exact q _ (s6.trans s7)
end
end Mn

namespace Mn
open PySem PySem.Spec PyProof.Rows L2 TL
/-! ### the law's own things beside a house -/
/-- a list that the house leaves alone -/
def SqO (K : PySem.W.Frag) (a : HA) (H : Hp) (p : Addr) (xs : List V) : Prop := (a.rl p = .out ∧ Rd H p (.lst xs)) ∨ ∀ H', SqL K H' p xs
theorem SqO.sq {K : PySem.W.Frag} {a : HA} {H : Hp} {p : Addr} {xs : List V} (h : SqO K a H p xs) : SqL K H p xs := by
  rcases h with ⟨_, h⟩ | h
  · exact .inl h
  · exact h H
theorem SqO.of {K : PySem.W.Frag} {a : HA} {H : Hp} {p : Addr} {xs : List V} (h : SqL K H p xs) (o : ∀ u, H p = some u → a.rl p = .out) : SqO K a H p xs := by
  rcases h with (h | ⟨u, h⟩) | h
  · exact .inl ⟨o _ h, .inl h⟩
  · exact .inl ⟨o _ h, .inr ⟨u, h⟩⟩
  · exact .inr fun _ => .inr h
theorem SqO.fr {K : PySem.W.Frag} {n : Nat} {a a' : HA} {H H' : Hp} {p : Addr} {xs : List V} (F : Fr n a H a' H') (h : SqO K a H p xs) : SqO K a' H' p xs := by
  rcases h with ⟨o, h | ⟨u, h⟩⟩ | h
  · exact .inl ⟨(F.k _ _ o h).1, .inl (F.k _ _ o h).2⟩
  · exact .inl ⟨(F.k _ _ o h).1, .inr ⟨u, (F.k _ _ o h).2⟩⟩
  · exact .inr h
theorem SqO.same {K : PySem.W.Frag} {a : HA} {H H' : Hp} {p : Addr} {xs : List V} (e : Same H H') (h : SqO K a H p xs) : SqO K a H' p xs := by
  rcases h with ⟨o, h | ⟨u, h⟩⟩ | h
  · exact .inl ⟨o, .inl (e _ _ h)⟩
  · exact .inl ⟨o, .inr ⟨u, e _ _ h⟩⟩
  · exact .inr h
/-- an own thing of the law -/
def OwnO (a : HA) (H : Hp) (p : Addr) (o : HO) : Prop := a.rl p = .out ∧ H p = some o
theorem OwnO.fr {n : Nat} {a a' : HA} {H H' : Hp} {p : Addr} {o : HO} (F : Fr n a H a' H') (h : OwnO a H p o) : OwnO a' H' p o := F.k _ _ h.1 h.2
theorem OwnO.same {a : HA} {H H' : Hp} {p : Addr} {o : HO} (e : Same H H') (h : OwnO a H p o) : OwnO a H' p o := ⟨h.1, e _ _ h.2⟩
/-- what is no part of a tree that was read after it was there -/
theorem not_tree {CT : Addr} {cls : Nat → Addr} {A : TA} {D : TreeD} {H H1 : Hp} (s : Same H H1) (R : TRm CT cls A D H1) (fr : ∀ b ∈ A.foot, H b = none) {b : Addr} {o : HO} (hb : H b = some o) (no : ∀ C dx fs, o ≠ .ins C dx fs) : b ∉ A.all := fun hm => by
  rcases List.mem_append.mp hm with hm | hm
  · rw [fr b hm] at hb
    cases hb
  · obtain ⟨i, hi, e⟩ := List.getElem_of_mem hm
    obtain ⟨dx, h⟩ := R.hps i b (by rw [List.getElem?_eq_getElem hi, e])
    rw [s _ _ hb] at h
    exact no _ _ _ (Option.some.inj h)
theorem SqO.built {K : PySem.W.Frag} {CT : Addr} {cls : Nat → Addr} {A : TA} {D : TreeD} {a : HA} {H H1 H2 : Hp} (s : Same H H1) (R : TRm CT cls A D H1) (fr : ∀ b ∈ A.foot, H b = none) (k : ∀ b o, H1 b = some o → b ∉ A.all → a.rl b = .out ∧ H2 b = some o) {b : Addr} {xs : List V} (hb : SqL K H b xs) : SqO K a H2 b xs := by
  rcases hb with (h | ⟨u, h⟩) | h
  · have := k b _ (s _ _ h) (not_tree s R fr h fun C dx fs e => by cases e)
    exact .inl ⟨this.1, .inl this.2⟩
  · have := k b _ (s _ _ h) (not_tree s R fr h fun C dx fs e => by cases e)
    exact .inl ⟨this.1, .inr ⟨u, this.2⟩⟩
  · exact .inr fun _ => .inr h
theorem OwnO.built {CT : Addr} {cls : Nat → Addr} {A : TA} {D : TreeD} {a : HA} {H H1 H2 : Hp} (s : Same H H1) (R : TRm CT cls A D H1) (fr : ∀ b ∈ A.foot, H b = none) (k : ∀ b o, H1 b = some o → b ∉ A.all → a.rl b = .out ∧ H2 b = some o) {b : Addr} {o : HO} (hb : H b = some o) (no : ∀ C dx fs, o ≠ .ins C dx fs) : OwnO a H2 b o :=
  k b _ (s _ _ hb) (not_tree s R fr hb no)
end Mn

namespace Mn
open PySem PySem.Spec PyProof.Rows L2 TL
theorem text8 {g s : Int} : tl (("minder never rest 0 1 qa\n  leaf always " : Str) ++ Str.ofString (toString g) ++ (" " : Str) ++ Str.ofString (toString s) ++ (" idle qb" : Str)) = writtenL (D8 g s) := by
  rw [tl_append, tl_append, tl_append, tl_append]
  show _ = joinL [10] [rowTextL (D8 g s) 0, rowTextL (D8 g s) 1]
  unfold rowTextL
  rw [d8_s0, d8_s1]
  show _ = (List.replicate (2 * 0) 32 ++ joinL [32] ((["minder", "never", "rest", Str.ofString (toString (0 : Int)), Str.ofString (toString (1 : Int)), "qa"] : List Str).map tl)) ++ ([10] ++ (List.replicate (2 * 1) 32 ++ joinL [32] ((["leaf", "always", Str.ofString (toString g), Str.ofString (toString s), "idle", "qb"] : List Str).map tl)))
  simp only [List.map_cons, List.map_nil]
  generalize tl (Str.ofString (toString g)) = G
  generalize tl (Str.ofString (toString s)) = S
  have e1 : tl ("minder never rest 0 1 qa\n  leaf always " : Str) = (List.replicate (2 * 0) 32 ++ joinL [32] [tl "minder", tl "never", tl "rest", tl (Str.ofString (toString (0 : Int))), tl (Str.ofString (toString (1 : Int))), tl "qa"]) ++ ([10] ++ (List.replicate (2 * 1) 32 ++ (tl "leaf" ++ ([32] ++ (tl "always" ++ [32]))))) := by decide +kernel
  have e2 : tl (" idle qb" : Str) = [32] ++ (tl "idle" ++ ([32] ++ tl "qb")) := by decide +kernel
  have e3 : tl (" " : Str) = [32] := by decide +kernel
  rw [e1, e2, e3]
  show _ = _ ++ ([10] ++ (List.replicate (2 * 1) 32 ++ (tl "leaf" ++ ([32] ++ (tl "always" ++ ([32] ++ (G ++ ([32] ++ (S ++ ([32] ++ (tl "idle" ++ ([32] ++ tl "qb"))))))))))))
  simp only [List.append_assoc]
theorem len_app (x y : Str) : (x ++ y).length = x.length + y.length := by rw [len_tl, tl_append, List.length_append, ← len_tl, ← len_tl]
theorem intText_str {i : Int} (h : 0 ≤ i) (l : (Str.ofString (toString i)).length ≤ 640) : PySem.intText? (Str.ofString (toString i)) = some i := by
  obtain ⟨n, rfl⟩ : ∃ n : Nat, i = (n : Int) := ⟨i.toNat, by omega⟩
  rw [intText_figs (by rw [tl_num]; exact figs_iff.mpr (numL_digits n)) (by rw [tl_num]; exact numL_ne n) l, tl_num, numL_val]
theorem lit8 : ("minder never rest 0 1 qa\n  leaf always " : Str).length ≤ 50 ∧ (" " : Str).length ≤ 1 ∧ (" idle qb" : Str).length ≤ 10 := by decide +kernel
/-- entries that the house leaves alone -/
structure TriO (a : HA) (H : Hp) (p : Addr) (ts : List Addr) (L : List Tri) : Prop where
  tl : TriL H p ts L
  o : a.rl p = .out
  os : ∀ x ∈ ts, a.rl x = .out
theorem TriO.fr {n : Nat} {a a' : HA} {H H' : Hp} {p : Addr} {ts : List Addr} {L : List Tri} (F : Fr n a H a' H') (T : TriO a H p ts L) : TriO a' H' p ts L := by
  have h := F.k _ _ T.o T.tl.ls
  have e : ∀ x ∈ ts, ∃ k o, ts[k]? = some x ∧ L[k]? = some o := fun x hx => by
    obtain ⟨k, hk, e⟩ := List.getElem_of_mem hx
    exact ⟨k, L[k]'(by rw [← T.tl.tr.ln]; exact hk), by rw [List.getElem?_eq_getElem hk, e], List.getElem?_eq_getElem _⟩
  refine ⟨⟨h.2, T.tl.tr.ln, fun k x o h1 h2 => (F.k _ _ (T.os x (List.mem_of_getElem? h1)) (T.tl.tr.at_ k x o h1 h2)).2⟩, h.1, fun x hx => ?_⟩
  obtain ⟨k, o, h1, h2⟩ := e x hx
  exact (F.k _ _ (T.os x hx) (T.tl.tr.at_ k x o h1 h2)).1
/-- behind j turns since the stop -/
def T8 (g s : Int) (h : HS) (t j : Nat) : Prop := ((j : Int) < s ∧ (j : Int) < g ∧ S2 g s h t (t + j)) ∨ (¬ ((j : Int) < s ∧ (j : Int) < g) ∧ S3 h t (t + (min s g).toNat) (w8 g s))
theorem T8.turn {g s : Int} {h h' : HS} {t j : Nat} (S : T8 g s h t j) (e : h.turn (D8 g s) = some h') : T8 g s h' t (j + 1) := by
  rcases S with ⟨c1, c2, S⟩ | ⟨c, S⟩
  · obtain ⟨x, y⟩ := turn8_2 S e
    have ej : t + j + 1 - t = j + 1 := by omega
    rw [ej] at x y
    by_cases c : (((j + 1 : Nat) : Int) < s ∧ ((j + 1 : Nat) : Int) < g)
    · exact .inl ⟨c.1, c.2, x c⟩
    · have em : t + (min s g).toNat = t + j + 1 := by omega
      exact .inr ⟨c, by rw [em]; exact y c⟩
  · exact .inr ⟨fun z => c (by omega), turn8_3 S e⟩
theorem T8.book {g s : Int} (hs : 0 ≤ s) (hg : 0 ≤ g) {h : HS} {t j : Nat} (S : T8 g s h t j) : h.book.map (triOf (D8 g s)) = due8 ((t + j : Nat) : Int) (t : Int) s g := by
  unfold due8
  rw [if_neg (by omega)]
  rcases S with ⟨c1, c2, S⟩ | ⟨c, S⟩
  · rw [if_pos (by omega), S.bk]
    rfl
  · rw [if_neg (by omega)]
    have e : (((t + (min s g).toNat : Nat)) : Int) = (t : Int) + min s g := by omega
    have eb : h.book.map (triOf (D8 g s)) = d4 (t : Int) ++ ([(((t + (min s g).toNat : Nat) : Int), (w8 g s).s, "qb"), (((t + (min s g).toNat : Nat) : Int), "ended", "qa")] : List Tri) := by
      rw [S.bk]
      rfl
    rw [eb, e]
    by_cases c : s ≤ g
    · rw [show w8 g s = .ended from if_pos c, if_pos c]
      rfl
    · rw [show w8 g s = .cut from if_neg c, if_neg c]
      rfl
theorem T8.stage {g s : Int} {h : HS} {t j : Nat} (S : T8 g s h t j) : (h.book.length = 2 ∧ (h.posts 0).phase = .on ∧ (h.posts 1).phase = .on) ∨ (h.book.length = 4 ∧ (h.posts 0).phase = .down ∧ (h.posts 1).phase = .told) ∨ (h.book.length = 6 ∧ (h.posts 0).phase = .off ∧ (h.posts 1).phase = .off) := by
  rcases S with ⟨_, _, S⟩ | ⟨_, S⟩
  · exact .inr (.inl ⟨by rw [S.bk]; rfl, S.a1, S.c1⟩)
  · exact .inr (.inr ⟨by rw [S.bk]; rfl, S.a1, S.c1⟩)
section
variable {P : Program} {w : World} {K : PySem.W.Frag} {mg : Str → Option Value} {base : Heap} {C : Cs}
def spLaw (K : PySem.W.Frag) : Sp := fun vs H Q _ => ∃ (a : Addr) (ns : List Int), vs = [.ref a] ∧ SqL K H a (ns.map V.int) ∧ ns.length ≤ 63 ∧ ∀ H', Q (.bl true) H'
theorem ok_law {CN f : Addr} {fd : FuncData} (F : Fun K "law" "law" s_law f fd) (T : Bt mg) (kh : KH K C) (e_NotOn : NamK K mg "NotOn" CN) (eN : PySem.W.exmOne K (.ref CN) (.ref CN) = some true) (CC : Cal P w K mg base CX0 "_law_cell_at" 1 ["_law_script", "_law_k"] [] (spCell K)) (CM : Cal P w K mg base CX0 "_law_number" 1 ["_law_cell"] [] spNum8)
    (CD : Cal P w K mg base CX0 "_law_due" 1 ["_law_clock", "_law_stop", "_law_slow", "_law_grace"] [] spDue8) (CS : Cal P w K mg base CX0 "_law_stands" 3 ["_law_house", "_law_due_here"] [] (spStands8 C)) (CR : Cal P w K mg base CX0 "read" 7 ["text"] [] (spRead C.T C.cls)) (CB : Cal P w K mg base CX0 "built" 15 ["tree"] [] (spBuilt C))
    (MT : Mth P w K mg base CX0 C.H "turn" 56 ["self"] [] (spTurn C)) (MS : Mth P w K mg base (CXN P w) C.H "stop" 56 ["self"] [] (spStop C CN)) (MC : Mth P w K mg base CX0 C.H "stop" 56 ["self"] [] (fun vs H Q _ => spStop C CN vs H Q E0)) : FnOk P w K mg base CX0 58 f fd ["_law_script"] (spLaw K) := by
  refine F.ok sc_law (fun vs H Q E h => ?_) (fun cdv A0 outer s0 H vs Q E hr h => ?_)
  · obtain ⟨a0, ns, rfl, _⟩ := h
    rfl
  obtain ⟨a0, ns, rfl, hS, hl, q⟩ := h
  have cH := kh.cH
  have cT := kh.cT
  refine ⟨_, (pss_cons (ps_set (i := 1) sc_law.nd rfl (Or.inl rfl) (pe_ca (P := P) (w := w) (K := K) (mg := mg) (base := base) ⟨rfl, rfl, rfl, rfl, rfl⟩ hr rfl (pa_cons (pe_ca (P := P) (w := w) (K := K) (mg := mg) (base := base) ⟨rfl, rfl, rfl, rfl, rfl⟩ hr rfl (pa_cons (pv 0) (pa_cons pe_int pa_nil))) pa_nil)))
    (pss_cons (ps_set (i := 2) sc_law.nd rfl (Or.inl rfl) (pe_ca (P := P) (w := w) (K := K) (mg := mg) (base := base) ⟨rfl, rfl, rfl, rfl, rfl⟩ hr rfl (pa_cons (pe_ca (P := P) (w := w) (K := K) (mg := mg) (base := base) ⟨rfl, rfl, rfl, rfl, rfl⟩ hr rfl (pa_cons (pv 0) (pa_cons pe_int pa_nil))) pa_nil)))
    (pss_cons (ps_set (i := 3) sc_law.nd rfl (Or.inl rfl) (pe_ca (P := P) (w := w) (K := K) (mg := mg) (base := base) ⟨rfl, rfl, rfl, rfl, rfl⟩ hr rfl (pa_cons (pe_ca (P := P) (w := w) (K := K) (mg := mg) (base := base) ⟨rfl, rfl, rfl, rfl, rfl⟩ hr rfl (pa_cons (pe_op op_addS (pe_op op_addS (pe_op op_addS (pe_op op_addS pe_str (pv 2)) pe_str) (pv 1)) pe_str) pa_nil)) pa_nil)))
    (pss_cons (ps_set (i := 4) sc_law.nd rfl (Or.inl rfl) (pe_op op_mod (pe_ca (P := P) (w := w) (K := K) (mg := mg) (base := base) ⟨rfl, rfl, rfl, rfl, rfl⟩ hr rfl (pa_cons (pv 0) (pa_cons pe_int pa_nil))) pe_int))
    (pss_cons (ps_for PassesOwn.never rfl (pi_range1 rfl T.range (pa_cons (pe_op op_add (pv 4) pe_int) pa_nil)) (pg_name (i := 5) sc_law.nd rfl (Or.inl rfl)) (C8.pss_cut (ps_if (pt_cmpR op_gt (pv 5) pe_int (nomark _)) (pss_one (ps_expr (pe_ma0 (P := P) (w := w) (K := K) (mg := mg) (base := base) ⟨rfl, rfl, rfl, rfl, rfl⟩ hr (pv 3)))) pss_nil)
    (pss_one (ps_if (pt_not (pt_val (pe_ca (P := P) (w := w) (K := K) (mg := mg) (base := base) ⟨rfl, rfl, rfl, rfl, rfl⟩ hr rfl (pa_cons (pv 3) (pa_cons (pe_ca (P := P) (w := w) (K := K) (mg := mg) (base := base) ⟨rfl, rfl, rfl, rfl, rfl⟩ hr rfl (pa_cons (pv 5) (pa_cons (pe_un un_neg pe_int) (pa_cons pe_int (pa_cons pe_int pa_nil))))) pa_nil))))) (pss_one (ps_ret pe_bl)) pss_nil))))
    (pss_cons (ps_for PassesOwn.never rfl (pi_range2 rfl T.range (pa_cons (pv 4) (pa_cons (pe_op op_add (pe_op op_add (pv 4) (pe_op op_mod (pe_ca (P := P) (w := w) (K := K) (mg := mg) (base := base) ⟨rfl, rfl, rfl, rfl, rfl⟩ hr rfl (pa_cons (pv 0) (pa_cons pe_int pa_nil))) pe_int)) pe_int) pa_nil))) (pg_name (i := 5) sc_law.nd rfl (Or.inl rfl)) (pss_cons (ps_set (i := 6) sc_law.nd rfl (Or.inl rfl) (pe_ca (P := P) (w := w) (K := K) (mg := mg) (base := base) ⟨rfl, rfl, rfl, rfl, rfl⟩ hr rfl (pa_cons (pv 5) (pa_cons (pv 4) (pa_cons (pe_callTy call_intS (by rfl) T.int (by decide +kernel) (pa_cons (pv 1) pa_nil)) (pa_cons (pe_callTy call_intS (by rfl) T.int (by decide +kernel) (pa_cons (pv 2) pa_nil)) pa_nil))))))
    (C8.pss_cut (ps_if (pt_cmpR op_gt (pv 5) (pv 4) (nomark _)) (pss_one (ps_expr (pe_ma0 (P := P) (w := w) (K := K) (mg := mg) (base := base) ⟨rfl, rfl, rfl, rfl, rfl⟩ hr (pv 3)))) (pss_one (ps_if (PW.pt (pw_and (pt_cmpR (op_neE hr.units) (pv 6) (pe_lst pa_nil) (nomark _)) (pw_and1 (pt_cmpR op_notNn (pe_ma0 (P := P) (w := w) (K := K) (mg := mg) (base := base) ⟨rfl, rfl, rfl, rfl, rfl⟩ hr (pv 3)) pe_non (nomark _))))) (pss_one (ps_ret pe_bl)) pss_nil)))
    (pss_cons (ps_if (pt_not (pt_val (pe_ca (P := P) (w := w) (K := K) (mg := mg) (base := base) ⟨rfl, rfl, rfl, rfl, rfl⟩ hr rfl (pa_cons (pv 3) (pa_cons (pv 6) pa_nil))))) (pss_one (ps_ret pe_bl)) pss_nil)
    (pss_cons (ps_set (i := 7) sc_law.nd rfl (Or.inl rfl) pe_bl)
    (pss_cons (ps_try_only (Wout := fun _ _ _ _ => False) rfl rfl ⟨rfl, by decide, Or.inl e_NotOn.g⟩ takes0 (fun W pn xe tk _ => by exact (pss_one (ps_expr (pe_mae0 (P := P) (w := w) (K := K) (mg := mg) (base := base) ⟨rfl, rfl, rfl, rfl, rfl⟩ hr (tk_weak tk) (pv 3))))) (fun a oe cls d pn hz hv => by exact (pss_one (ps_set (i := 7) sc_law.nd rfl (Or.inl rfl) pe_bl))))
    (pss_one (ps_if (PW.pt (pw_or (pt_cmpR op_ne (pv 7) (pe_cmpR op_eq (pe_callB (kLenL (K := K) rfl) (by rfl) T.len (by decide +kernel) (pa_cons (pv 6) pa_nil)) pe_int (nomark _)) (nomark _)) (pw_or1 (pt_not (pt_val (pe_ca (P := P) (w := w) (K := K) (mg := mg) (base := base) ⟨rfl, rfl, rfl, rfl, rfl⟩ hr rfl (pa_cons (pv 3) (pa_cons (pv 6) pa_nil)))))))) (pss_one (ps_ret pe_bl)) pss_nil))))))))
    (pss_one (ps_ret pe_bl)))))))), ?_⟩
  walk_at "rd"
  refine w_ca CM (by decide) ?_
  walk_at "rd"
  refine w_ca CC (by decide) ?_
  walk_at "rd"
  refine ⟨a0, ns, 0, rfl, hS, by omega, ?_⟩
  walk_at "rd"
  refine ⟨_, rfl, ?_⟩
  have bs := num8_le (cellAt ns 0)
  generalize num8 (cellAt ns 0) = s at bs
  walk_at "rd"
  refine w_ca CM (by decide) ?_
  walk_at "rd"
  refine w_ca CC (by decide) ?_
  walk_at "rd"
  refine ⟨a0, ns, 1, rfl, hS, by omega, ?_⟩
  walk_at "rd"
  refine ⟨_, rfl, ?_⟩
  have bg := num8_le (cellAt ns 1)
  generalize num8 (cellAt ns 1) = g at bg
  have lg := num_len bg
  have ls := num_len bs
  walk_at "rd"
  refine w_ca CB (by decide) ?_
  walk_at "rd"
  refine w_ca CR (by decide) ?_
  walk_at "rd"
  obtain ⟨l1, l2, l3⟩ := lit8
  have zl := PySem.sizeLine_eq
  refine w_addS (by omega) ?_
  walk_at "rd"
  refine w_addS (by rw [len_app]; omega) ?_
  walk_at "rd"
  refine w_addS (by rw [len_app, len_app]; omega) ?_
  walk_at "rd"
  refine w_addS (by rw [len_app, len_app, len_app]; omega) ?_
  have tx := text8 (g := g) (s := s)
  generalize ("minder never rest 0 1 qa\n  leaf always " : Str) ++ Str.ofString (toString g) ++ (" " : Str) ++ Str.ofString (toString s) ++ (" idle qb" : Str) = text at tx ⊢
  have G := d8_good bg bs
  obtain ⟨r1, r2, r3⟩ := read_written G tx
  walk_at "rd"
  refine ⟨text, D8 g s, rfl, r3, r2, r1, fun A H1 s1 RT W hn fr => ?_⟩
  walk_at "rd"
  refine ⟨A, D8 g s, rfl, RT, W, by omega, fun a H2 R k2 => ?_⟩
  have O : SqO K a H2 a0 (ns.map V.int) := SqO.built s1 RT fr k2 hS
  have HI0 := built_T W (by omega)
  have S0 := built8 (g := g) (s := s)
  generalize HS.built (D8 g s) = h0 at *
  have in8 : inc (D8 g s) = 80 := rfl
  walk_at "rd"
  refine w_ca CC (by decide) ?_
  walk_at "rd"
  refine ⟨a0, ns, 2, rfl, O.sq, by omega, ?_⟩
  walk_at "rd"
  obtain ⟨t, et, ht7⟩ : ∃ t : Nat, cellAt ns 2 % 7 = (t : Int) ∧ t < 7 := ⟨(cellAt ns 2 % 7).toNat, by omega, by omega⟩
  rw [et]
  walk_at "rd"
  refine w_forR (fun k σ H' => ∃ (h : HS) (a' : HA) (y : Option V), σ = [some (.ref a0), some (.str (Str.ofString (toString s))), some (.str (Str.ofString (toString g))), some (.ref a.h), some (.int (t : Int)), y, none, none] ∧ SqO K a' H' a0 (ns.map V.int) ∧ HR C A a' (D8 g s) h H' ∧ a'.h = a.h ∧ S1 h (k - 1) ∧ HI (D8 g s) h (8 + 160 * k)) (by omega) (by omega) ⟨h0, a, none, rfl, O, R, rfl, S0, HI0.1⟩ (fun k σ H' hk hm => ?_) (fun σ H' hm => ?_)
  · obtain ⟨h, a', y, rfl, O', R', e', S', I'⟩ := hm
    have hk : k < t + 1 := by omega
    obtain ⟨hh', ht'⟩ := R'.facts e'
    rw [Int.zero_add]
    walk_at "rd"
    refine w_cut (fun σ H3 => ∃ (h : HS) (a' : HA), σ = [some (.ref a0), some (.str (Str.ofString (toString s))), some (.str (Str.ofString (toString g))), some (.ref a.h), some (.int (t : Int)), some (.int (k : Int)), none, none] ∧ SqO K a' H3 a0 (ns.map V.int) ∧ HR C A a' (D8 g s) h H3 ∧ a'.h = a.h ∧ S1 h k ∧ HI (D8 g s) h (8 + 160 * (k + 1))) ?_ (fun σ H3 hm => ?_)
    · walk_at "rd"
      walk_at "if"
      all_goals rename_i c
      · obtain ⟨h2, et2, I2, _, _⟩ := turn_T W (M := 1000000) (by decide) I' (by rw [in8, d8_n]; omega)
        rw [in8, d8_n] at I2
        walk_at "rd"
        refine w_ma1 hh' cH.cl rfl MT (by decide) ?_
        walk_at "rd"
        refine ⟨A, a', D8 g s, h, h2, by rw [e']; rfl, R', W, et2, fun a3 H3 R3 F3 => ?_⟩
        walk_at "rd"
        refine ⟨h2, a3, rfl, O'.fr F3, R3, F3.h.trans e', ?_, by rw [show 8 + 160 * (k + 1) = 8 + 160 * k + 2 * 80 by omega]; exact I2⟩
        have := turn8_1 S' et2
        rw [show k - 1 + 1 = k by omega] at this
        exact this
      · have k0 : k = 0 := by omega
        subst k0
        walk_at "rd"
        exact ⟨h, a', rfl, O', R', e', S', ⟨I'.si, I'.hd, by have := I'.le; omega⟩⟩
    obtain ⟨h, a', rfl, O', R', e', S', I'⟩ := hm
    walk_at "rd"
    refine w_ca CS (by decide) ?_
    walk_at "rd"
    refine w_ca CD (by decide) ?_
    walk_at "rd"
    refine ⟨(k : Int), -1, 0, 0, rfl, fun p ts H4 s4 np nts TL => ?_⟩
    have TL : TriL H4 p ts (h.book.map (triOf (D8 g s))) := by
      rw [S'.bk]
      exact TL
    have R4 := R'.same s4
    walk_at "rd"
    refine ⟨A, a', g, s, h, p, ts, by rw [e']; rfl, R4, W, TL, .inl ⟨by rw [S'.bk]; rfl, by rw [S'.p0], by rw [S'.p1]⟩, fun H5 s5 => ?_⟩
    refine w_bl ?_
    rw [Bool.not_true]
    walk_at "rd"
    exact ⟨h, a', _, rfl, (O'.same s4).same s5, R4.same s5, e', S', I'⟩
  · obtain ⟨h, a', y, rfl, O', R', e', S', I'⟩ := hm
    rw [show ((t : Int) + 1).toNat = t + 1 by omega] at S' I'
    walk_at "rd"
    refine w_ca CC (by decide) ?_
    walk_at "rd"
    refine ⟨a0, ns, 3, rfl, O'.sq, by omega, ?_⟩
    walk_at "rd"
    obtain ⟨c12, ec, hc12⟩ : ∃ c : Nat, cellAt ns 3 % 12 = (c : Int) ∧ c < 12 := ⟨(cellAt ns 3 % 12).toNat, by omega, by omega⟩
    rw [ec]
    walk_at "rd"
    have ig : PySem.intText? (Str.ofString (toString g)) = some g := intText_str bg.1 (by omega)
    have is_ : PySem.intText? (Str.ofString (toString s)) = some s := intText_str bs.1 (by omega)
    refine w_forR2 (fun k σ H' => ∃ (h : HS) (a' : HA) (y z x : Option V), σ = [some (.ref a0), some (.str (Str.ofString (toString s))), some (.str (Str.ofString (toString g))), some (.ref a.h), some (.int (t : Int)), y, z, x] ∧ HR C A a' (D8 g s) h H' ∧ a'.h = a.h ∧ ((k = 0 ∧ S1 h t) ∨ (0 < k ∧ T8 g s h t (k - 1))) ∧ HI (D8 g s) h (8 + 160 * (t + 1 + k))) (by omega) ⟨h, a', y, none, none, rfl, R', e', .inl ⟨rfl, S'⟩, I'⟩ (fun k σ H' hk hm => ?_) (fun σ H' hm => ?_)
    · obtain ⟨h, a', y, z, x, rfl, R', e', S', I'⟩ := hm
      obtain ⟨hh', ht'⟩ := R'.facts e'
      have hk : k < c12 + 1 := by omega
      walk_at "rd"
      refine w_ca CD (by decide) ?_
      walk_at "rd"
      refine w_intS is_ (by omega) ?_
      walk_at "rd"
      refine w_intS ig (by omega) ?_
      walk_at "rd"
      refine ⟨((t : Int) + (k : Int)), (t : Int), s, g, rfl, fun p ts H4 s4 np nts TL => ?_⟩
      have R4 := R'.same s4
      obtain ⟨hh4, ht4⟩ := R4.facts e'
      have hp4 := TL.ls
      have TO : TriO a' H4 p ts (due8 ((t : Int) + (k : Int)) t s g) := ⟨TL, R'.free p np, fun x hx => R'.free x (nts x hx)⟩
      walk_at "rd"
      refine w_cut (fun σ H5 => ∃ (h : HS) (a' : HA), σ = [some (.ref a0), some (.str (Str.ofString (toString s))), some (.str (Str.ofString (toString g))), some (.ref a.h), some (.int (t : Int)), some (.int ((t : Int) + (k : Int))), some (.ref p), x] ∧ TriO a' H5 p ts (due8 ((t : Int) + (k : Int)) t s g) ∧ HR C A a' (D8 g s) h H5 ∧ a'.h = a.h ∧ T8 g s h t k ∧ HI (D8 g s) h (8 + 160 * (t + 2 + k))) ?_ (fun σ H5 hm => ?_)
      · walk_at "rd"
        walk_at "if"
        all_goals rename_i c
        · have k0 : 0 < k := by omega
          rcases S' with ⟨z, _⟩ | ⟨_, S'⟩
          · omega
          obtain ⟨h2, et2, I2, _, _⟩ := turn_T W (M := 1000000) (by decide) I' (by rw [in8, d8_n]; omega)
          rw [in8, d8_n] at I2
          walk_at "rd"
          refine w_ma1 hh4 cH.cl rfl MT (by decide) ?_
          walk_at "rd"
          refine ⟨A, a', D8 g s, h, h2, by rw [e']; rfl, R4, W, et2, fun a3 H3 R3 F3 => ?_⟩
          walk_at "rd"
          refine ⟨h2, a3, rfl, TO.fr F3, R3, F3.h.trans e', ?_, by rw [show 8 + 160 * (t + 2 + k) = 8 + 160 * (t + 1 + k) + 2 * 80 by omega]; exact I2⟩
          have := S'.turn et2
          rw [show k - 1 + 1 = k by omega] at this
          exact this
        · have k0 : k = 0 := by omega
          subst k0
          rcases S' with ⟨_, S'⟩ | ⟨z, _⟩
          case inr => omega
          have ph : (h.posts 0).phase ≠ .off := by
            rw [S'.p0]
            intro z
            cases z
          obtain ⟨h2, et2, I2, _, _⟩ := stop_T W (by omega) (M := 1000000) (by decide) I' ph (by omega)
          walk_at "rd"
          refine ⟨Nat.zero_le _, fun pe npe => ?_⟩
          have n2 : p ≠ pe := neN npe hp4
          refine w_neE ((upd_ne n2).trans hp4) upd_same ?_
          have lne : (ts.map V.ref).isEmpty = false := by
            have l := TL.tr.ln
            cases ts with
            | nil =>
              exfalso
              have : 2 ≤ (due8 ((t : Int) + ((0 : Nat) : Int)) t s g).length := by
                unfold due8
                split
                · exact Nat.le_refl _
                · split
                  · show 2 ≤ 4; decide
                  · show 2 ≤ 6; decide
              rw [← l] at this
              exact absurd this (by decide)
            | cons x y => rfl
          rw [lne]
          have s5 := same_new npe (.lst [])
          have R5 := R4.same s5
          have TO5 : TriO a' (upd H4 pe (.lst [])) p ts (due8 ((t : Int) + ((0 : Nat) : Int)) t s g) := ⟨TO.tl.same s5, TO.o, TO.os⟩
          generalize upd H4 pe (.lst []) = H5 at R5 TO5 ⊢
          obtain ⟨hh5, ht5⟩ := R5.facts e'
          rw [Bool.not_false]
          walk_at "rd"
          refine w_ma1 hh5 cH.cl rfl MC (by decide) ?_
          walk_at "rd"
          refine ⟨A, a', D8 g s, h, by rw [e']; rfl, R5, W, by omega, fun z => absurd z ph, fun _ => ⟨h2, et2, fun a3 H3 R3 F3 => ?_⟩⟩
          walk_at "rd"
          refine ⟨h2, a3, rfl, TO5.fr F3, R3, F3.h.trans e', ?_, ⟨I2.si, I2.hd, by have := I2.le; omega⟩⟩
          obtain ⟨x1, x2⟩ := stop8 bg.1 bs.1 S' et2
          by_cases c : 0 < s ∧ 0 < g
          · exact .inl ⟨c.1, c.2, x1 c⟩
          · refine .inr ⟨fun z => c ⟨z.1, z.2⟩, ?_⟩
            rw [show t + (min s g).toNat = t by omega]
            exact x2 c
      · obtain ⟨h, a', rfl, TO, R', e', S', I'⟩ := hm
        obtain ⟨hh', ht'⟩ := R'.facts e'
        have bk := S'.book bs.1 bg.1
        rw [Int.natCast_add] at bk
        have TL := TO.tl
        rw [← bk] at TL
        walk_at "rd"
        refine w_ca CS (by decide) ?_
        walk_at "rd"
        refine ⟨A, a', g, s, h, p, ts, by rw [e']; rfl, R', W, TL, S'.stage, fun H6 s6 => ?_⟩
        refine w_bl ?_
        rw [Bool.not_true]
        have R6 := R'.same s6
        obtain ⟨hh6, ht6⟩ := R6.facts e'
        have TO6 : TriO a' H6 p ts (due8 ((t : Int) + (k : Int)) t s g) := ⟨TO.tl.same s6, TO.o, TO.os⟩
        have lts : ts.length = h.book.length := by rw [TL.tr.ln, List.length_map]
        walk_at "rd"
        refine w_mae ?_
        walk_at "rd"
        refine w_mae1 hh6 cH.cl rfl MS (by decide) ?_
        walk_at "rd"
        refine ⟨A, a', D8 g s, h, by rw [e']; rfl, R6, W, by omega, fun off => ?_, fun on => ⟨h, ?_, fun a3 H7 R7 F7 => ?_⟩⟩
        · have l6 : h.book.length = 6 := by
            rcases S'.stage with z | z | z
            · rw [z.2.1] at off; cases off
            · rw [z.2.1] at off; cases off
            · exact z.1
          refine ⟨true, eN, fun _ ex hex => ?_, fun z => by cases z⟩
          have hp6 := TO6.tl.ls
          walk_at "rd"
          rw [List.length_map, show (decide (V.int ((ts.length : Nat) : Int) = V.int 6)) = true from decide_eq_true (congrArg V.int (by omega)), decide_eq_true rfl, Bool.not_true]
          walk_at "rd"
          refine w_ca CS (by decide) ?_
          walk_at "rd"
          refine ⟨A, a', g, s, h, p, ts, by rw [e']; rfl, R6, W, by rw [bk]; exact TO6.tl, S'.stage, fun H8 s8 => ?_⟩
          refine w_bl ?_
          rw [Bool.not_true]
          walk_at "rd"
          exact ⟨h, a', _, _, _, rfl, R6.same s8, e', .inr ⟨Nat.succ_pos _, S'⟩, by rw [show 8 + 160 * (t + 1 + (k + 1)) = 8 + 160 * (t + 2 + k) by omega]; exact I'⟩
        · unfold HS.stopM
          rcases S' with ⟨_, _, S'⟩ | ⟨_, S'⟩
          · rw [if_pos S'.a2]
          · exact absurd S'.a1 on
        · have l6 : h.book.length ≠ 6 := fun l => by
            rcases S'.stage with z | z | z
            · omega
            · omega
            · exact on z.2.1
          have TO7 := TO6.fr F7
          have hp7 := TO7.tl.ls
          walk_at "rd"
          rw [List.length_map, show (decide (V.int ((ts.length : Nat) : Int) = V.int 6)) = false from decide_eq_false (fun z => by have := V.int.inj z; omega), decide_eq_true rfl, Bool.not_true]
          walk_at "rd"
          refine w_ca CS (by decide) ?_
          walk_at "rd"
          refine ⟨A, a3, g, s, h, p, ts, by rw [(F7.h.trans e')]; rfl, R7, W, by rw [bk]; exact TO7.tl, S'.stage, fun H8 s8 => ?_⟩
          refine w_bl ?_
          rw [Bool.not_true]
          walk_at "rd"
          exact ⟨h, a3, _, _, _, rfl, R7.same s8, (F7.h.trans e'), .inr ⟨Nat.succ_pos _, S'⟩, by rw [show 8 + 160 * (t + 1 + (k + 1)) = 8 + 160 * (t + 2 + k) by omega]; exact I'⟩
    · obtain ⟨h, a', y, z, x, rfl, _⟩ := hm
      walk_at "rd"
      exact q _
end
end Mn

namespace Mn
open PySem PySem.Spec PyProof.Rows L2 TL
/-- the classes of the six kinds -/
def clsH (a b c d e f : Addr) (k : Nat) : Addr := if k = 0 then a else if k = 1 then b else if k = 2 then c else if k = 3 then d else if k = 4 then e else f
section
variable {P : Program} {w : World} {K : PySem.W.Frag} {mg : Str → Option Value} {base : Heap} {a b c d e f : Addr}
theorem kdC_of (c0 : ClsF K a leafN) (c1 : ClsF K b manyN) (c2 : ClsF K c manyN) (c3 : ClsF K d minN) (c4 : ClsF K e minN) (c5 : ClsF K f minN) : KdC K (clsH a b c d e f) := ⟨fun k hk => by
  rcases kind6 hk with rfl | rfl | rfl | rfl | rfl | rfl
  · exact c0
  · exact c1
  · exact c2
  · exact c3
  · exact c4
  · exact c5⟩
theorem kdL_of (m0 : Mth P w K mg base CX0 a "leaf" 1 ["self"] [] (spTruth a true)) (m1 : Mth P w K mg base CX0 b "leaf" 1 ["self"] [] (spTruth b true)) (m2 : Mth P w K mg base CX0 c "leaf" 1 ["self"] [] (spTruth c true)) (m3 : Mth P w K mg base CX0 d "leaf" 1 ["self"] [] (spTruth d false)) (m4 : Mth P w K mg base CX0 e "leaf" 1 ["self"] [] (spTruth e false))
    (m5 : Mth P w K mg base CX0 f "leaf" 1 ["self"] [] (spTruth f false)) : KdL P w K mg base (clsH a b c d e f) := ⟨fun k hk => by
  rcases kind6 hk with rfl | rfl | rfl | rfl | rfl | rfl
  · exact m0
  · exact m1
  · exact m2
  · exact m3
  · exact m4
  · exact m5⟩
theorem kdH_of (kl : KdL P w K mg base (clsH a b c d e f)) (a0 : Mth P w K mg base CX0 a "begun_again" 1 ["self", "word"] [] (spAgain a)) (a1 : Mth P w K mg base CX0 b "begun_again" 1 ["self", "word"] [] (spAgain b)) (a2 : Mth P w K mg base CX0 c "begun_again" 1 ["self", "word"] [] (spAgain c)) (a3 : Mth P w K mg base CX0 d "begun_again" 1 ["self", "word"] [] (spAgain d)) (a4 : Mth P w K mg base CX0 e "begun_again" 1 ["self", "word"] [] (spAgain e)) (a5 : Mth P w K mg base CX0 f "begun_again" 1 ["self", "word"] [] (spAgain f))
    (e0 : Mth P w K mg base CX0 a "end_at" 1 ["self", "steps"] [] (spEnd a 0)) (e1 : Mth P w K mg base CX0 b "end_at" 1 ["self", "steps"] [] (spEnd b 1)) (e2 : Mth P w K mg base CX0 c "end_at" 1 ["self", "steps"] [] (spEnd c 2)) (h3 : Mth P w K mg base CX0 d "chosen" 2 chN [] (spChosen d chOne)) (h4 : Mth P w K mg base CX0 e "chosen" 2 chN [] (spChosen e chAll)) (h5 : Mth P w K mg base CX0 f "chosen" 2 chN [] (spChosen f chRest)) : KdH P w K mg base (clsH a b c d e f) :=
  ⟨kl.leaf, fun k hk => by
    rcases kind6 hk with rfl | rfl | rfl | rfl | rfl | rfl
    · exact a0
    · exact a1
    · exact a2
    · exact a3
    · exact a4
    · exact a5, fun k hk => by
    match k, hk with
    | 0, _ => exact e0
    | 1, _ => exact e1
    | 2, _ => exact e2, fun k h3' hk => by
    match k, h3', hk with
    | 3, _, _ => exact h3
    | 4, _, _ => exact h4
    | 5, _, _ => exact h5⟩
end
end Mn

namespace Mn
open PySem L2
theorem clsF_nil {K : PySem.W.Frag} {C : Addr} : ∀ f ∈ ([] : List Str), NoAttr K C f := fun _ h => absurd h List.not_mem_nil
theorem clsF_cons {K : PySem.W.Frag} {C : Addr} {g : Str} {r : List Str} (a : PySem.W.findIn K (.ref C) g = some none) (b : ∀ f ∈ r, NoAttr K C f) : ∀ f ∈ g :: r, NoAttr K C f := fun f h => by
  rcases List.mem_cons.mp h with e | e
  · subst e
    exact a
  · exact b f e
theorem all_mk {l : PySem.W.OpenLaw} {w : World} {K : PySem.W.Frag} {h : Heap} {mg : Str → Option Value} {fa c_NotOn c_Shape c_Leaf c_Steady c_Faller c_Minder c_AllMinder c_RestMinder c_Tree c_Book c_Post c_House t_KEEPS t_FALLS f_fit_name f_number_in T_number_in f_Shape_init f_Shape_leaf f_Shape_begun_again f_Leaf_init T_Leaf_init f_Leaf_leaf f_Leaf_end_at f_Steady_init T_Steady_init f_Steady_end_at f_Faller_init T_Faller_init f_Faller_end_at f_Minder_init T_Minder_init f_Minder_chosen f_AllMinder_chosen f_RestMinder_chosen f_Tree_init f_Tree_add f_Tree_find f_Tree_place f_Tree_depth f_leaf_by f_minder_by f_shape_by f_elder_at f_read f_bit f_below f_places f_last f_without f_recent f_too_many f_Book_init f_Book_note f_Book_rows f_Post_init f_House_init f_House_note f_House_begin f_House_on_of f_House_over f_House_settle f_House_hear f_House_decide f_House_go_down f_House_tell f_House_ease f_House_go_on f_House_come_up f_House_step f_House_turn f_House_stop f_House_doing f_House_on f_House_rows f_built c_NoNumber c_MinderError f_law_cell_at f_law_number f_law_due f_law_stands f_law : Addr} (X : K.In h) (G : h.Ns mainGlobals mg) (hfa : mg "law" = some (.ref fa))
    {odt_KEEPS odt_FALLS od_fit_name an_fit_name od_number_in an_number_in odT_number_in od_Shape_init an_Shape_init od_Shape_leaf an_Shape_leaf od_Shape_begun_again an_Shape_begun_again od_Leaf_init an_Leaf_init odT_Leaf_init od_Leaf_leaf an_Leaf_leaf od_Leaf_end_at an_Leaf_end_at od_Steady_init an_Steady_init odT_Steady_init od_Steady_end_at an_Steady_end_at od_Faller_init an_Faller_init odT_Faller_init od_Faller_end_at an_Faller_end_at od_Minder_init an_Minder_init odT_Minder_init od_Minder_chosen an_Minder_chosen od_AllMinder_chosen an_AllMinder_chosen od_RestMinder_chosen an_RestMinder_chosen od_Tree_init an_Tree_init od_Tree_add an_Tree_add od_Tree_find an_Tree_find od_Tree_place an_Tree_place od_Tree_depth an_Tree_depth od_leaf_by an_leaf_by od_minder_by an_minder_by od_shape_by an_shape_by od_elder_at an_elder_at od_read an_read od_bit an_bit od_below an_below od_places an_places od_last an_last od_without an_without od_recent an_recent od_too_many an_too_many od_Book_init an_Book_init od_Book_note an_Book_note od_Book_rows an_Book_rows od_Post_init an_Post_init od_House_init an_House_init od_House_note an_House_note od_House_begin an_House_begin od_House_on_of an_House_on_of od_House_over an_House_over od_House_settle an_House_settle od_House_hear an_House_hear od_House_decide an_House_decide od_House_go_down an_House_go_down od_House_tell an_House_tell od_House_ease an_House_ease od_House_go_on an_House_go_on od_House_come_up an_House_come_up od_House_step an_House_step od_House_turn an_House_turn od_House_stop an_House_stop od_House_doing an_House_doing od_House_on an_House_on od_House_rows an_House_rows od_built an_built od_law_cell_at an_law_cell_at od_law_number an_law_number od_law_due an_law_due od_law_stands an_law_stands od_law an_law : Option Addr} {slt_KEEPS slt_FALLS sl_fit_name sl_number_in slT_number_in sl_Shape_init sl_Shape_leaf sl_Shape_begun_again sl_Leaf_init slT_Leaf_init sl_Leaf_leaf sl_Leaf_end_at sl_Steady_init slT_Steady_init sl_Steady_end_at sl_Faller_init slT_Faller_init sl_Faller_end_at sl_Minder_init slT_Minder_init sl_Minder_chosen sl_AllMinder_chosen sl_RestMinder_chosen sl_Tree_init sl_Tree_add sl_Tree_find sl_Tree_place sl_Tree_depth sl_leaf_by sl_minder_by sl_shape_by sl_elder_at sl_read sl_bit sl_below sl_places sl_last sl_without sl_recent sl_too_many sl_Book_init sl_Book_note sl_Book_rows sl_Post_init sl_House_init sl_House_note sl_House_begin sl_House_on_of sl_House_over sl_House_settle sl_House_hear sl_House_decide sl_House_go_down sl_House_tell sl_House_ease sl_House_go_on sl_House_come_up sl_House_step sl_House_turn sl_House_stop sl_House_doing sl_House_on sl_House_rows sl_built sl_law_cell_at sl_law_number sl_law_due sl_law_stands sl_law : Array (Option Value)} {oc_fit_name kV_fit_name dc_fit_name pm_fit_name cd_fit_name ct_fit_name oc_number_in kV_number_in dc_number_in pm_number_in cd_number_in ct_number_in ocT_number_in oc_Shape_init kV_Shape_init dc_Shape_init pm_Shape_init cd_Shape_init ct_Shape_init oc_Shape_leaf kV_Shape_leaf dc_Shape_leaf pm_Shape_leaf cd_Shape_leaf ct_Shape_leaf oc_Shape_begun_again kV_Shape_begun_again dc_Shape_begun_again pm_Shape_begun_again cd_Shape_begun_again ct_Shape_begun_again oc_Leaf_init kV_Leaf_init dc_Leaf_init pm_Leaf_init cd_Leaf_init ct_Leaf_init ocT_Leaf_init oc_Leaf_leaf kV_Leaf_leaf dc_Leaf_leaf pm_Leaf_leaf cd_Leaf_leaf ct_Leaf_leaf oc_Leaf_end_at kV_Leaf_end_at dc_Leaf_end_at pm_Leaf_end_at cd_Leaf_end_at ct_Leaf_end_at oc_Steady_init kV_Steady_init dc_Steady_init pm_Steady_init cd_Steady_init ct_Steady_init ocT_Steady_init oc_Steady_end_at kV_Steady_end_at dc_Steady_end_at pm_Steady_end_at cd_Steady_end_at ct_Steady_end_at oc_Faller_init kV_Faller_init dc_Faller_init pm_Faller_init cd_Faller_init ct_Faller_init ocT_Faller_init oc_Faller_end_at kV_Faller_end_at dc_Faller_end_at pm_Faller_end_at cd_Faller_end_at ct_Faller_end_at oc_Minder_init kV_Minder_init dc_Minder_init pm_Minder_init cd_Minder_init ct_Minder_init ocT_Minder_init oc_Minder_chosen kV_Minder_chosen dc_Minder_chosen pm_Minder_chosen cd_Minder_chosen ct_Minder_chosen oc_AllMinder_chosen kV_AllMinder_chosen dc_AllMinder_chosen pm_AllMinder_chosen cd_AllMinder_chosen ct_AllMinder_chosen oc_RestMinder_chosen kV_RestMinder_chosen dc_RestMinder_chosen pm_RestMinder_chosen cd_RestMinder_chosen ct_RestMinder_chosen oc_Tree_init kV_Tree_init dc_Tree_init pm_Tree_init cd_Tree_init ct_Tree_init oc_Tree_add kV_Tree_add dc_Tree_add pm_Tree_add cd_Tree_add ct_Tree_add oc_Tree_find kV_Tree_find dc_Tree_find pm_Tree_find cd_Tree_find ct_Tree_find oc_Tree_place kV_Tree_place dc_Tree_place pm_Tree_place cd_Tree_place ct_Tree_place oc_Tree_depth kV_Tree_depth dc_Tree_depth pm_Tree_depth cd_Tree_depth ct_Tree_depth oc_leaf_by kV_leaf_by dc_leaf_by pm_leaf_by cd_leaf_by ct_leaf_by oc_minder_by kV_minder_by dc_minder_by pm_minder_by cd_minder_by ct_minder_by oc_shape_by kV_shape_by dc_shape_by pm_shape_by cd_shape_by ct_shape_by oc_elder_at kV_elder_at dc_elder_at pm_elder_at cd_elder_at ct_elder_at oc_read kV_read dc_read pm_read cd_read ct_read oc_bit kV_bit dc_bit pm_bit cd_bit ct_bit oc_below kV_below dc_below pm_below cd_below ct_below oc_places kV_places dc_places pm_places cd_places ct_places oc_last kV_last dc_last pm_last cd_last ct_last oc_without kV_without dc_without pm_without cd_without ct_without oc_recent kV_recent dc_recent pm_recent cd_recent ct_recent oc_too_many kV_too_many dc_too_many pm_too_many cd_too_many ct_too_many oc_Book_init kV_Book_init dc_Book_init pm_Book_init cd_Book_init ct_Book_init oc_Book_note kV_Book_note dc_Book_note pm_Book_note cd_Book_note ct_Book_note oc_Book_rows kV_Book_rows dc_Book_rows pm_Book_rows cd_Book_rows ct_Book_rows oc_Post_init kV_Post_init dc_Post_init pm_Post_init cd_Post_init ct_Post_init oc_House_init kV_House_init dc_House_init pm_House_init cd_House_init ct_House_init oc_House_note kV_House_note dc_House_note pm_House_note cd_House_note ct_House_note oc_House_begin kV_House_begin dc_House_begin pm_House_begin cd_House_begin ct_House_begin oc_House_on_of kV_House_on_of dc_House_on_of pm_House_on_of cd_House_on_of ct_House_on_of oc_House_over kV_House_over dc_House_over pm_House_over cd_House_over ct_House_over oc_House_settle kV_House_settle dc_House_settle pm_House_settle cd_House_settle ct_House_settle oc_House_hear kV_House_hear dc_House_hear pm_House_hear cd_House_hear ct_House_hear oc_House_decide kV_House_decide dc_House_decide pm_House_decide cd_House_decide ct_House_decide oc_House_go_down kV_House_go_down dc_House_go_down pm_House_go_down cd_House_go_down ct_House_go_down oc_House_tell kV_House_tell dc_House_tell pm_House_tell cd_House_tell ct_House_tell oc_House_ease kV_House_ease dc_House_ease pm_House_ease cd_House_ease ct_House_ease oc_House_go_on kV_House_go_on dc_House_go_on pm_House_go_on cd_House_go_on ct_House_go_on oc_House_come_up kV_House_come_up dc_House_come_up pm_House_come_up cd_House_come_up ct_House_come_up oc_House_step kV_House_step dc_House_step pm_House_step cd_House_step ct_House_step oc_House_turn kV_House_turn dc_House_turn pm_House_turn cd_House_turn ct_House_turn oc_House_stop kV_House_stop dc_House_stop pm_House_stop cd_House_stop ct_House_stop oc_House_doing kV_House_doing dc_House_doing pm_House_doing cd_House_doing ct_House_doing oc_House_on kV_House_on dc_House_on pm_House_on cd_House_on ct_House_on oc_House_rows kV_House_rows dc_House_rows pm_House_rows cd_House_rows ct_House_rows oc_built kV_built dc_built pm_built cd_built ct_built oc_law_cell_at kV_law_cell_at dc_law_cell_at pm_law_cell_at cd_law_cell_at ct_law_cell_at oc_law_number kV_law_number dc_law_number pm_law_number cd_law_number ct_law_number oc_law_due kV_law_due dc_law_due pm_law_due cd_law_due ct_law_due oc_law_stands kV_law_stands dc_law_stands pm_law_stands cd_law_stands ct_law_stands oc_law kV_law dc_law pm_law cd_law ct_law : Value} {tk_SIGNS tk_BOUND tk_DEEPEST nt_KEEPS tk_KEEPS_0 tk_KEEPS_1 tk_KEEPS_2 nt_FALLS tk_FALLS_0 tk_FALLS_1 nT_number_in tk_number_in_0 nT_Leaf_init tk_Leaf_init_0 tk_Leaf_init_1 nT_Steady_init tk_Steady_init_0 tk_Steady_init_1 nT_Faller_init tk_Faller_init_0 tk_Faller_init_1 nT_Minder_init tk_Minder_init_0 tk_Minder_init_1 : Nat}
    (z_len : PySem.W.nsIn K mainGlobals "len" = some none)
    (z_int : PySem.W.nsIn K mainGlobals "int" = some none)
    (z_list : PySem.W.nsIn K mainGlobals "list" = some none)
    (z_str : PySem.W.nsIn K mainGlobals "str" = some none)
    (z_divmod : PySem.W.nsIn K mainGlobals "divmod" = some none)
    (z_range : PySem.W.nsIn K mainGlobals "range" = some none)
    (z_isinstance : PySem.W.nsIn K mainGlobals "isinstance" = some none)
    (z_tuple : PySem.W.nsIn K mainGlobals "tuple" = some none)
    (z_ValueError : PySem.W.nsIn K mainGlobals "ValueError" = some none)
    (z_KeyError : PySem.W.nsIn K mainGlobals "KeyError" = some none)
    (z_min : PySem.W.nsIn K mainGlobals "min" = some none)
    (a_NotOn : PySem.W.nsIn K mainGlobals "NotOn" = some (some (.ref c_NotOn)))
    (xf_NotOn : PySem.W.excIn K c_NotOn [.type "ValueError", .type "Exception", .type "BaseException", .type "object"] "ValueError.__new__" = true)
    (kc_NotOn : PySem.W.keepIn K (.ref c_NotOn) = true)
    (eb_NotOn : PySem.W.subIn K (.ref c_NotOn) (.type "BaseException") = some true)
    (et_NotOn : PySem.W.typeIn K (.ref c_NotOn) = some (.type "type"))
    (cb_NotOn : PySem.W.subIn K (.ref c_NotOn) (.type "BaseException") = some true)
    (cd_NotOn : PySem.W.hasDictIn K c_NotOn = true)
    (ct_NotOn : PySem.W.typeIn K (.ref c_NotOn) = some (.type "type"))
    (cs_NotOn_NotOn : PySem.W.subIn K (.ref c_NotOn) (.ref c_NotOn) = some true)
    (a_Shape : PySem.W.nsIn K mainGlobals "Shape" = some (some (.ref c_Shape)))
    (pg_Shape : PySem.W.plainGet K c_Shape Str.empty = true)
    (hd_Shape : PySem.W.hasDictIn K c_Shape = true)
    (po_Shape : PySem.W.plainOver K c_Shape = true)
    (sa_Shape : PySem.W.findIn K (.ref c_Shape) "__setattr__" = some (some (.builtin "object.__setattr__")))
    (a_Leaf : PySem.W.nsIn K mainGlobals "Leaf" = some (some (.ref c_Leaf)))
    (pg_Leaf : PySem.W.plainGet K c_Leaf Str.empty = true)
    (hd_Leaf : PySem.W.hasDictIn K c_Leaf = true)
    (po_Leaf : PySem.W.plainOver K c_Leaf = true)
    (sa_Leaf : PySem.W.findIn K (.ref c_Leaf) "__setattr__" = some (some (.builtin "object.__setattr__")))
    (n_Leaf_name : PySem.W.findIn K (.ref c_Leaf) "name" = some none)
    (n_Leaf_keep : PySem.W.findIn K (.ref c_Leaf) "keep" = some none)
    (n_Leaf_grace : PySem.W.findIn K (.ref c_Leaf) "grace" = some none)
    (n_Leaf_slow : PySem.W.findIn K (.ref c_Leaf) "slow" = some none)
    (mk_Leaf : PySem.W.makesIn K c_Leaf = true)
    (kc_Leaf : PySem.W.keepIn K (.ref c_Leaf) = true)
    (a_Steady : PySem.W.nsIn K mainGlobals "Steady" = some (some (.ref c_Steady)))
    (pg_Steady : PySem.W.plainGet K c_Steady Str.empty = true)
    (hd_Steady : PySem.W.hasDictIn K c_Steady = true)
    (po_Steady : PySem.W.plainOver K c_Steady = true)
    (sa_Steady : PySem.W.findIn K (.ref c_Steady) "__setattr__" = some (some (.builtin "object.__setattr__")))
    (n_Steady_name : PySem.W.findIn K (.ref c_Steady) "name" = some none)
    (n_Steady_keep : PySem.W.findIn K (.ref c_Steady) "keep" = some none)
    (n_Steady_grace : PySem.W.findIn K (.ref c_Steady) "grace" = some none)
    (n_Steady_slow : PySem.W.findIn K (.ref c_Steady) "slow" = some none)
    (n_Steady_many : PySem.W.findIn K (.ref c_Steady) "many" = some none)
    (mk_Steady : PySem.W.makesIn K c_Steady = true)
    (kc_Steady : PySem.W.keepIn K (.ref c_Steady) = true)
    (a_Faller : PySem.W.nsIn K mainGlobals "Faller" = some (some (.ref c_Faller)))
    (pg_Faller : PySem.W.plainGet K c_Faller Str.empty = true)
    (hd_Faller : PySem.W.hasDictIn K c_Faller = true)
    (po_Faller : PySem.W.plainOver K c_Faller = true)
    (sa_Faller : PySem.W.findIn K (.ref c_Faller) "__setattr__" = some (some (.builtin "object.__setattr__")))
    (n_Faller_name : PySem.W.findIn K (.ref c_Faller) "name" = some none)
    (n_Faller_keep : PySem.W.findIn K (.ref c_Faller) "keep" = some none)
    (n_Faller_grace : PySem.W.findIn K (.ref c_Faller) "grace" = some none)
    (n_Faller_slow : PySem.W.findIn K (.ref c_Faller) "slow" = some none)
    (n_Faller_many : PySem.W.findIn K (.ref c_Faller) "many" = some none)
    (mk_Faller : PySem.W.makesIn K c_Faller = true)
    (kc_Faller : PySem.W.keepIn K (.ref c_Faller) = true)
    (a_Minder : PySem.W.nsIn K mainGlobals "Minder" = some (some (.ref c_Minder)))
    (pg_Minder : PySem.W.plainGet K c_Minder Str.empty = true)
    (hd_Minder : PySem.W.hasDictIn K c_Minder = true)
    (po_Minder : PySem.W.plainOver K c_Minder = true)
    (sa_Minder : PySem.W.findIn K (.ref c_Minder) "__setattr__" = some (some (.builtin "object.__setattr__")))
    (n_Minder_name : PySem.W.findIn K (.ref c_Minder) "name" = some none)
    (n_Minder_keep : PySem.W.findIn K (.ref c_Minder) "keep" = some none)
    (n_Minder_most : PySem.W.findIn K (.ref c_Minder) "most" = some none)
    (n_Minder_span : PySem.W.findIn K (.ref c_Minder) "span" = some none)
    (mk_Minder : PySem.W.makesIn K c_Minder = true)
    (kc_Minder : PySem.W.keepIn K (.ref c_Minder) = true)
    (a_AllMinder : PySem.W.nsIn K mainGlobals "AllMinder" = some (some (.ref c_AllMinder)))
    (pg_AllMinder : PySem.W.plainGet K c_AllMinder Str.empty = true)
    (hd_AllMinder : PySem.W.hasDictIn K c_AllMinder = true)
    (po_AllMinder : PySem.W.plainOver K c_AllMinder = true)
    (sa_AllMinder : PySem.W.findIn K (.ref c_AllMinder) "__setattr__" = some (some (.builtin "object.__setattr__")))
    (n_AllMinder_name : PySem.W.findIn K (.ref c_AllMinder) "name" = some none)
    (n_AllMinder_keep : PySem.W.findIn K (.ref c_AllMinder) "keep" = some none)
    (n_AllMinder_most : PySem.W.findIn K (.ref c_AllMinder) "most" = some none)
    (n_AllMinder_span : PySem.W.findIn K (.ref c_AllMinder) "span" = some none)
    (mk_AllMinder : PySem.W.makesIn K c_AllMinder = true)
    (kc_AllMinder : PySem.W.keepIn K (.ref c_AllMinder) = true)
    (a_RestMinder : PySem.W.nsIn K mainGlobals "RestMinder" = some (some (.ref c_RestMinder)))
    (pg_RestMinder : PySem.W.plainGet K c_RestMinder Str.empty = true)
    (hd_RestMinder : PySem.W.hasDictIn K c_RestMinder = true)
    (po_RestMinder : PySem.W.plainOver K c_RestMinder = true)
    (sa_RestMinder : PySem.W.findIn K (.ref c_RestMinder) "__setattr__" = some (some (.builtin "object.__setattr__")))
    (n_RestMinder_name : PySem.W.findIn K (.ref c_RestMinder) "name" = some none)
    (n_RestMinder_keep : PySem.W.findIn K (.ref c_RestMinder) "keep" = some none)
    (n_RestMinder_most : PySem.W.findIn K (.ref c_RestMinder) "most" = some none)
    (n_RestMinder_span : PySem.W.findIn K (.ref c_RestMinder) "span" = some none)
    (mk_RestMinder : PySem.W.makesIn K c_RestMinder = true)
    (kc_RestMinder : PySem.W.keepIn K (.ref c_RestMinder) = true)
    (a_Tree : PySem.W.nsIn K mainGlobals "Tree" = some (some (.ref c_Tree)))
    (pg_Tree : PySem.W.plainGet K c_Tree Str.empty = true)
    (hd_Tree : PySem.W.hasDictIn K c_Tree = true)
    (po_Tree : PySem.W.plainOver K c_Tree = true)
    (sa_Tree : PySem.W.findIn K (.ref c_Tree) "__setattr__" = some (some (.builtin "object.__setattr__")))
    (n_Tree_shapes : PySem.W.findIn K (.ref c_Tree) "shapes" = some none)
    (n_Tree_elders : PySem.W.findIn K (.ref c_Tree) "elders" = some none)
    (n_Tree_young : PySem.W.findIn K (.ref c_Tree) "young" = some none)
    (n_Tree_known : PySem.W.findIn K (.ref c_Tree) "known" = some none)
    (mk_Tree : PySem.W.makesIn K c_Tree = true)
    (kc_Tree : PySem.W.keepIn K (.ref c_Tree) = true)
    (a_Book : PySem.W.nsIn K mainGlobals "Book" = some (some (.ref c_Book)))
    (pg_Book : PySem.W.plainGet K c_Book Str.empty = true)
    (hd_Book : PySem.W.hasDictIn K c_Book = true)
    (po_Book : PySem.W.plainOver K c_Book = true)
    (sa_Book : PySem.W.findIn K (.ref c_Book) "__setattr__" = some (some (.builtin "object.__setattr__")))
    (n_Book_entries : PySem.W.findIn K (.ref c_Book) "entries" = some none)
    (mk_Book : PySem.W.makesIn K c_Book = true)
    (kc_Book : PySem.W.keepIn K (.ref c_Book) = true)
    (a_Post : PySem.W.nsIn K mainGlobals "Post" = some (some (.ref c_Post)))
    (pg_Post : PySem.W.plainGet K c_Post Str.empty = true)
    (hd_Post : PySem.W.hasDictIn K c_Post = true)
    (po_Post : PySem.W.plainOver K c_Post = true)
    (sa_Post : PySem.W.findIn K (.ref c_Post) "__setattr__" = some (some (.builtin "object.__setattr__")))
    (n_Post_phase : PySem.W.findIn K (.ref c_Post) "phase" = some none)
    (n_Post_planned : PySem.W.findIn K (.ref c_Post) "planned" = some none)
    (n_Post_born : PySem.W.findIn K (.ref c_Post) "born" = some none)
    (n_Post_steps : PySem.W.findIn K (.ref c_Post) "steps" = some none)
    (n_Post_slow : PySem.W.findIn K (.ref c_Post) "slow" = some none)
    (n_Post_grace : PySem.W.findIn K (.ref c_Post) "grace" = some none)
    (n_Post_good : PySem.W.findIn K (.ref c_Post) "good" = some none)
    (n_Post_put : PySem.W.findIn K (.ref c_Post) "put" = some none)
    (n_Post_anew : PySem.W.findIn K (.ref c_Post) "anew" = some none)
    (n_Post_falls : PySem.W.findIn K (.ref c_Post) "falls" = some none)
    (n_Post_waiting : PySem.W.findIn K (.ref c_Post) "waiting" = some none)
    (n_Post_gave : PySem.W.findIn K (.ref c_Post) "gave" = some none)
    (mk_Post : PySem.W.makesIn K c_Post = true)
    (kc_Post : PySem.W.keepIn K (.ref c_Post) = true)
    (a_House : PySem.W.nsIn K mainGlobals "House" = some (some (.ref c_House)))
    (pg_House : PySem.W.plainGet K c_House Str.empty = true)
    (hd_House : PySem.W.hasDictIn K c_House = true)
    (po_House : PySem.W.plainOver K c_House = true)
    (sa_House : PySem.W.findIn K (.ref c_House) "__setattr__" = some (some (.builtin "object.__setattr__")))
    (n_House_tree : PySem.W.findIn K (.ref c_House) "tree" = some none)
    (n_House_clock : PySem.W.findIn K (.ref c_House) "clock" = some none)
    (n_House_book : PySem.W.findIn K (.ref c_House) "book" = some none)
    (n_House_posts : PySem.W.findIn K (.ref c_House) "posts" = some none)
    (n_House_heard : PySem.W.findIn K (.ref c_House) "heard" = some none)
    (mk_House : PySem.W.makesIn K c_House = true)
    (kc_House : PySem.W.keepIn K (.ref c_House) = true)
    (a_SIGNS : PySem.W.nsIn K mainGlobals "SIGNS" = some (some (.str "abcdefghijklmnopqrstuvwxyz0123456789" tk_SIGNS)))
    (a_BOUND : PySem.W.nsIn K mainGlobals "BOUND" = some (some (.int 64 tk_BOUND)))
    (a_DEEPEST : PySem.W.nsIn K mainGlobals "DEEPEST" = some (some (.int 8 tk_DEEPEST)))
    (a_KEEPS : PySem.W.nsIn K mainGlobals "KEEPS" = some (some (.ref t_KEEPS)))
    (l_KEEPS : K.lookup t_KEEPS = some ⟨.type "tuple", odt_KEEPS, .seq #[(.str "always" tk_KEEPS_0 : Value), (.str "fallen" tk_KEEPS_1 : Value), (.str "never" tk_KEEPS_2 : Value)] nt_KEEPS, slt_KEEPS⟩)
    (a_FALLS : PySem.W.nsIn K mainGlobals "FALLS" = some (some (.ref t_FALLS)))
    (l_FALLS : K.lookup t_FALLS = some ⟨.type "tuple", odt_FALLS, .seq #[(.str "fallen" tk_FALLS_0 : Value), (.str "gave up" tk_FALLS_1 : Value)] nt_FALLS, slt_FALLS⟩)
    (a_fit_name : PySem.W.nsIn K mainGlobals "fit_name" = some (some (.ref f_fit_name)))
    (l_fit_name : K.lookup f_fit_name = some ⟨oc_fit_name, od_fit_name, .func (PySem.W.fnOf "fit_name" "fit_name" (defArgs s_fit_name) (defBody s_fit_name) (defScope s_fit_name) .none kV_fit_name dc_fit_name pm_fit_name an_fit_name cd_fit_name ct_fit_name), sl_fit_name⟩)
    (co_fit_name : PySem.W.codeIn K cd_fit_name "fit_name" = true)
    (k_fit_name : PySem.W.keepIn K (.ref f_fit_name) = true)
    (a_number_in : PySem.W.nsIn K mainGlobals "number_in" = some (some (.ref f_number_in)))
    (l_number_in : K.lookup f_number_in = some ⟨oc_number_in, od_number_in, .func (PySem.W.fnOf "number_in" "number_in" (defArgs s_number_in) (defBody s_number_in) (defScope s_number_in) (.ref T_number_in) kV_number_in dc_number_in pm_number_in an_number_in cd_number_in ct_number_in), sl_number_in⟩)
    (co_number_in : PySem.W.codeIn K cd_number_in "number_in" = true)
    (k_number_in : PySem.W.keepIn K (.ref f_number_in) = true)
    (lT_number_in : K.lookup T_number_in = some ⟨ocT_number_in, odT_number_in, .seq #[(.int 1000000 tk_number_in_0 : Value)] nT_number_in, slT_number_in⟩)
    (a_Shape___init__ : PySem.W.findIn K (.ref c_Shape) "__init__" = some (some (.ref f_Shape_init)))
    (i_Shape_init : PySem.W.isFn K (.ref f_Shape_init) = true)
    (l_Shape_init : K.lookup f_Shape_init = some ⟨oc_Shape_init, od_Shape_init, .func (PySem.W.fnOf "__init__" "Shape.__init__" (defArgs s_Shape_init) (defBody s_Shape_init) (defScope s_Shape_init) .none kV_Shape_init dc_Shape_init pm_Shape_init an_Shape_init cd_Shape_init ct_Shape_init), sl_Shape_init⟩)
    (co_Shape_init : PySem.W.codeIn K cd_Shape_init "Shape.__init__" = true)
    (k_Shape_init : PySem.W.keepIn K (.ref f_Shape_init) = true)
    (a_Shape_leaf : PySem.W.findIn K (.ref c_Shape) "leaf" = some (some (.ref f_Shape_leaf)))
    (i_Shape_leaf : PySem.W.isFn K (.ref f_Shape_leaf) = true)
    (l_Shape_leaf : K.lookup f_Shape_leaf = some ⟨oc_Shape_leaf, od_Shape_leaf, .func (PySem.W.fnOf "leaf" "Shape.leaf" (defArgs s_Shape_leaf) (defBody s_Shape_leaf) (defScope s_Shape_leaf) .none kV_Shape_leaf dc_Shape_leaf pm_Shape_leaf an_Shape_leaf cd_Shape_leaf ct_Shape_leaf), sl_Shape_leaf⟩)
    (co_Shape_leaf : PySem.W.codeIn K cd_Shape_leaf "Shape.leaf" = true)
    (k_Shape_leaf : PySem.W.keepIn K (.ref f_Shape_leaf) = true)
    (a_Shape_begun_again : PySem.W.findIn K (.ref c_Shape) "begun_again" = some (some (.ref f_Shape_begun_again)))
    (i_Shape_begun_again : PySem.W.isFn K (.ref f_Shape_begun_again) = true)
    (l_Shape_begun_again : K.lookup f_Shape_begun_again = some ⟨oc_Shape_begun_again, od_Shape_begun_again, .func (PySem.W.fnOf "begun_again" "Shape.begun_again" (defArgs s_Shape_begun_again) (defBody s_Shape_begun_again) (defScope s_Shape_begun_again) .none kV_Shape_begun_again dc_Shape_begun_again pm_Shape_begun_again an_Shape_begun_again cd_Shape_begun_again ct_Shape_begun_again), sl_Shape_begun_again⟩)
    (co_Shape_begun_again : PySem.W.codeIn K cd_Shape_begun_again "Shape.begun_again" = true)
    (k_Shape_begun_again : PySem.W.keepIn K (.ref f_Shape_begun_again) = true)
    (a_Leaf___init__ : PySem.W.findIn K (.ref c_Leaf) "__init__" = some (some (.ref f_Leaf_init)))
    (i_Leaf_init : PySem.W.isFn K (.ref f_Leaf_init) = true)
    (l_Leaf_init : K.lookup f_Leaf_init = some ⟨oc_Leaf_init, od_Leaf_init, .func (PySem.W.fnOf "__init__" "Leaf.__init__" (defArgs s_Leaf_init) (defBody s_Leaf_init) (defScope s_Leaf_init) (.ref T_Leaf_init) kV_Leaf_init dc_Leaf_init pm_Leaf_init an_Leaf_init cd_Leaf_init ct_Leaf_init), sl_Leaf_init⟩)
    (co_Leaf_init : PySem.W.codeIn K cd_Leaf_init "Leaf.__init__" = true)
    (k_Leaf_init : PySem.W.keepIn K (.ref f_Leaf_init) = true)
    (lT_Leaf_init : K.lookup T_Leaf_init = some ⟨ocT_Leaf_init, odT_Leaf_init, .seq #[(.int 0 tk_Leaf_init_0 : Value), (.int 0 tk_Leaf_init_1 : Value)] nT_Leaf_init, slT_Leaf_init⟩)
    (a_Leaf_leaf : PySem.W.findIn K (.ref c_Leaf) "leaf" = some (some (.ref f_Leaf_leaf)))
    (i_Leaf_leaf : PySem.W.isFn K (.ref f_Leaf_leaf) = true)
    (l_Leaf_leaf : K.lookup f_Leaf_leaf = some ⟨oc_Leaf_leaf, od_Leaf_leaf, .func (PySem.W.fnOf "leaf" "Leaf.leaf" (defArgs s_Leaf_leaf) (defBody s_Leaf_leaf) (defScope s_Leaf_leaf) .none kV_Leaf_leaf dc_Leaf_leaf pm_Leaf_leaf an_Leaf_leaf cd_Leaf_leaf ct_Leaf_leaf), sl_Leaf_leaf⟩)
    (co_Leaf_leaf : PySem.W.codeIn K cd_Leaf_leaf "Leaf.leaf" = true)
    (k_Leaf_leaf : PySem.W.keepIn K (.ref f_Leaf_leaf) = true)
    (a_Leaf_end_at : PySem.W.findIn K (.ref c_Leaf) "end_at" = some (some (.ref f_Leaf_end_at)))
    (i_Leaf_end_at : PySem.W.isFn K (.ref f_Leaf_end_at) = true)
    (l_Leaf_end_at : K.lookup f_Leaf_end_at = some ⟨oc_Leaf_end_at, od_Leaf_end_at, .func (PySem.W.fnOf "end_at" "Leaf.end_at" (defArgs s_Leaf_end_at) (defBody s_Leaf_end_at) (defScope s_Leaf_end_at) .none kV_Leaf_end_at dc_Leaf_end_at pm_Leaf_end_at an_Leaf_end_at cd_Leaf_end_at ct_Leaf_end_at), sl_Leaf_end_at⟩)
    (co_Leaf_end_at : PySem.W.codeIn K cd_Leaf_end_at "Leaf.end_at" = true)
    (k_Leaf_end_at : PySem.W.keepIn K (.ref f_Leaf_end_at) = true)
    (a_Steady___init__ : PySem.W.findIn K (.ref c_Steady) "__init__" = some (some (.ref f_Steady_init)))
    (i_Steady_init : PySem.W.isFn K (.ref f_Steady_init) = true)
    (l_Steady_init : K.lookup f_Steady_init = some ⟨oc_Steady_init, od_Steady_init, .func (PySem.W.fnOf "__init__" "Steady.__init__" (defArgs s_Steady_init) (defBody s_Steady_init) (defScope s_Steady_init) (.ref T_Steady_init) kV_Steady_init dc_Steady_init pm_Steady_init an_Steady_init cd_Steady_init ct_Steady_init), sl_Steady_init⟩)
    (co_Steady_init : PySem.W.codeIn K cd_Steady_init "Steady.__init__" = true)
    (k_Steady_init : PySem.W.keepIn K (.ref f_Steady_init) = true)
    (lT_Steady_init : K.lookup T_Steady_init = some ⟨ocT_Steady_init, odT_Steady_init, .seq #[(.int 0 tk_Steady_init_0 : Value), (.int 0 tk_Steady_init_1 : Value)] nT_Steady_init, slT_Steady_init⟩)
    (a_Steady_end_at : PySem.W.findIn K (.ref c_Steady) "end_at" = some (some (.ref f_Steady_end_at)))
    (i_Steady_end_at : PySem.W.isFn K (.ref f_Steady_end_at) = true)
    (l_Steady_end_at : K.lookup f_Steady_end_at = some ⟨oc_Steady_end_at, od_Steady_end_at, .func (PySem.W.fnOf "end_at" "Steady.end_at" (defArgs s_Steady_end_at) (defBody s_Steady_end_at) (defScope s_Steady_end_at) .none kV_Steady_end_at dc_Steady_end_at pm_Steady_end_at an_Steady_end_at cd_Steady_end_at ct_Steady_end_at), sl_Steady_end_at⟩)
    (co_Steady_end_at : PySem.W.codeIn K cd_Steady_end_at "Steady.end_at" = true)
    (k_Steady_end_at : PySem.W.keepIn K (.ref f_Steady_end_at) = true)
    (a_Faller___init__ : PySem.W.findIn K (.ref c_Faller) "__init__" = some (some (.ref f_Faller_init)))
    (i_Faller_init : PySem.W.isFn K (.ref f_Faller_init) = true)
    (l_Faller_init : K.lookup f_Faller_init = some ⟨oc_Faller_init, od_Faller_init, .func (PySem.W.fnOf "__init__" "Faller.__init__" (defArgs s_Faller_init) (defBody s_Faller_init) (defScope s_Faller_init) (.ref T_Faller_init) kV_Faller_init dc_Faller_init pm_Faller_init an_Faller_init cd_Faller_init ct_Faller_init), sl_Faller_init⟩)
    (co_Faller_init : PySem.W.codeIn K cd_Faller_init "Faller.__init__" = true)
    (k_Faller_init : PySem.W.keepIn K (.ref f_Faller_init) = true)
    (lT_Faller_init : K.lookup T_Faller_init = some ⟨ocT_Faller_init, odT_Faller_init, .seq #[(.int 0 tk_Faller_init_0 : Value), (.int 0 tk_Faller_init_1 : Value)] nT_Faller_init, slT_Faller_init⟩)
    (a_Faller_end_at : PySem.W.findIn K (.ref c_Faller) "end_at" = some (some (.ref f_Faller_end_at)))
    (i_Faller_end_at : PySem.W.isFn K (.ref f_Faller_end_at) = true)
    (l_Faller_end_at : K.lookup f_Faller_end_at = some ⟨oc_Faller_end_at, od_Faller_end_at, .func (PySem.W.fnOf "end_at" "Faller.end_at" (defArgs s_Faller_end_at) (defBody s_Faller_end_at) (defScope s_Faller_end_at) .none kV_Faller_end_at dc_Faller_end_at pm_Faller_end_at an_Faller_end_at cd_Faller_end_at ct_Faller_end_at), sl_Faller_end_at⟩)
    (co_Faller_end_at : PySem.W.codeIn K cd_Faller_end_at "Faller.end_at" = true)
    (k_Faller_end_at : PySem.W.keepIn K (.ref f_Faller_end_at) = true)
    (a_Minder___init__ : PySem.W.findIn K (.ref c_Minder) "__init__" = some (some (.ref f_Minder_init)))
    (i_Minder_init : PySem.W.isFn K (.ref f_Minder_init) = true)
    (l_Minder_init : K.lookup f_Minder_init = some ⟨oc_Minder_init, od_Minder_init, .func (PySem.W.fnOf "__init__" "Minder.__init__" (defArgs s_Minder_init) (defBody s_Minder_init) (defScope s_Minder_init) (.ref T_Minder_init) kV_Minder_init dc_Minder_init pm_Minder_init an_Minder_init cd_Minder_init ct_Minder_init), sl_Minder_init⟩)
    (co_Minder_init : PySem.W.codeIn K cd_Minder_init "Minder.__init__" = true)
    (k_Minder_init : PySem.W.keepIn K (.ref f_Minder_init) = true)
    (lT_Minder_init : K.lookup T_Minder_init = some ⟨ocT_Minder_init, odT_Minder_init, .seq #[(.int 1 tk_Minder_init_0 : Value), (.int 1 tk_Minder_init_1 : Value)] nT_Minder_init, slT_Minder_init⟩)
    (a_Minder_chosen : PySem.W.findIn K (.ref c_Minder) "chosen" = some (some (.ref f_Minder_chosen)))
    (i_Minder_chosen : PySem.W.isFn K (.ref f_Minder_chosen) = true)
    (l_Minder_chosen : K.lookup f_Minder_chosen = some ⟨oc_Minder_chosen, od_Minder_chosen, .func (PySem.W.fnOf "chosen" "Minder.chosen" (defArgs s_Minder_chosen) (defBody s_Minder_chosen) (defScope s_Minder_chosen) .none kV_Minder_chosen dc_Minder_chosen pm_Minder_chosen an_Minder_chosen cd_Minder_chosen ct_Minder_chosen), sl_Minder_chosen⟩)
    (co_Minder_chosen : PySem.W.codeIn K cd_Minder_chosen "Minder.chosen" = true)
    (k_Minder_chosen : PySem.W.keepIn K (.ref f_Minder_chosen) = true)
    (a_AllMinder_chosen : PySem.W.findIn K (.ref c_AllMinder) "chosen" = some (some (.ref f_AllMinder_chosen)))
    (i_AllMinder_chosen : PySem.W.isFn K (.ref f_AllMinder_chosen) = true)
    (l_AllMinder_chosen : K.lookup f_AllMinder_chosen = some ⟨oc_AllMinder_chosen, od_AllMinder_chosen, .func (PySem.W.fnOf "chosen" "AllMinder.chosen" (defArgs s_AllMinder_chosen) (defBody s_AllMinder_chosen) (defScope s_AllMinder_chosen) .none kV_AllMinder_chosen dc_AllMinder_chosen pm_AllMinder_chosen an_AllMinder_chosen cd_AllMinder_chosen ct_AllMinder_chosen), sl_AllMinder_chosen⟩)
    (co_AllMinder_chosen : PySem.W.codeIn K cd_AllMinder_chosen "AllMinder.chosen" = true)
    (k_AllMinder_chosen : PySem.W.keepIn K (.ref f_AllMinder_chosen) = true)
    (a_RestMinder_chosen : PySem.W.findIn K (.ref c_RestMinder) "chosen" = some (some (.ref f_RestMinder_chosen)))
    (i_RestMinder_chosen : PySem.W.isFn K (.ref f_RestMinder_chosen) = true)
    (l_RestMinder_chosen : K.lookup f_RestMinder_chosen = some ⟨oc_RestMinder_chosen, od_RestMinder_chosen, .func (PySem.W.fnOf "chosen" "RestMinder.chosen" (defArgs s_RestMinder_chosen) (defBody s_RestMinder_chosen) (defScope s_RestMinder_chosen) .none kV_RestMinder_chosen dc_RestMinder_chosen pm_RestMinder_chosen an_RestMinder_chosen cd_RestMinder_chosen ct_RestMinder_chosen), sl_RestMinder_chosen⟩)
    (co_RestMinder_chosen : PySem.W.codeIn K cd_RestMinder_chosen "RestMinder.chosen" = true)
    (k_RestMinder_chosen : PySem.W.keepIn K (.ref f_RestMinder_chosen) = true)
    (a_Tree___init__ : PySem.W.findIn K (.ref c_Tree) "__init__" = some (some (.ref f_Tree_init)))
    (i_Tree_init : PySem.W.isFn K (.ref f_Tree_init) = true)
    (l_Tree_init : K.lookup f_Tree_init = some ⟨oc_Tree_init, od_Tree_init, .func (PySem.W.fnOf "__init__" "Tree.__init__" (defArgs s_Tree_init) (defBody s_Tree_init) (defScope s_Tree_init) .none kV_Tree_init dc_Tree_init pm_Tree_init an_Tree_init cd_Tree_init ct_Tree_init), sl_Tree_init⟩)
    (co_Tree_init : PySem.W.codeIn K cd_Tree_init "Tree.__init__" = true)
    (k_Tree_init : PySem.W.keepIn K (.ref f_Tree_init) = true)
    (a_Tree_add : PySem.W.findIn K (.ref c_Tree) "add" = some (some (.ref f_Tree_add)))
    (i_Tree_add : PySem.W.isFn K (.ref f_Tree_add) = true)
    (l_Tree_add : K.lookup f_Tree_add = some ⟨oc_Tree_add, od_Tree_add, .func (PySem.W.fnOf "add" "Tree.add" (defArgs s_Tree_add) (defBody s_Tree_add) (defScope s_Tree_add) .none kV_Tree_add dc_Tree_add pm_Tree_add an_Tree_add cd_Tree_add ct_Tree_add), sl_Tree_add⟩)
    (co_Tree_add : PySem.W.codeIn K cd_Tree_add "Tree.add" = true)
    (k_Tree_add : PySem.W.keepIn K (.ref f_Tree_add) = true)
    (a_Tree_find : PySem.W.findIn K (.ref c_Tree) "find" = some (some (.ref f_Tree_find)))
    (i_Tree_find : PySem.W.isFn K (.ref f_Tree_find) = true)
    (l_Tree_find : K.lookup f_Tree_find = some ⟨oc_Tree_find, od_Tree_find, .func (PySem.W.fnOf "find" "Tree.find" (defArgs s_Tree_find) (defBody s_Tree_find) (defScope s_Tree_find) .none kV_Tree_find dc_Tree_find pm_Tree_find an_Tree_find cd_Tree_find ct_Tree_find), sl_Tree_find⟩)
    (co_Tree_find : PySem.W.codeIn K cd_Tree_find "Tree.find" = true)
    (k_Tree_find : PySem.W.keepIn K (.ref f_Tree_find) = true)
    (a_Tree_place : PySem.W.findIn K (.ref c_Tree) "place" = some (some (.ref f_Tree_place)))
    (i_Tree_place : PySem.W.isFn K (.ref f_Tree_place) = true)
    (l_Tree_place : K.lookup f_Tree_place = some ⟨oc_Tree_place, od_Tree_place, .func (PySem.W.fnOf "place" "Tree.place" (defArgs s_Tree_place) (defBody s_Tree_place) (defScope s_Tree_place) .none kV_Tree_place dc_Tree_place pm_Tree_place an_Tree_place cd_Tree_place ct_Tree_place), sl_Tree_place⟩)
    (co_Tree_place : PySem.W.codeIn K cd_Tree_place "Tree.place" = true)
    (k_Tree_place : PySem.W.keepIn K (.ref f_Tree_place) = true)
    (a_Tree_depth : PySem.W.findIn K (.ref c_Tree) "depth" = some (some (.ref f_Tree_depth)))
    (i_Tree_depth : PySem.W.isFn K (.ref f_Tree_depth) = true)
    (l_Tree_depth : K.lookup f_Tree_depth = some ⟨oc_Tree_depth, od_Tree_depth, .func (PySem.W.fnOf "depth" "Tree.depth" (defArgs s_Tree_depth) (defBody s_Tree_depth) (defScope s_Tree_depth) .none kV_Tree_depth dc_Tree_depth pm_Tree_depth an_Tree_depth cd_Tree_depth ct_Tree_depth), sl_Tree_depth⟩)
    (co_Tree_depth : PySem.W.codeIn K cd_Tree_depth "Tree.depth" = true)
    (k_Tree_depth : PySem.W.keepIn K (.ref f_Tree_depth) = true)
    (a_leaf_by : PySem.W.nsIn K mainGlobals "leaf_by" = some (some (.ref f_leaf_by)))
    (l_leaf_by : K.lookup f_leaf_by = some ⟨oc_leaf_by, od_leaf_by, .func (PySem.W.fnOf "leaf_by" "leaf_by" (defArgs s_leaf_by) (defBody s_leaf_by) (defScope s_leaf_by) .none kV_leaf_by dc_leaf_by pm_leaf_by an_leaf_by cd_leaf_by ct_leaf_by), sl_leaf_by⟩)
    (co_leaf_by : PySem.W.codeIn K cd_leaf_by "leaf_by" = true)
    (k_leaf_by : PySem.W.keepIn K (.ref f_leaf_by) = true)
    (a_minder_by : PySem.W.nsIn K mainGlobals "minder_by" = some (some (.ref f_minder_by)))
    (l_minder_by : K.lookup f_minder_by = some ⟨oc_minder_by, od_minder_by, .func (PySem.W.fnOf "minder_by" "minder_by" (defArgs s_minder_by) (defBody s_minder_by) (defScope s_minder_by) .none kV_minder_by dc_minder_by pm_minder_by an_minder_by cd_minder_by ct_minder_by), sl_minder_by⟩)
    (co_minder_by : PySem.W.codeIn K cd_minder_by "minder_by" = true)
    (k_minder_by : PySem.W.keepIn K (.ref f_minder_by) = true)
    (a_shape_by : PySem.W.nsIn K mainGlobals "shape_by" = some (some (.ref f_shape_by)))
    (l_shape_by : K.lookup f_shape_by = some ⟨oc_shape_by, od_shape_by, .func (PySem.W.fnOf "shape_by" "shape_by" (defArgs s_shape_by) (defBody s_shape_by) (defScope s_shape_by) .none kV_shape_by dc_shape_by pm_shape_by an_shape_by cd_shape_by ct_shape_by), sl_shape_by⟩)
    (co_shape_by : PySem.W.codeIn K cd_shape_by "shape_by" = true)
    (k_shape_by : PySem.W.keepIn K (.ref f_shape_by) = true)
    (a_elder_at : PySem.W.nsIn K mainGlobals "elder_at" = some (some (.ref f_elder_at)))
    (l_elder_at : K.lookup f_elder_at = some ⟨oc_elder_at, od_elder_at, .func (PySem.W.fnOf "elder_at" "elder_at" (defArgs s_elder_at) (defBody s_elder_at) (defScope s_elder_at) .none kV_elder_at dc_elder_at pm_elder_at an_elder_at cd_elder_at ct_elder_at), sl_elder_at⟩)
    (co_elder_at : PySem.W.codeIn K cd_elder_at "elder_at" = true)
    (k_elder_at : PySem.W.keepIn K (.ref f_elder_at) = true)
    (a_read : PySem.W.nsIn K mainGlobals "read" = some (some (.ref f_read)))
    (l_read : K.lookup f_read = some ⟨oc_read, od_read, .func (PySem.W.fnOf "read" "read" (defArgs s_read) (defBody s_read) (defScope s_read) .none kV_read dc_read pm_read an_read cd_read ct_read), sl_read⟩)
    (co_read : PySem.W.codeIn K cd_read "read" = true)
    (k_read : PySem.W.keepIn K (.ref f_read) = true)
    (a_bit : PySem.W.nsIn K mainGlobals "bit" = some (some (.ref f_bit)))
    (l_bit : K.lookup f_bit = some ⟨oc_bit, od_bit, .func (PySem.W.fnOf "bit" "bit" (defArgs s_bit) (defBody s_bit) (defScope s_bit) .none kV_bit dc_bit pm_bit an_bit cd_bit ct_bit), sl_bit⟩)
    (co_bit : PySem.W.codeIn K cd_bit "bit" = true)
    (k_bit : PySem.W.keepIn K (.ref f_bit) = true)
    (a_below : PySem.W.nsIn K mainGlobals "below" = some (some (.ref f_below)))
    (l_below : K.lookup f_below = some ⟨oc_below, od_below, .func (PySem.W.fnOf "below" "below" (defArgs s_below) (defBody s_below) (defScope s_below) .none kV_below dc_below pm_below an_below cd_below ct_below), sl_below⟩)
    (co_below : PySem.W.codeIn K cd_below "below" = true)
    (k_below : PySem.W.keepIn K (.ref f_below) = true)
    (a_places : PySem.W.nsIn K mainGlobals "places" = some (some (.ref f_places)))
    (l_places : K.lookup f_places = some ⟨oc_places, od_places, .func (PySem.W.fnOf "places" "places" (defArgs s_places) (defBody s_places) (defScope s_places) .none kV_places dc_places pm_places an_places cd_places ct_places), sl_places⟩)
    (co_places : PySem.W.codeIn K cd_places "places" = true)
    (k_places : PySem.W.keepIn K (.ref f_places) = true)
    (a_last : PySem.W.nsIn K mainGlobals "last" = some (some (.ref f_last)))
    (l_last : K.lookup f_last = some ⟨oc_last, od_last, .func (PySem.W.fnOf "last" "last" (defArgs s_last) (defBody s_last) (defScope s_last) .none kV_last dc_last pm_last an_last cd_last ct_last), sl_last⟩)
    (co_last : PySem.W.codeIn K cd_last "last" = true)
    (k_last : PySem.W.keepIn K (.ref f_last) = true)
    (a_without : PySem.W.nsIn K mainGlobals "without" = some (some (.ref f_without)))
    (l_without : K.lookup f_without = some ⟨oc_without, od_without, .func (PySem.W.fnOf "without" "without" (defArgs s_without) (defBody s_without) (defScope s_without) .none kV_without dc_without pm_without an_without cd_without ct_without), sl_without⟩)
    (co_without : PySem.W.codeIn K cd_without "without" = true)
    (k_without : PySem.W.keepIn K (.ref f_without) = true)
    (a_recent : PySem.W.nsIn K mainGlobals "recent" = some (some (.ref f_recent)))
    (l_recent : K.lookup f_recent = some ⟨oc_recent, od_recent, .func (PySem.W.fnOf "recent" "recent" (defArgs s_recent) (defBody s_recent) (defScope s_recent) .none kV_recent dc_recent pm_recent an_recent cd_recent ct_recent), sl_recent⟩)
    (co_recent : PySem.W.codeIn K cd_recent "recent" = true)
    (k_recent : PySem.W.keepIn K (.ref f_recent) = true)
    (a_too_many : PySem.W.nsIn K mainGlobals "too_many" = some (some (.ref f_too_many)))
    (l_too_many : K.lookup f_too_many = some ⟨oc_too_many, od_too_many, .func (PySem.W.fnOf "too_many" "too_many" (defArgs s_too_many) (defBody s_too_many) (defScope s_too_many) .none kV_too_many dc_too_many pm_too_many an_too_many cd_too_many ct_too_many), sl_too_many⟩)
    (co_too_many : PySem.W.codeIn K cd_too_many "too_many" = true)
    (k_too_many : PySem.W.keepIn K (.ref f_too_many) = true)
    (a_Book___init__ : PySem.W.findIn K (.ref c_Book) "__init__" = some (some (.ref f_Book_init)))
    (i_Book_init : PySem.W.isFn K (.ref f_Book_init) = true)
    (l_Book_init : K.lookup f_Book_init = some ⟨oc_Book_init, od_Book_init, .func (PySem.W.fnOf "__init__" "Book.__init__" (defArgs s_Book_init) (defBody s_Book_init) (defScope s_Book_init) .none kV_Book_init dc_Book_init pm_Book_init an_Book_init cd_Book_init ct_Book_init), sl_Book_init⟩)
    (co_Book_init : PySem.W.codeIn K cd_Book_init "Book.__init__" = true)
    (k_Book_init : PySem.W.keepIn K (.ref f_Book_init) = true)
    (a_Book_note : PySem.W.findIn K (.ref c_Book) "note" = some (some (.ref f_Book_note)))
    (i_Book_note : PySem.W.isFn K (.ref f_Book_note) = true)
    (l_Book_note : K.lookup f_Book_note = some ⟨oc_Book_note, od_Book_note, .func (PySem.W.fnOf "note" "Book.note" (defArgs s_Book_note) (defBody s_Book_note) (defScope s_Book_note) .none kV_Book_note dc_Book_note pm_Book_note an_Book_note cd_Book_note ct_Book_note), sl_Book_note⟩)
    (co_Book_note : PySem.W.codeIn K cd_Book_note "Book.note" = true)
    (k_Book_note : PySem.W.keepIn K (.ref f_Book_note) = true)
    (a_Book_rows : PySem.W.findIn K (.ref c_Book) "rows" = some (some (.ref f_Book_rows)))
    (i_Book_rows : PySem.W.isFn K (.ref f_Book_rows) = true)
    (l_Book_rows : K.lookup f_Book_rows = some ⟨oc_Book_rows, od_Book_rows, .func (PySem.W.fnOf "rows" "Book.rows" (defArgs s_Book_rows) (defBody s_Book_rows) (defScope s_Book_rows) .none kV_Book_rows dc_Book_rows pm_Book_rows an_Book_rows cd_Book_rows ct_Book_rows), sl_Book_rows⟩)
    (co_Book_rows : PySem.W.codeIn K cd_Book_rows "Book.rows" = true)
    (k_Book_rows : PySem.W.keepIn K (.ref f_Book_rows) = true)
    (a_Post___init__ : PySem.W.findIn K (.ref c_Post) "__init__" = some (some (.ref f_Post_init)))
    (i_Post_init : PySem.W.isFn K (.ref f_Post_init) = true)
    (l_Post_init : K.lookup f_Post_init = some ⟨oc_Post_init, od_Post_init, .func (PySem.W.fnOf "__init__" "Post.__init__" (defArgs s_Post_init) (defBody s_Post_init) (defScope s_Post_init) .none kV_Post_init dc_Post_init pm_Post_init an_Post_init cd_Post_init ct_Post_init), sl_Post_init⟩)
    (co_Post_init : PySem.W.codeIn K cd_Post_init "Post.__init__" = true)
    (k_Post_init : PySem.W.keepIn K (.ref f_Post_init) = true)
    (a_House___init__ : PySem.W.findIn K (.ref c_House) "__init__" = some (some (.ref f_House_init)))
    (i_House_init : PySem.W.isFn K (.ref f_House_init) = true)
    (l_House_init : K.lookup f_House_init = some ⟨oc_House_init, od_House_init, .func (PySem.W.fnOf "__init__" "House.__init__" (defArgs s_House_init) (defBody s_House_init) (defScope s_House_init) .none kV_House_init dc_House_init pm_House_init an_House_init cd_House_init ct_House_init), sl_House_init⟩)
    (co_House_init : PySem.W.codeIn K cd_House_init "House.__init__" = true)
    (k_House_init : PySem.W.keepIn K (.ref f_House_init) = true)
    (a_House_note : PySem.W.findIn K (.ref c_House) "note" = some (some (.ref f_House_note)))
    (i_House_note : PySem.W.isFn K (.ref f_House_note) = true)
    (l_House_note : K.lookup f_House_note = some ⟨oc_House_note, od_House_note, .func (PySem.W.fnOf "note" "House.note" (defArgs s_House_note) (defBody s_House_note) (defScope s_House_note) .none kV_House_note dc_House_note pm_House_note an_House_note cd_House_note ct_House_note), sl_House_note⟩)
    (co_House_note : PySem.W.codeIn K cd_House_note "House.note" = true)
    (k_House_note : PySem.W.keepIn K (.ref f_House_note) = true)
    (a_House_begin : PySem.W.findIn K (.ref c_House) "begin" = some (some (.ref f_House_begin)))
    (i_House_begin : PySem.W.isFn K (.ref f_House_begin) = true)
    (l_House_begin : K.lookup f_House_begin = some ⟨oc_House_begin, od_House_begin, .func (PySem.W.fnOf "begin" "House.begin" (defArgs s_House_begin) (defBody s_House_begin) (defScope s_House_begin) .none kV_House_begin dc_House_begin pm_House_begin an_House_begin cd_House_begin ct_House_begin), sl_House_begin⟩)
    (co_House_begin : PySem.W.codeIn K cd_House_begin "House.begin" = true)
    (k_House_begin : PySem.W.keepIn K (.ref f_House_begin) = true)
    (a_House_on_of : PySem.W.findIn K (.ref c_House) "on_of" = some (some (.ref f_House_on_of)))
    (i_House_on_of : PySem.W.isFn K (.ref f_House_on_of) = true)
    (l_House_on_of : K.lookup f_House_on_of = some ⟨oc_House_on_of, od_House_on_of, .func (PySem.W.fnOf "on_of" "House.on_of" (defArgs s_House_on_of) (defBody s_House_on_of) (defScope s_House_on_of) .none kV_House_on_of dc_House_on_of pm_House_on_of an_House_on_of cd_House_on_of ct_House_on_of), sl_House_on_of⟩)
    (co_House_on_of : PySem.W.codeIn K cd_House_on_of "House.on_of" = true)
    (k_House_on_of : PySem.W.keepIn K (.ref f_House_on_of) = true)
    (a_House_over : PySem.W.findIn K (.ref c_House) "over" = some (some (.ref f_House_over)))
    (i_House_over : PySem.W.isFn K (.ref f_House_over) = true)
    (l_House_over : K.lookup f_House_over = some ⟨oc_House_over, od_House_over, .func (PySem.W.fnOf "over" "House.over" (defArgs s_House_over) (defBody s_House_over) (defScope s_House_over) .none kV_House_over dc_House_over pm_House_over an_House_over cd_House_over ct_House_over), sl_House_over⟩)
    (co_House_over : PySem.W.codeIn K cd_House_over "House.over" = true)
    (k_House_over : PySem.W.keepIn K (.ref f_House_over) = true)
    (a_House_settle : PySem.W.findIn K (.ref c_House) "settle" = some (some (.ref f_House_settle)))
    (i_House_settle : PySem.W.isFn K (.ref f_House_settle) = true)
    (l_House_settle : K.lookup f_House_settle = some ⟨oc_House_settle, od_House_settle, .func (PySem.W.fnOf "settle" "House.settle" (defArgs s_House_settle) (defBody s_House_settle) (defScope s_House_settle) .none kV_House_settle dc_House_settle pm_House_settle an_House_settle cd_House_settle ct_House_settle), sl_House_settle⟩)
    (co_House_settle : PySem.W.codeIn K cd_House_settle "House.settle" = true)
    (k_House_settle : PySem.W.keepIn K (.ref f_House_settle) = true)
    (a_House_hear : PySem.W.findIn K (.ref c_House) "hear" = some (some (.ref f_House_hear)))
    (i_House_hear : PySem.W.isFn K (.ref f_House_hear) = true)
    (l_House_hear : K.lookup f_House_hear = some ⟨oc_House_hear, od_House_hear, .func (PySem.W.fnOf "hear" "House.hear" (defArgs s_House_hear) (defBody s_House_hear) (defScope s_House_hear) .none kV_House_hear dc_House_hear pm_House_hear an_House_hear cd_House_hear ct_House_hear), sl_House_hear⟩)
    (co_House_hear : PySem.W.codeIn K cd_House_hear "House.hear" = true)
    (k_House_hear : PySem.W.keepIn K (.ref f_House_hear) = true)
    (a_House_decide : PySem.W.findIn K (.ref c_House) "decide" = some (some (.ref f_House_decide)))
    (i_House_decide : PySem.W.isFn K (.ref f_House_decide) = true)
    (l_House_decide : K.lookup f_House_decide = some ⟨oc_House_decide, od_House_decide, .func (PySem.W.fnOf "decide" "House.decide" (defArgs s_House_decide) (defBody s_House_decide) (defScope s_House_decide) .none kV_House_decide dc_House_decide pm_House_decide an_House_decide cd_House_decide ct_House_decide), sl_House_decide⟩)
    (co_House_decide : PySem.W.codeIn K cd_House_decide "House.decide" = true)
    (k_House_decide : PySem.W.keepIn K (.ref f_House_decide) = true)
    (a_House_go_down : PySem.W.findIn K (.ref c_House) "go_down" = some (some (.ref f_House_go_down)))
    (i_House_go_down : PySem.W.isFn K (.ref f_House_go_down) = true)
    (l_House_go_down : K.lookup f_House_go_down = some ⟨oc_House_go_down, od_House_go_down, .func (PySem.W.fnOf "go_down" "House.go_down" (defArgs s_House_go_down) (defBody s_House_go_down) (defScope s_House_go_down) .none kV_House_go_down dc_House_go_down pm_House_go_down an_House_go_down cd_House_go_down ct_House_go_down), sl_House_go_down⟩)
    (co_House_go_down : PySem.W.codeIn K cd_House_go_down "House.go_down" = true)
    (k_House_go_down : PySem.W.keepIn K (.ref f_House_go_down) = true)
    (a_House_tell : PySem.W.findIn K (.ref c_House) "tell" = some (some (.ref f_House_tell)))
    (i_House_tell : PySem.W.isFn K (.ref f_House_tell) = true)
    (l_House_tell : K.lookup f_House_tell = some ⟨oc_House_tell, od_House_tell, .func (PySem.W.fnOf "tell" "House.tell" (defArgs s_House_tell) (defBody s_House_tell) (defScope s_House_tell) .none kV_House_tell dc_House_tell pm_House_tell an_House_tell cd_House_tell ct_House_tell), sl_House_tell⟩)
    (co_House_tell : PySem.W.codeIn K cd_House_tell "House.tell" = true)
    (k_House_tell : PySem.W.keepIn K (.ref f_House_tell) = true)
    (a_House_ease : PySem.W.findIn K (.ref c_House) "ease" = some (some (.ref f_House_ease)))
    (i_House_ease : PySem.W.isFn K (.ref f_House_ease) = true)
    (l_House_ease : K.lookup f_House_ease = some ⟨oc_House_ease, od_House_ease, .func (PySem.W.fnOf "ease" "House.ease" (defArgs s_House_ease) (defBody s_House_ease) (defScope s_House_ease) .none kV_House_ease dc_House_ease pm_House_ease an_House_ease cd_House_ease ct_House_ease), sl_House_ease⟩)
    (co_House_ease : PySem.W.codeIn K cd_House_ease "House.ease" = true)
    (k_House_ease : PySem.W.keepIn K (.ref f_House_ease) = true)
    (a_House_go_on : PySem.W.findIn K (.ref c_House) "go_on" = some (some (.ref f_House_go_on)))
    (i_House_go_on : PySem.W.isFn K (.ref f_House_go_on) = true)
    (l_House_go_on : K.lookup f_House_go_on = some ⟨oc_House_go_on, od_House_go_on, .func (PySem.W.fnOf "go_on" "House.go_on" (defArgs s_House_go_on) (defBody s_House_go_on) (defScope s_House_go_on) .none kV_House_go_on dc_House_go_on pm_House_go_on an_House_go_on cd_House_go_on ct_House_go_on), sl_House_go_on⟩)
    (co_House_go_on : PySem.W.codeIn K cd_House_go_on "House.go_on" = true)
    (k_House_go_on : PySem.W.keepIn K (.ref f_House_go_on) = true)
    (a_House_come_up : PySem.W.findIn K (.ref c_House) "come_up" = some (some (.ref f_House_come_up)))
    (i_House_come_up : PySem.W.isFn K (.ref f_House_come_up) = true)
    (l_House_come_up : K.lookup f_House_come_up = some ⟨oc_House_come_up, od_House_come_up, .func (PySem.W.fnOf "come_up" "House.come_up" (defArgs s_House_come_up) (defBody s_House_come_up) (defScope s_House_come_up) .none kV_House_come_up dc_House_come_up pm_House_come_up an_House_come_up cd_House_come_up ct_House_come_up), sl_House_come_up⟩)
    (co_House_come_up : PySem.W.codeIn K cd_House_come_up "House.come_up" = true)
    (k_House_come_up : PySem.W.keepIn K (.ref f_House_come_up) = true)
    (a_House_step : PySem.W.findIn K (.ref c_House) "step" = some (some (.ref f_House_step)))
    (i_House_step : PySem.W.isFn K (.ref f_House_step) = true)
    (l_House_step : K.lookup f_House_step = some ⟨oc_House_step, od_House_step, .func (PySem.W.fnOf "step" "House.step" (defArgs s_House_step) (defBody s_House_step) (defScope s_House_step) .none kV_House_step dc_House_step pm_House_step an_House_step cd_House_step ct_House_step), sl_House_step⟩)
    (co_House_step : PySem.W.codeIn K cd_House_step "House.step" = true)
    (k_House_step : PySem.W.keepIn K (.ref f_House_step) = true)
    (a_House_turn : PySem.W.findIn K (.ref c_House) "turn" = some (some (.ref f_House_turn)))
    (i_House_turn : PySem.W.isFn K (.ref f_House_turn) = true)
    (l_House_turn : K.lookup f_House_turn = some ⟨oc_House_turn, od_House_turn, .func (PySem.W.fnOf "turn" "House.turn" (defArgs s_House_turn) (defBody s_House_turn) (defScope s_House_turn) .none kV_House_turn dc_House_turn pm_House_turn an_House_turn cd_House_turn ct_House_turn), sl_House_turn⟩)
    (co_House_turn : PySem.W.codeIn K cd_House_turn "House.turn" = true)
    (k_House_turn : PySem.W.keepIn K (.ref f_House_turn) = true)
    (a_House_stop : PySem.W.findIn K (.ref c_House) "stop" = some (some (.ref f_House_stop)))
    (i_House_stop : PySem.W.isFn K (.ref f_House_stop) = true)
    (l_House_stop : K.lookup f_House_stop = some ⟨oc_House_stop, od_House_stop, .func (PySem.W.fnOf "stop" "House.stop" (defArgs s_House_stop) (defBody s_House_stop) (defScope s_House_stop) .none kV_House_stop dc_House_stop pm_House_stop an_House_stop cd_House_stop ct_House_stop), sl_House_stop⟩)
    (co_House_stop : PySem.W.codeIn K cd_House_stop "House.stop" = true)
    (k_House_stop : PySem.W.keepIn K (.ref f_House_stop) = true)
    (a_House_doing : PySem.W.findIn K (.ref c_House) "doing" = some (some (.ref f_House_doing)))
    (i_House_doing : PySem.W.isFn K (.ref f_House_doing) = true)
    (l_House_doing : K.lookup f_House_doing = some ⟨oc_House_doing, od_House_doing, .func (PySem.W.fnOf "doing" "House.doing" (defArgs s_House_doing) (defBody s_House_doing) (defScope s_House_doing) .none kV_House_doing dc_House_doing pm_House_doing an_House_doing cd_House_doing ct_House_doing), sl_House_doing⟩)
    (co_House_doing : PySem.W.codeIn K cd_House_doing "House.doing" = true)
    (k_House_doing : PySem.W.keepIn K (.ref f_House_doing) = true)
    (a_House_on : PySem.W.findIn K (.ref c_House) "on" = some (some (.ref f_House_on)))
    (i_House_on : PySem.W.isFn K (.ref f_House_on) = true)
    (l_House_on : K.lookup f_House_on = some ⟨oc_House_on, od_House_on, .func (PySem.W.fnOf "on" "House.on" (defArgs s_House_on) (defBody s_House_on) (defScope s_House_on) .none kV_House_on dc_House_on pm_House_on an_House_on cd_House_on ct_House_on), sl_House_on⟩)
    (co_House_on : PySem.W.codeIn K cd_House_on "House.on" = true)
    (k_House_on : PySem.W.keepIn K (.ref f_House_on) = true)
    (a_House_rows : PySem.W.findIn K (.ref c_House) "rows" = some (some (.ref f_House_rows)))
    (i_House_rows : PySem.W.isFn K (.ref f_House_rows) = true)
    (l_House_rows : K.lookup f_House_rows = some ⟨oc_House_rows, od_House_rows, .func (PySem.W.fnOf "rows" "House.rows" (defArgs s_House_rows) (defBody s_House_rows) (defScope s_House_rows) .none kV_House_rows dc_House_rows pm_House_rows an_House_rows cd_House_rows ct_House_rows), sl_House_rows⟩)
    (co_House_rows : PySem.W.codeIn K cd_House_rows "House.rows" = true)
    (k_House_rows : PySem.W.keepIn K (.ref f_House_rows) = true)
    (a_built : PySem.W.nsIn K mainGlobals "built" = some (some (.ref f_built)))
    (l_built : K.lookup f_built = some ⟨oc_built, od_built, .func (PySem.W.fnOf "built" "built" (defArgs s_built) (defBody s_built) (defScope s_built) .none kV_built dc_built pm_built an_built cd_built ct_built), sl_built⟩)
    (co_built : PySem.W.codeIn K cd_built "built" = true)
    (k_built : PySem.W.keepIn K (.ref f_built) = true)
    (rd_Shape : PySem.W.readsIn K c_Shape (.type "type") = true)
    (ga_Shape : PySem.W.specialIn K (.ref c_Shape) "__getattribute__" = some (some (.builtin "type.__getattribute__")))
    (fc_Shape___init__ : PySem.W.findCls K (.ref c_Shape) (.type "type") "__init__" = some (.val (.ref f_Shape_init)))
    (rd_Leaf : PySem.W.readsIn K c_Leaf (.type "type") = true)
    (ga_Leaf : PySem.W.specialIn K (.ref c_Leaf) "__getattribute__" = some (some (.builtin "type.__getattribute__")))
    (fc_Leaf___init__ : PySem.W.findCls K (.ref c_Leaf) (.type "type") "__init__" = some (.val (.ref f_Leaf_init)))
    (a_AllMinder___init__ : PySem.W.findIn K (.ref c_AllMinder) "__init__" = some (some (.ref f_Minder_init)))
    (a_RestMinder___init__ : PySem.W.findIn K (.ref c_RestMinder) "__init__" = some (some (.ref f_Minder_init)))
    (a_Leaf_begun_again : PySem.W.findIn K (.ref c_Leaf) "begun_again" = some (some (.ref f_Shape_begun_again)))
    (a_Steady_begun_again : PySem.W.findIn K (.ref c_Steady) "begun_again" = some (some (.ref f_Shape_begun_again)))
    (a_Faller_begun_again : PySem.W.findIn K (.ref c_Faller) "begun_again" = some (some (.ref f_Shape_begun_again)))
    (a_Minder_begun_again : PySem.W.findIn K (.ref c_Minder) "begun_again" = some (some (.ref f_Shape_begun_again)))
    (a_AllMinder_begun_again : PySem.W.findIn K (.ref c_AllMinder) "begun_again" = some (some (.ref f_Shape_begun_again)))
    (a_RestMinder_begun_again : PySem.W.findIn K (.ref c_RestMinder) "begun_again" = some (some (.ref f_Shape_begun_again)))
    (a_Steady_leaf : PySem.W.findIn K (.ref c_Steady) "leaf" = some (some (.ref f_Leaf_leaf)))
    (a_Faller_leaf : PySem.W.findIn K (.ref c_Faller) "leaf" = some (some (.ref f_Leaf_leaf)))
    (a_Minder_leaf : PySem.W.findIn K (.ref c_Minder) "leaf" = some (some (.ref f_Shape_leaf)))
    (a_AllMinder_leaf : PySem.W.findIn K (.ref c_AllMinder) "leaf" = some (some (.ref f_Shape_leaf)))
    (a_RestMinder_leaf : PySem.W.findIn K (.ref c_RestMinder) "leaf" = some (some (.ref f_Shape_leaf)))
    (a_NoNumber : PySem.W.nsIn K mainGlobals "NoNumber" = some (some (.ref c_NoNumber)))
    (xf_NoNumber : PySem.W.excIn K c_NoNumber [.type "ValueError", .type "Exception", .type "BaseException", .type "object"] "ValueError.__new__" = true)
    (kc_NoNumber : PySem.W.keepIn K (.ref c_NoNumber) = true)
    (eb_NoNumber : PySem.W.subIn K (.ref c_NoNumber) (.type "BaseException") = some true)
    (et_NoNumber : PySem.W.typeIn K (.ref c_NoNumber) = some (.type "type"))
    (a_MinderError : PySem.W.nsIn K mainGlobals "MinderError" = some (some (.ref c_MinderError)))
    (cb_MinderError : PySem.W.subIn K (.ref c_MinderError) (.type "BaseException") = some true)
    (cd_MinderError : PySem.W.hasDictIn K c_MinderError = true)
    (ct_MinderError : PySem.W.typeIn K (.ref c_MinderError) = some (.type "type"))
    (cs_MinderError_NoNumber : PySem.W.subIn K (.ref c_NoNumber) (.ref c_MinderError) = some true)
    (a_law_cell_at : PySem.W.nsIn K mainGlobals "_law_cell_at" = some (some (.ref f_law_cell_at)))
    (l_law_cell_at : K.lookup f_law_cell_at = some ⟨oc_law_cell_at, od_law_cell_at, .func (PySem.W.fnOf "_law_cell_at" "_law_cell_at" (defArgs s_law_cell_at) (defBody s_law_cell_at) (defScope s_law_cell_at) .none kV_law_cell_at dc_law_cell_at pm_law_cell_at an_law_cell_at cd_law_cell_at ct_law_cell_at), sl_law_cell_at⟩)
    (co_law_cell_at : PySem.W.codeIn K cd_law_cell_at "_law_cell_at" = true)
    (k_law_cell_at : PySem.W.keepIn K (.ref f_law_cell_at) = true)
    (a_law_number : PySem.W.nsIn K mainGlobals "_law_number" = some (some (.ref f_law_number)))
    (l_law_number : K.lookup f_law_number = some ⟨oc_law_number, od_law_number, .func (PySem.W.fnOf "_law_number" "_law_number" (defArgs s_law_number) (defBody s_law_number) (defScope s_law_number) .none kV_law_number dc_law_number pm_law_number an_law_number cd_law_number ct_law_number), sl_law_number⟩)
    (co_law_number : PySem.W.codeIn K cd_law_number "_law_number" = true)
    (k_law_number : PySem.W.keepIn K (.ref f_law_number) = true)
    (a_law_due : PySem.W.nsIn K mainGlobals "_law_due" = some (some (.ref f_law_due)))
    (l_law_due : K.lookup f_law_due = some ⟨oc_law_due, od_law_due, .func (PySem.W.fnOf "_law_due" "_law_due" (defArgs s_law_due) (defBody s_law_due) (defScope s_law_due) .none kV_law_due dc_law_due pm_law_due an_law_due cd_law_due ct_law_due), sl_law_due⟩)
    (co_law_due : PySem.W.codeIn K cd_law_due "_law_due" = true)
    (k_law_due : PySem.W.keepIn K (.ref f_law_due) = true)
    (a_law_stands : PySem.W.nsIn K mainGlobals "_law_stands" = some (some (.ref f_law_stands)))
    (l_law_stands : K.lookup f_law_stands = some ⟨oc_law_stands, od_law_stands, .func (PySem.W.fnOf "_law_stands" "_law_stands" (defArgs s_law_stands) (defBody s_law_stands) (defScope s_law_stands) .none kV_law_stands dc_law_stands pm_law_stands an_law_stands cd_law_stands ct_law_stands), sl_law_stands⟩)
    (co_law_stands : PySem.W.codeIn K cd_law_stands "_law_stands" = true)
    (k_law_stands : PySem.W.keepIn K (.ref f_law_stands) = true)
    (a_law : PySem.W.nsIn K mainGlobals "law" = some (some (.ref f_law)))
    (l_law : K.lookup f_law = some ⟨oc_law, od_law, .func (PySem.W.fnOf "law" "law" (defArgs s_law) (defBody s_law) (defScope s_law) .none kV_law dc_law pm_law an_law cd_law ct_law), sl_law⟩)
    (co_law : PySem.W.codeIn K cd_law "law" = true)
    (k_law : PySem.W.keepIn K (.ref f_law) = true) :
    ∃ fd : FuncData, (∀ (s : Shared) (v : Value), BindsTo s fd ⟨[v], []⟩ [("_law_script", v)]) ∧ ∀ base : Heap, K.In base → base.Ns mainGlobals mg → FnOk l.prog w K mg base CX0 58 fa fd ["_law_script"] (spLaw K) := by
  have e := hfa.symm.trans (PySem.W.mg_of X G a_law)
  cases e
  have T : Bt mg := ⟨PySem.W.mg_none_of X G z_len, PySem.W.mg_none_of X G z_int, PySem.W.mg_none_of X G z_list, PySem.W.mg_none_of X G z_str, PySem.W.mg_none_of X G z_divmod, PySem.W.mg_none_of X G z_range, PySem.W.mg_none_of X G z_isinstance, PySem.W.mg_none_of X G z_tuple, PySem.W.mg_none_of X G z_ValueError, PySem.W.mg_none_of X G z_KeyError, PySem.W.mg_none_of X G z_min⟩
  have mg_NotOn := PySem.W.mg_of X G a_NotOn
  have e_NotOn : ErrK K mg "NotOn" c_NotOn := ⟨xf_NotOn, mg_NotOn, kc_NotOn, eb_NotOn, et_NotOn⟩
  have nm_NotOn : NamK K mg "NotOn" c_NotOn := ⟨mg_NotOn⟩
  have ex_NotOn_NotOn := PySem.W.exm_ref cb_NotOn cd_NotOn ct_NotOn cs_NotOn_NotOn
  have mg_Shape := PySem.W.mg_of X G a_Shape
  have cf_Shape : ClsF K c_Shape [] := ⟨⟨pg_Shape, hd_Shape, po_Shape, sa_Shape⟩, clsF_nil⟩
  have mg_Leaf := PySem.W.mg_of X G a_Leaf
  have cf_Leaf : ClsF K c_Leaf ["name", "keep", "grace", "slow"] := ⟨⟨pg_Leaf, hd_Leaf, po_Leaf, sa_Leaf⟩, (clsF_cons n_Leaf_name <| (clsF_cons n_Leaf_keep <| (clsF_cons n_Leaf_grace <| (clsF_cons n_Leaf_slow <| clsF_nil))))⟩
  have mg_Steady := PySem.W.mg_of X G a_Steady
  have cf_Steady : ClsF K c_Steady ["name", "keep", "grace", "slow", "many"] := ⟨⟨pg_Steady, hd_Steady, po_Steady, sa_Steady⟩, (clsF_cons n_Steady_name <| (clsF_cons n_Steady_keep <| (clsF_cons n_Steady_grace <| (clsF_cons n_Steady_slow <| (clsF_cons n_Steady_many <| clsF_nil)))))⟩
  have mg_Faller := PySem.W.mg_of X G a_Faller
  have cf_Faller : ClsF K c_Faller ["name", "keep", "grace", "slow", "many"] := ⟨⟨pg_Faller, hd_Faller, po_Faller, sa_Faller⟩, (clsF_cons n_Faller_name <| (clsF_cons n_Faller_keep <| (clsF_cons n_Faller_grace <| (clsF_cons n_Faller_slow <| (clsF_cons n_Faller_many <| clsF_nil)))))⟩
  have mg_Minder := PySem.W.mg_of X G a_Minder
  have cf_Minder : ClsF K c_Minder ["name", "keep", "most", "span"] := ⟨⟨pg_Minder, hd_Minder, po_Minder, sa_Minder⟩, (clsF_cons n_Minder_name <| (clsF_cons n_Minder_keep <| (clsF_cons n_Minder_most <| (clsF_cons n_Minder_span <| clsF_nil))))⟩
  have mg_AllMinder := PySem.W.mg_of X G a_AllMinder
  have cf_AllMinder : ClsF K c_AllMinder ["name", "keep", "most", "span"] := ⟨⟨pg_AllMinder, hd_AllMinder, po_AllMinder, sa_AllMinder⟩, (clsF_cons n_AllMinder_name <| (clsF_cons n_AllMinder_keep <| (clsF_cons n_AllMinder_most <| (clsF_cons n_AllMinder_span <| clsF_nil))))⟩
  have mg_RestMinder := PySem.W.mg_of X G a_RestMinder
  have cf_RestMinder : ClsF K c_RestMinder ["name", "keep", "most", "span"] := ⟨⟨pg_RestMinder, hd_RestMinder, po_RestMinder, sa_RestMinder⟩, (clsF_cons n_RestMinder_name <| (clsF_cons n_RestMinder_keep <| (clsF_cons n_RestMinder_most <| (clsF_cons n_RestMinder_span <| clsF_nil))))⟩
  have mg_Tree := PySem.W.mg_of X G a_Tree
  have cf_Tree : ClsF K c_Tree ["shapes", "elders", "young", "known"] := ⟨⟨pg_Tree, hd_Tree, po_Tree, sa_Tree⟩, (clsF_cons n_Tree_shapes <| (clsF_cons n_Tree_elders <| (clsF_cons n_Tree_young <| (clsF_cons n_Tree_known <| clsF_nil))))⟩
  have mg_Book := PySem.W.mg_of X G a_Book
  have cf_Book : ClsF K c_Book ["entries"] := ⟨⟨pg_Book, hd_Book, po_Book, sa_Book⟩, (clsF_cons n_Book_entries <| clsF_nil)⟩
  have mg_Post := PySem.W.mg_of X G a_Post
  have cf_Post : ClsF K c_Post ["phase", "planned", "born", "steps", "slow", "grace", "good", "put", "anew", "falls", "waiting", "gave"] := ⟨⟨pg_Post, hd_Post, po_Post, sa_Post⟩, (clsF_cons n_Post_phase <| (clsF_cons n_Post_planned <| (clsF_cons n_Post_born <| (clsF_cons n_Post_steps <| (clsF_cons n_Post_slow <| (clsF_cons n_Post_grace <| (clsF_cons n_Post_good <| (clsF_cons n_Post_put <| (clsF_cons n_Post_anew <| (clsF_cons n_Post_falls <| (clsF_cons n_Post_waiting <| (clsF_cons n_Post_gave <| clsF_nil))))))))))))⟩
  have mg_House := PySem.W.mg_of X G a_House
  have cf_House : ClsF K c_House ["tree", "clock", "book", "posts", "heard"] := ⟨⟨pg_House, hd_House, po_House, sa_House⟩, (clsF_cons n_House_tree <| (clsF_cons n_House_clock <| (clsF_cons n_House_book <| (clsF_cons n_House_posts <| (clsF_cons n_House_heard <| clsF_nil)))))⟩
  have mg_SIGNS := PySem.W.mg_of X G a_SIGNS
  have mg_BOUND := PySem.W.mg_of X G a_BOUND
  have mg_DEEPEST := PySem.W.mg_of X G a_DEEPEST
  have mg_KEEPS := PySem.W.mg_of X G a_KEEPS
  have sq_KEEPS : ∀ H : Hp, SqT K H t_KEEPS [.str "always", .str "fallen", .str "never"] := fun H => .inr ⟨_, _, _, l_KEEPS, rfl, rfl, (by show 3 ≤ sizeLine; rw [sizeLine_eq]; decide), .cons ⟨_, rfl⟩ (.cons ⟨_, rfl⟩ (.cons ⟨_, rfl⟩ (.nil)))⟩
  have mg_FALLS := PySem.W.mg_of X G a_FALLS
  have sq_FALLS : ∀ H : Hp, SqT K H t_FALLS [.str "fallen", .str "gave up"] := fun H => .inr ⟨_, _, _, l_FALLS, rfl, rfl, (by show 2 ≤ sizeLine; rw [sizeLine_eq]; decide), .cons ⟨_, rfl⟩ (.cons ⟨_, rfl⟩ (.nil))⟩
  have F_fit_name := fun_mk (st := s_fit_name) l_fit_name co_fit_name k_fit_name
  have b_fit_name := F_fit_name.binds (ps := ["text"]) fun _ _ _ _ _ _ us hl => match us, hl with | [_], _ => rfl
  have F_number_in : FunS K "number_in" "number_in" s_number_in [.int 1000000] f_number_in _ := ⟨⟨_, _, _, _, _, _, _, _, _, _, rfl, l_number_in, co_number_in, .inr ⟨List.cons_ne_nil _ _, _, _, _, _, rfl, lT_number_in, rfl, .cons ⟨_, rfl⟩ (.nil)⟩, .inl rfl⟩, k_number_in⟩
  have F_Shape_init := fun_mk (st := s_Shape_init) l_Shape_init co_Shape_init k_Shape_init
  have b_Shape_init := F_Shape_init.binds (ps := ["self", "name", "keep"]) fun _ _ _ _ _ _ us hl => match us, hl with | [_, _, _], _ => rfl
  have F_Shape_leaf := fun_mk (st := s_Shape_leaf) l_Shape_leaf co_Shape_leaf k_Shape_leaf
  have b_Shape_leaf := F_Shape_leaf.binds (ps := ["self"]) fun _ _ _ _ _ _ us hl => match us, hl with | [_], _ => rfl
  have F_Shape_begun_again := fun_mk (st := s_Shape_begun_again) l_Shape_begun_again co_Shape_begun_again k_Shape_begun_again
  have b_Shape_begun_again := F_Shape_begun_again.binds (ps := ["self", "word"]) fun _ _ _ _ _ _ us hl => match us, hl with | [_, _], _ => rfl
  have F_Leaf_init : FunS K "__init__" "Leaf.__init__" s_Leaf_init [.int 0, .int 0] f_Leaf_init _ := ⟨⟨_, _, _, _, _, _, _, _, _, _, rfl, l_Leaf_init, co_Leaf_init, .inr ⟨List.cons_ne_nil _ _, _, _, _, _, rfl, lT_Leaf_init, rfl, .cons ⟨_, rfl⟩ (.cons ⟨_, rfl⟩ (.nil))⟩, .inl rfl⟩, k_Leaf_init⟩
  have F_Leaf_leaf := fun_mk (st := s_Leaf_leaf) l_Leaf_leaf co_Leaf_leaf k_Leaf_leaf
  have b_Leaf_leaf := F_Leaf_leaf.binds (ps := ["self"]) fun _ _ _ _ _ _ us hl => match us, hl with | [_], _ => rfl
  have F_Leaf_end_at := fun_mk (st := s_Leaf_end_at) l_Leaf_end_at co_Leaf_end_at k_Leaf_end_at
  have b_Leaf_end_at := F_Leaf_end_at.binds (ps := ["self", "steps"]) fun _ _ _ _ _ _ us hl => match us, hl with | [_, _], _ => rfl
  have F_Steady_init : FunS K "__init__" "Steady.__init__" s_Steady_init [.int 0, .int 0] f_Steady_init _ := ⟨⟨_, _, _, _, _, _, _, _, _, _, rfl, l_Steady_init, co_Steady_init, .inr ⟨List.cons_ne_nil _ _, _, _, _, _, rfl, lT_Steady_init, rfl, .cons ⟨_, rfl⟩ (.cons ⟨_, rfl⟩ (.nil))⟩, .inl rfl⟩, k_Steady_init⟩
  have F_Steady_end_at := fun_mk (st := s_Steady_end_at) l_Steady_end_at co_Steady_end_at k_Steady_end_at
  have b_Steady_end_at := F_Steady_end_at.binds (ps := ["self", "steps"]) fun _ _ _ _ _ _ us hl => match us, hl with | [_, _], _ => rfl
  have F_Faller_init : FunS K "__init__" "Faller.__init__" s_Faller_init [.int 0, .int 0] f_Faller_init _ := ⟨⟨_, _, _, _, _, _, _, _, _, _, rfl, l_Faller_init, co_Faller_init, .inr ⟨List.cons_ne_nil _ _, _, _, _, _, rfl, lT_Faller_init, rfl, .cons ⟨_, rfl⟩ (.cons ⟨_, rfl⟩ (.nil))⟩, .inl rfl⟩, k_Faller_init⟩
  have F_Faller_end_at := fun_mk (st := s_Faller_end_at) l_Faller_end_at co_Faller_end_at k_Faller_end_at
  have b_Faller_end_at := F_Faller_end_at.binds (ps := ["self", "steps"]) fun _ _ _ _ _ _ us hl => match us, hl with | [_, _], _ => rfl
  have F_Minder_init : FunS K "__init__" "Minder.__init__" s_Minder_init [.int 1, .int 1] f_Minder_init _ := ⟨⟨_, _, _, _, _, _, _, _, _, _, rfl, l_Minder_init, co_Minder_init, .inr ⟨List.cons_ne_nil _ _, _, _, _, _, rfl, lT_Minder_init, rfl, .cons ⟨_, rfl⟩ (.cons ⟨_, rfl⟩ (.nil))⟩, .inl rfl⟩, k_Minder_init⟩
  have F_Minder_chosen := fun_mk (st := s_Minder_chosen) l_Minder_chosen co_Minder_chosen k_Minder_chosen
  have b_Minder_chosen := F_Minder_chosen.binds (ps := ["self", "place", "count", "on", "good"]) fun _ _ _ _ _ _ us hl => match us, hl with | [_, _, _, _, _], _ => rfl
  have F_AllMinder_chosen := fun_mk (st := s_AllMinder_chosen) l_AllMinder_chosen co_AllMinder_chosen k_AllMinder_chosen
  have b_AllMinder_chosen := F_AllMinder_chosen.binds (ps := ["self", "place", "count", "on", "good"]) fun _ _ _ _ _ _ us hl => match us, hl with | [_, _, _, _, _], _ => rfl
  have F_RestMinder_chosen := fun_mk (st := s_RestMinder_chosen) l_RestMinder_chosen co_RestMinder_chosen k_RestMinder_chosen
  have b_RestMinder_chosen := F_RestMinder_chosen.binds (ps := ["self", "place", "count", "on", "good"]) fun _ _ _ _ _ _ us hl => match us, hl with | [_, _, _, _, _], _ => rfl
  have F_Tree_init := fun_mk (st := s_Tree_init) l_Tree_init co_Tree_init k_Tree_init
  have b_Tree_init := F_Tree_init.binds (ps := ["self"]) fun _ _ _ _ _ _ us hl => match us, hl with | [_], _ => rfl
  have F_Tree_add := fun_mk (st := s_Tree_add) l_Tree_add co_Tree_add k_Tree_add
  have b_Tree_add := F_Tree_add.binds (ps := ["self", "shape", "elder"]) fun _ _ _ _ _ _ us hl => match us, hl with | [_, _, _], _ => rfl
  have F_Tree_find := fun_mk (st := s_Tree_find) l_Tree_find co_Tree_find k_Tree_find
  have b_Tree_find := F_Tree_find.binds (ps := ["self", "name"]) fun _ _ _ _ _ _ us hl => match us, hl with | [_, _], _ => rfl
  have F_Tree_place := fun_mk (st := s_Tree_place) l_Tree_place co_Tree_place k_Tree_place
  have b_Tree_place := F_Tree_place.binds (ps := ["self", "at"]) fun _ _ _ _ _ _ us hl => match us, hl with | [_, _], _ => rfl
  have F_Tree_depth := fun_mk (st := s_Tree_depth) l_Tree_depth co_Tree_depth k_Tree_depth
  have b_Tree_depth := F_Tree_depth.binds (ps := ["self", "at"]) fun _ _ _ _ _ _ us hl => match us, hl with | [_, _], _ => rfl
  have F_leaf_by := fun_mk (st := s_leaf_by) l_leaf_by co_leaf_by k_leaf_by
  have b_leaf_by := F_leaf_by.binds (ps := ["words"]) fun _ _ _ _ _ _ us hl => match us, hl with | [_], _ => rfl
  have F_minder_by := fun_mk (st := s_minder_by) l_minder_by co_minder_by k_minder_by
  have b_minder_by := F_minder_by.binds (ps := ["words"]) fun _ _ _ _ _ _ us hl => match us, hl with | [_], _ => rfl
  have F_shape_by := fun_mk (st := s_shape_by) l_shape_by co_shape_by k_shape_by
  have b_shape_by := F_shape_by.binds (ps := ["words"]) fun _ _ _ _ _ _ us hl => match us, hl with | [_], _ => rfl
  have F_elder_at := fun_mk (st := s_elder_at) l_elder_at co_elder_at k_elder_at
  have b_elder_at := F_elder_at.binds (ps := ["tree", "deep"]) fun _ _ _ _ _ _ us hl => match us, hl with | [_, _], _ => rfl
  have F_read := fun_mk (st := s_read) l_read co_read k_read
  have b_read := F_read.binds (ps := ["text"]) fun _ _ _ _ _ _ us hl => match us, hl with | [_], _ => rfl
  have F_bit := fun_mk (st := s_bit) l_bit co_bit k_bit
  have b_bit := F_bit.binds (ps := ["place"]) fun _ _ _ _ _ _ us hl => match us, hl with | [_], _ => rfl
  have F_below := fun_mk (st := s_below) l_below co_below k_below
  have b_below := F_below.binds (ps := ["count"]) fun _ _ _ _ _ _ us hl => match us, hl with | [_], _ => rfl
  have F_places := fun_mk (st := s_places) l_places co_places k_places
  have b_places := F_places.binds (ps := ["bits"]) fun _ _ _ _ _ _ us hl => match us, hl with | [_], _ => rfl
  have F_last := fun_mk (st := s_last) l_last co_last k_last
  have b_last := F_last.binds (ps := ["bits"]) fun _ _ _ _ _ _ us hl => match us, hl with | [_], _ => rfl
  have F_without := fun_mk (st := s_without) l_without co_without k_without
  have b_without := F_without.binds (ps := ["bits", "place"]) fun _ _ _ _ _ _ us hl => match us, hl with | [_, _], _ => rfl
  have F_recent := fun_mk (st := s_recent) l_recent co_recent k_recent
  have b_recent := F_recent.binds (ps := ["falls", "clock", "span"]) fun _ _ _ _ _ _ us hl => match us, hl with | [_, _, _], _ => rfl
  have F_too_many := fun_mk (st := s_too_many) l_too_many co_too_many k_too_many
  have b_too_many := F_too_many.binds (ps := ["falls", "clock", "span", "most"]) fun _ _ _ _ _ _ us hl => match us, hl with | [_, _, _, _], _ => rfl
  have F_Book_init := fun_mk (st := s_Book_init) l_Book_init co_Book_init k_Book_init
  have b_Book_init := F_Book_init.binds (ps := ["self"]) fun _ _ _ _ _ _ us hl => match us, hl with | [_], _ => rfl
  have F_Book_note := fun_mk (st := s_Book_note) l_Book_note co_Book_note k_Book_note
  have b_Book_note := F_Book_note.binds (ps := ["self", "turn", "word", "name"]) fun _ _ _ _ _ _ us hl => match us, hl with | [_, _, _, _], _ => rfl
  have F_Book_rows := fun_mk (st := s_Book_rows) l_Book_rows co_Book_rows k_Book_rows
  have b_Book_rows := F_Book_rows.binds (ps := ["self"]) fun _ _ _ _ _ _ us hl => match us, hl with | [_], _ => rfl
  have F_Post_init := fun_mk (st := s_Post_init) l_Post_init co_Post_init k_Post_init
  have b_Post_init := F_Post_init.binds (ps := ["self"]) fun _ _ _ _ _ _ us hl => match us, hl with | [_], _ => rfl
  have F_House_init := fun_mk (st := s_House_init) l_House_init co_House_init k_House_init
  have b_House_init := F_House_init.binds (ps := ["self", "tree"]) fun _ _ _ _ _ _ us hl => match us, hl with | [_, _], _ => rfl
  have F_House_note := fun_mk (st := s_House_note) l_House_note co_House_note k_House_note
  have b_House_note := F_House_note.binds (ps := ["self", "word", "at"]) fun _ _ _ _ _ _ us hl => match us, hl with | [_, _, _], _ => rfl
  have F_House_begin := fun_mk (st := s_House_begin) l_House_begin co_House_begin k_House_begin
  have b_House_begin := F_House_begin.binds (ps := ["self", "at"]) fun _ _ _ _ _ _ us hl => match us, hl with | [_, _], _ => rfl
  have F_House_on_of := fun_mk (st := s_House_on_of) l_House_on_of co_House_on_of k_House_on_of
  have b_House_on_of := F_House_on_of.binds (ps := ["self", "at"]) fun _ _ _ _ _ _ us hl => match us, hl with | [_, _], _ => rfl
  have F_House_over := fun_mk (st := s_House_over) l_House_over co_House_over k_House_over
  have b_House_over := F_House_over.binds (ps := ["self", "at", "word"]) fun _ _ _ _ _ _ us hl => match us, hl with | [_, _, _], _ => rfl
  have F_House_settle := fun_mk (st := s_House_settle) l_House_settle co_House_settle k_House_settle
  have b_House_settle := F_House_settle.binds (ps := ["self"]) fun _ _ _ _ _ _ us hl => match us, hl with | [_], _ => rfl
  have F_House_hear := fun_mk (st := s_House_hear) l_House_hear co_House_hear k_House_hear
  have b_House_hear := F_House_hear.binds (ps := ["self", "at", "planned"]) fun _ _ _ _ _ _ us hl => match us, hl with | [_, _, _], _ => rfl
  have F_House_decide := fun_mk (st := s_House_decide) l_House_decide co_House_decide k_House_decide
  have b_House_decide := F_House_decide.binds (ps := ["self", "elder", "at"]) fun _ _ _ _ _ _ us hl => match us, hl with | [_, _, _], _ => rfl
  have F_House_go_down := fun_mk (st := s_House_go_down) l_House_go_down co_House_go_down k_House_go_down
  have b_House_go_down := F_House_go_down.binds (ps := ["self", "at", "gave"]) fun _ _ _ _ _ _ us hl => match us, hl with | [_, _, _], _ => rfl
  have F_House_tell := fun_mk (st := s_House_tell) l_House_tell co_House_tell k_House_tell
  have b_House_tell := F_House_tell.binds (ps := ["self", "at"]) fun _ _ _ _ _ _ us hl => match us, hl with | [_, _], _ => rfl
  have F_House_ease := fun_mk (st := s_House_ease) l_House_ease co_House_ease k_House_ease
  have b_House_ease := F_House_ease.binds (ps := ["self", "at"]) fun _ _ _ _ _ _ us hl => match us, hl with | [_, _], _ => rfl
  have F_House_go_on := fun_mk (st := s_House_go_on) l_House_go_on co_House_go_on k_House_go_on
  have b_House_go_on := F_House_go_on.binds (ps := ["self", "at"]) fun _ _ _ _ _ _ us hl => match us, hl with | [_, _], _ => rfl
  have F_House_come_up := fun_mk (st := s_House_come_up) l_House_come_up co_House_come_up k_House_come_up
  have b_House_come_up := F_House_come_up.binds (ps := ["self", "at"]) fun _ _ _ _ _ _ us hl => match us, hl with | [_, _], _ => rfl
  have F_House_step := fun_mk (st := s_House_step) l_House_step co_House_step k_House_step
  have b_House_step := F_House_step.binds (ps := ["self", "at"]) fun _ _ _ _ _ _ us hl => match us, hl with | [_, _], _ => rfl
  have F_House_turn := fun_mk (st := s_House_turn) l_House_turn co_House_turn k_House_turn
  have b_House_turn := F_House_turn.binds (ps := ["self"]) fun _ _ _ _ _ _ us hl => match us, hl with | [_], _ => rfl
  have F_House_stop := fun_mk (st := s_House_stop) l_House_stop co_House_stop k_House_stop
  have b_House_stop := F_House_stop.binds (ps := ["self"]) fun _ _ _ _ _ _ us hl => match us, hl with | [_], _ => rfl
  have F_House_doing := fun_mk (st := s_House_doing) l_House_doing co_House_doing k_House_doing
  have b_House_doing := F_House_doing.binds (ps := ["self", "name"]) fun _ _ _ _ _ _ us hl => match us, hl with | [_, _], _ => rfl
  have F_House_on := fun_mk (st := s_House_on) l_House_on co_House_on k_House_on
  have b_House_on := F_House_on.binds (ps := ["self"]) fun _ _ _ _ _ _ us hl => match us, hl with | [_], _ => rfl
  have F_House_rows := fun_mk (st := s_House_rows) l_House_rows co_House_rows k_House_rows
  have b_House_rows := F_House_rows.binds (ps := ["self"]) fun _ _ _ _ _ _ us hl => match us, hl with | [_], _ => rfl
  have F_built := fun_mk (st := s_built) l_built co_built k_built
  have b_built := F_built.binds (ps := ["tree"]) fun _ _ _ _ _ _ us hl => match us, hl with | [_], _ => rfl
  have mg_NoNumber := PySem.W.mg_of X G a_NoNumber
  have e_NoNumber : ErrK K mg "NoNumber" c_NoNumber := ⟨xf_NoNumber, mg_NoNumber, kc_NoNumber, eb_NoNumber, et_NoNumber⟩
  have mg_MinderError := PySem.W.mg_of X G a_MinderError
  have nm_MinderError : NamK K mg "MinderError" c_MinderError := ⟨mg_MinderError⟩
  have ex_MinderError_NoNumber := PySem.W.exm_ref cb_MinderError cd_MinderError ct_MinderError cs_MinderError_NoNumber
  have F_law_cell_at := fun_mk (st := s_law_cell_at) l_law_cell_at co_law_cell_at k_law_cell_at
  have b_law_cell_at := F_law_cell_at.binds (ps := ["_law_script", "_law_k"]) fun _ _ _ _ _ _ us hl => match us, hl with | [_, _], _ => rfl
  have F_law_number := fun_mk (st := s_law_number) l_law_number co_law_number k_law_number
  have b_law_number := F_law_number.binds (ps := ["_law_cell"]) fun _ _ _ _ _ _ us hl => match us, hl with | [_], _ => rfl
  have F_law_due := fun_mk (st := s_law_due) l_law_due co_law_due k_law_due
  have b_law_due := F_law_due.binds (ps := ["_law_clock", "_law_stop", "_law_slow", "_law_grace"]) fun _ _ _ _ _ _ us hl => match us, hl with | [_, _, _, _], _ => rfl
  have F_law_stands := fun_mk (st := s_law_stands) l_law_stands co_law_stands k_law_stands
  have b_law_stands := F_law_stands.binds (ps := ["_law_house", "_law_due_here"]) fun _ _ _ _ _ _ us hl => match us, hl with | [_, _], _ => rfl
  have F_law := fun_mk (st := s_law) l_law co_law k_law
  have b_law := F_law.binds (ps := ["_law_script"]) fun _ _ _ _ _ _ us hl => match us, hl with | [_], _ => rfl
  refine ⟨PySem.W.fnOf "law" "law" (defArgs s_law) (defBody s_law) (defScope s_law) .none kV_law dc_law pm_law an_law cd_law ct_law, fun s v => .of_eq rfl, fun base _ _ => ?_⟩
  have S_Shape___init__ : CMt l.prog w K mg base CX0 "Shape" "__init__" 1 ["self", "name", "keep"] [] (spShape (K := K)) := ⟨⟨_, _, _, _, [], mg_Shape, ⟨rd_Shape, ga_Shape⟩, fc_Shape___init__, (ok_Shape_init F_Shape_init), k_Shape_init, b_Shape_init, .nil⟩⟩
  obtain ⟨dt_Leaf___init__, ht_Leaf___init__, hu_Leaf___init__⟩ := F_Leaf_init.binds1 (ps := ["self", "name", "keep", "grace", "slow"]) 5 2 (List.cons_ne_nil _ _) rfl fun _ _ _ _ _ _ _ us its hu hi => match us, hu, its, hi with | [_, _, _, _, _], _, [_, _], _ => ⟨_, rfl, rfl⟩
  have S_Leaf___init__ : CMt l.prog w K mg base CX0 "Leaf" "__init__" 2 ["self", "name", "keep", "grace", "slow"] [] (spLeaf K) := ⟨⟨_, _, _, _, dt_Leaf___init__, mg_Leaf, ⟨rd_Leaf, ga_Leaf⟩, fc_Leaf___init__, (ok_Leaf_init F_Leaf_init S_Shape___init__), k_Leaf_init, hu_Leaf___init__, ht_Leaf___init__⟩⟩
  obtain ⟨ds_Leaf_4, hd_Leaf_4, hb_Leaf_4⟩ := F_Leaf_init.binds1 (ps := ["self", "name", "keep", "grace", "slow"]) 5 2 (List.cons_ne_nil _ _) rfl fun _ _ _ _ _ _ _ us its hu hi => match us, hu, its, hi with | [_, _, _, _, _], _, [_, _], _ => ⟨_, rfl, rfl⟩
  have K_Leaf_4 : Mak l.prog w K mg base CX0 "Leaf" c_Leaf 2 ["self", "name", "keep", "grace", "slow"] [] (spLeaf K) := ⟨⟨_, _, ds_Leaf_4, (ok_Leaf_init F_Leaf_init S_Shape___init__), mg_Leaf, ⟨mk_Leaf, a_Leaf___init__, i_Leaf_init, kc_Leaf⟩, hb_Leaf_4, hd_Leaf_4⟩⟩
  obtain ⟨ds_Steady_5, hd_Steady_5, hb_Steady_5⟩ := F_Steady_init.binds1 (ps := ["self", "name", "keep", "many", "grace", "slow"]) 6 2 (List.cons_ne_nil _ _) rfl fun _ _ _ _ _ _ _ us its hu hi => match us, hu, its, hi with | [_, _, _, _, _, _], _, [_, _], _ => ⟨_, rfl, rfl⟩
  have K_Steady_5 : Mak l.prog w K mg base CX0 "Steady" c_Steady 3 ["self", "name", "keep", "many", "grace", "slow"] [] (spMany K c_Steady) := ⟨⟨_, _, ds_Steady_5, (ok_Steady_init F_Steady_init cf_Steady S_Leaf___init__), mg_Steady, ⟨mk_Steady, a_Steady___init__, i_Steady_init, kc_Steady⟩, hb_Steady_5, hd_Steady_5⟩⟩
  obtain ⟨ds_Faller_5, hd_Faller_5, hb_Faller_5⟩ := F_Faller_init.binds1 (ps := ["self", "name", "keep", "many", "grace", "slow"]) 6 2 (List.cons_ne_nil _ _) rfl fun _ _ _ _ _ _ _ us its hu hi => match us, hu, its, hi with | [_, _, _, _, _, _], _, [_, _], _ => ⟨_, rfl, rfl⟩
  have K_Faller_5 : Mak l.prog w K mg base CX0 "Faller" c_Faller 3 ["self", "name", "keep", "many", "grace", "slow"] [] (spMany K c_Faller) := ⟨⟨_, _, ds_Faller_5, (ok_Faller_init F_Faller_init cf_Faller S_Leaf___init__), mg_Faller, ⟨mk_Faller, a_Faller___init__, i_Faller_init, kc_Faller⟩, hb_Faller_5, hd_Faller_5⟩⟩
  obtain ⟨ds_Minder_4, hd_Minder_4, hb_Minder_4⟩ := F_Minder_init.binds1 (ps := ["self", "name", "keep", "most", "span"]) 5 2 (List.cons_ne_nil _ _) rfl fun _ _ _ _ _ _ _ us its hu hi => match us, hu, its, hi with | [_, _, _, _, _], _, [_, _], _ => ⟨_, rfl, rfl⟩
  have K_Minder_4 : Mak l.prog w K mg base CX0 "Minder" c_Minder 2 ["self", "name", "keep", "most", "span"] [] (spMinder K c_Minder) := ⟨⟨_, _, ds_Minder_4, (ok_Minder_init F_Minder_init cf_Minder S_Shape___init__), mg_Minder, ⟨mk_Minder, a_Minder___init__, i_Minder_init, kc_Minder⟩, hb_Minder_4, hd_Minder_4⟩⟩
  obtain ⟨ds_AllMinder_4, hd_AllMinder_4, hb_AllMinder_4⟩ := F_Minder_init.binds1 (ps := ["self", "name", "keep", "most", "span"]) 5 2 (List.cons_ne_nil _ _) rfl fun _ _ _ _ _ _ _ us its hu hi => match us, hu, its, hi with | [_, _, _, _, _], _, [_, _], _ => ⟨_, rfl, rfl⟩
  have K_AllMinder_4 : Mak l.prog w K mg base CX0 "AllMinder" c_AllMinder 2 ["self", "name", "keep", "most", "span"] [] (spMinder K c_AllMinder) := ⟨⟨_, _, ds_AllMinder_4, (ok_Minder_init F_Minder_init cf_AllMinder S_Shape___init__), mg_AllMinder, ⟨mk_AllMinder, a_AllMinder___init__, i_Minder_init, kc_AllMinder⟩, hb_AllMinder_4, hd_AllMinder_4⟩⟩
  obtain ⟨ds_RestMinder_4, hd_RestMinder_4, hb_RestMinder_4⟩ := F_Minder_init.binds1 (ps := ["self", "name", "keep", "most", "span"]) 5 2 (List.cons_ne_nil _ _) rfl fun _ _ _ _ _ _ _ us its hu hi => match us, hu, its, hi with | [_, _, _, _, _], _, [_, _], _ => ⟨_, rfl, rfl⟩
  have K_RestMinder_4 : Mak l.prog w K mg base CX0 "RestMinder" c_RestMinder 2 ["self", "name", "keep", "most", "span"] [] (spMinder K c_RestMinder) := ⟨⟨_, _, ds_RestMinder_4, (ok_Minder_init F_Minder_init cf_RestMinder S_Shape___init__), mg_RestMinder, ⟨mk_RestMinder, a_RestMinder___init__, i_Minder_init, kc_RestMinder⟩, hb_RestMinder_4, hd_RestMinder_4⟩⟩
  have C_bit : Cal l.prog w K mg base CX0 "bit" 1 ["place"] [] spBit := ⟨⟨_, _, [], (ok_bit F_bit), PySem.W.mg_of X G a_bit, k_bit, b_bit, .nil⟩⟩
  have C_below : Cal l.prog w K mg base CX0 "below" 1 ["count"] [] spBelow := ⟨⟨_, _, [], (ok_below F_below), PySem.W.mg_of X G a_below, k_below, b_below, .nil⟩⟩
  have M_Leaf_leaf : Mth l.prog w K mg base CX0 c_Leaf "leaf" 1 ["self"] [] (spTruth c_Leaf true) := ⟨⟨_, _, [], (ok_Leaf_leaf F_Leaf_leaf), ⟨a_Leaf_leaf, i_Leaf_leaf, k_Leaf_leaf⟩, b_Leaf_leaf, .nil⟩⟩
  have M_Steady_leaf : Mth l.prog w K mg base CX0 c_Steady "leaf" 1 ["self"] [] (spTruth c_Steady true) := ⟨⟨_, _, [], (ok_Leaf_leaf F_Leaf_leaf), ⟨a_Steady_leaf, i_Leaf_leaf, k_Leaf_leaf⟩, b_Leaf_leaf, .nil⟩⟩
  have M_Faller_leaf : Mth l.prog w K mg base CX0 c_Faller "leaf" 1 ["self"] [] (spTruth c_Faller true) := ⟨⟨_, _, [], (ok_Leaf_leaf F_Leaf_leaf), ⟨a_Faller_leaf, i_Leaf_leaf, k_Leaf_leaf⟩, b_Leaf_leaf, .nil⟩⟩
  have M_Minder_leaf : Mth l.prog w K mg base CX0 c_Minder "leaf" 1 ["self"] [] (spTruth c_Minder false) := ⟨⟨_, _, [], (ok_Shape_leaf F_Shape_leaf), ⟨a_Minder_leaf, i_Shape_leaf, k_Shape_leaf⟩, b_Shape_leaf, .nil⟩⟩
  have M_AllMinder_leaf : Mth l.prog w K mg base CX0 c_AllMinder "leaf" 1 ["self"] [] (spTruth c_AllMinder false) := ⟨⟨_, _, [], (ok_Shape_leaf F_Shape_leaf), ⟨a_AllMinder_leaf, i_Shape_leaf, k_Shape_leaf⟩, b_Shape_leaf, .nil⟩⟩
  have M_RestMinder_leaf : Mth l.prog w K mg base CX0 c_RestMinder "leaf" 1 ["self"] [] (spTruth c_RestMinder false) := ⟨⟨_, _, [], (ok_Shape_leaf F_Shape_leaf), ⟨a_RestMinder_leaf, i_Shape_leaf, k_Shape_leaf⟩, b_Shape_leaf, .nil⟩⟩
  have M_Leaf_begun_again : Mth l.prog w K mg base CX0 c_Leaf "begun_again" 1 ["self", "word"] [] (spAgain c_Leaf) := ⟨⟨_, _, [], (ok_again F_Shape_begun_again cf_Leaf.cl n_Leaf_keep mg_FALLS sq_FALLS), ⟨a_Leaf_begun_again, i_Shape_begun_again, k_Shape_begun_again⟩, b_Shape_begun_again, .nil⟩⟩
  have M_Steady_begun_again : Mth l.prog w K mg base CX0 c_Steady "begun_again" 1 ["self", "word"] [] (spAgain c_Steady) := ⟨⟨_, _, [], (ok_again F_Shape_begun_again cf_Steady.cl n_Steady_keep mg_FALLS sq_FALLS), ⟨a_Steady_begun_again, i_Shape_begun_again, k_Shape_begun_again⟩, b_Shape_begun_again, .nil⟩⟩
  have M_Faller_begun_again : Mth l.prog w K mg base CX0 c_Faller "begun_again" 1 ["self", "word"] [] (spAgain c_Faller) := ⟨⟨_, _, [], (ok_again F_Shape_begun_again cf_Faller.cl n_Faller_keep mg_FALLS sq_FALLS), ⟨a_Faller_begun_again, i_Shape_begun_again, k_Shape_begun_again⟩, b_Shape_begun_again, .nil⟩⟩
  have M_Minder_begun_again : Mth l.prog w K mg base CX0 c_Minder "begun_again" 1 ["self", "word"] [] (spAgain c_Minder) := ⟨⟨_, _, [], (ok_again F_Shape_begun_again cf_Minder.cl n_Minder_keep mg_FALLS sq_FALLS), ⟨a_Minder_begun_again, i_Shape_begun_again, k_Shape_begun_again⟩, b_Shape_begun_again, .nil⟩⟩
  have M_AllMinder_begun_again : Mth l.prog w K mg base CX0 c_AllMinder "begun_again" 1 ["self", "word"] [] (spAgain c_AllMinder) := ⟨⟨_, _, [], (ok_again F_Shape_begun_again cf_AllMinder.cl n_AllMinder_keep mg_FALLS sq_FALLS), ⟨a_AllMinder_begun_again, i_Shape_begun_again, k_Shape_begun_again⟩, b_Shape_begun_again, .nil⟩⟩
  have M_RestMinder_begun_again : Mth l.prog w K mg base CX0 c_RestMinder "begun_again" 1 ["self", "word"] [] (spAgain c_RestMinder) := ⟨⟨_, _, [], (ok_again F_Shape_begun_again cf_RestMinder.cl n_RestMinder_keep mg_FALLS sq_FALLS), ⟨a_RestMinder_begun_again, i_Shape_begun_again, k_Shape_begun_again⟩, b_Shape_begun_again, .nil⟩⟩
  have M_Leaf_end_at : Mth l.prog w K mg base CX0 c_Leaf "end_at" 1 ["self", "steps"] [] (spEnd c_Leaf 0) := ⟨⟨_, _, [], (ok_Leaf_end F_Leaf_end_at), ⟨a_Leaf_end_at, i_Leaf_end_at, k_Leaf_end_at⟩, b_Leaf_end_at, .nil⟩⟩
  have M_Steady_end_at : Mth l.prog w K mg base CX0 c_Steady "end_at" 1 ["self", "steps"] [] (spEnd c_Steady 1) := ⟨⟨_, _, [], (ok_Steady_end F_Steady_end_at cf_Steady), ⟨a_Steady_end_at, i_Steady_end_at, k_Steady_end_at⟩, b_Steady_end_at, .nil⟩⟩
  have M_Faller_end_at : Mth l.prog w K mg base CX0 c_Faller "end_at" 1 ["self", "steps"] [] (spEnd c_Faller 2) := ⟨⟨_, _, [], (ok_Faller_end F_Faller_end_at cf_Faller), ⟨a_Faller_end_at, i_Faller_end_at, k_Faller_end_at⟩, b_Faller_end_at, .nil⟩⟩
  have M_Minder_chosen : Mth l.prog w K mg base CX0 c_Minder "chosen" 2 ["self", "place", "count", "on", "good"] [] (spChosen c_Minder chOne) := ⟨⟨_, _, [], (ok_Minder_chosen F_Minder_chosen C_bit), ⟨a_Minder_chosen, i_Minder_chosen, k_Minder_chosen⟩, b_Minder_chosen, .nil⟩⟩
  have M_AllMinder_chosen : Mth l.prog w K mg base CX0 c_AllMinder "chosen" 2 ["self", "place", "count", "on", "good"] [] (spChosen c_AllMinder chAll) := ⟨⟨_, _, [], (ok_AllMinder_chosen F_AllMinder_chosen C_below), ⟨a_AllMinder_chosen, i_AllMinder_chosen, k_AllMinder_chosen⟩, b_AllMinder_chosen, .nil⟩⟩
  have M_RestMinder_chosen : Mth l.prog w K mg base CX0 c_RestMinder "chosen" 2 ["self", "place", "count", "on", "good"] [] (spChosen c_RestMinder chRest) := ⟨⟨_, _, [], (ok_RestMinder_chosen F_RestMinder_chosen C_below C_bit), ⟨a_RestMinder_chosen, i_RestMinder_chosen, k_RestMinder_chosen⟩, b_RestMinder_chosen, .nil⟩⟩
  have KC : KdC K (clsH c_Leaf c_Steady c_Faller c_Minder c_AllMinder c_RestMinder) := kdC_of cf_Leaf cf_Steady cf_Faller cf_Minder cf_AllMinder cf_RestMinder
  have KL : KdL l.prog w K mg base (clsH c_Leaf c_Steady c_Faller c_Minder c_AllMinder c_RestMinder) := kdL_of M_Leaf_leaf M_Steady_leaf M_Faller_leaf M_Minder_leaf M_AllMinder_leaf M_RestMinder_leaf
  have KD : KdH l.prog w K mg base (clsH c_Leaf c_Steady c_Faller c_Minder c_AllMinder c_RestMinder) := kdH_of KL M_Leaf_begun_again M_Steady_begun_again M_Faller_begun_again M_Minder_begun_again M_AllMinder_begun_again M_RestMinder_begun_again M_Leaf_end_at M_Steady_end_at M_Faller_end_at M_Minder_chosen M_AllMinder_chosen M_RestMinder_chosen
  have KHH : KH K (⟨c_Tree, c_House, c_Book, c_Post, clsH c_Leaf c_Steady c_Faller c_Minder c_AllMinder c_RestMinder⟩ : Cs) := ⟨cf_Tree, cf_House, cf_Book, cf_Post, KC⟩
  obtain ⟨dc_number_in_1, hc_number_in_1, bc_number_in_1⟩ := F_number_in.binds1 (ps := ["text", "most"]) 1 0 (List.cons_ne_nil _ _) rfl fun _ _ _ _ _ _ _ us its hu hi => match us, hu, its, hi with | [_], _, [_], _ => ⟨_, rfl, rfl⟩
  have C_number_in_1 : Cal l.prog w K mg base (CXN l.prog w) "number_in" 1 ["text", "most"] [.int 1000000] (spNum c_NoNumber) := ⟨⟨_, _, dc_number_in_1, (ok_number F_number_in T e_NoNumber), PySem.W.mg_of X G a_number_in, k_number_in, bc_number_in_1, hc_number_in_1⟩⟩
  have C_fit_name : Cal l.prog w K mg base CX0 "fit_name" 1 ["text"] [] spFit := ⟨⟨_, _, [], (ok_fit F_fit_name T mg_SIGNS), PySem.W.mg_of X G a_fit_name, k_fit_name, b_fit_name, .nil⟩⟩
  have C_leaf_by : Cal l.prog w K mg base (CXN l.prog w) "leaf_by" 5 ["words"] [] (spBy K (clsH c_Leaf c_Steady c_Faller c_Minder c_AllMinder c_RestMinder) c_NoNumber leafR) := ⟨⟨_, _, [], (ok_leaf_by F_leaf_by T KC C_number_in_1 K_Leaf_4 K_Steady_5 K_Faller_5), PySem.W.mg_of X G a_leaf_by, k_leaf_by, b_leaf_by, .nil⟩⟩
  have C_minder_by : Cal l.prog w K mg base (CXN l.prog w) "minder_by" 5 ["words"] [] (spBy K (clsH c_Leaf c_Steady c_Faller c_Minder c_AllMinder c_RestMinder) c_NoNumber minderR) := ⟨⟨_, _, [], (ok_minder_by F_minder_by T KC C_number_in_1 K_Minder_4 K_AllMinder_4 K_RestMinder_4), PySem.W.mg_of X G a_minder_by, k_minder_by, b_minder_by, .nil⟩⟩
  have C_shape_by : Cal l.prog w K mg base CX0 "shape_by" 6 ["words"] [] (spShapeBy K (clsH c_Leaf c_Steady c_Faller c_Minder c_AllMinder c_RestMinder)) := ⟨⟨_, _, [], (ok_shape_by F_shape_by T nm_MinderError ex_MinderError_NoNumber mg_KEEPS sq_KEEPS C_fit_name C_leaf_by C_minder_by), PySem.W.mg_of X G a_shape_by, k_shape_by, b_shape_by, .nil⟩⟩
  have M_Tree_depth : Mth l.prog w K mg base CX0 c_Tree "depth" 1 ["self", "at"] [] (spDepth c_Tree (clsH c_Leaf c_Steady c_Faller c_Minder c_AllMinder c_RestMinder)) := ⟨⟨_, _, [], (ok_depth F_Tree_depth cf_Tree), ⟨a_Tree_depth, i_Tree_depth, k_Tree_depth⟩, b_Tree_depth, .nil⟩⟩
  have C_elder_at : Cal l.prog w K mg base CX0 "elder_at" 2 ["tree", "deep"] [] (spElder c_Tree (clsH c_Leaf c_Steady c_Faller c_Minder c_AllMinder c_RestMinder)) := ⟨⟨_, _, [], (ok_elder F_elder_at T cf_Tree KC KL M_Tree_depth), PySem.W.mg_of X G a_elder_at, k_elder_at, b_elder_at, .nil⟩⟩
  have K_Tree_0 : Mak l.prog w K mg base CX0 "Tree" c_Tree 1 ["self"] [] (spTInit c_Tree (clsH c_Leaf c_Steady c_Faller c_Minder c_AllMinder c_RestMinder)) := ⟨⟨_, _, [], (ok_Tree_init F_Tree_init cf_Tree), mg_Tree, ⟨mk_Tree, a_Tree___init__, i_Tree_init, kc_Tree⟩, b_Tree_init, .nil⟩⟩
  have M_Tree_add : Mth l.prog w K mg base CX0 c_Tree "add" 1 ["self", "shape", "elder"] [] (spAdd c_Tree (clsH c_Leaf c_Steady c_Faller c_Minder c_AllMinder c_RestMinder)) := ⟨⟨_, _, [], (ok_add F_Tree_add T cf_Tree KC), ⟨a_Tree_add, i_Tree_add, k_Tree_add⟩, b_Tree_add, .nil⟩⟩
  have C_read : Cal l.prog w K mg base CX0 "read" 7 ["text"] [] (spRead c_Tree (clsH c_Leaf c_Steady c_Faller c_Minder c_AllMinder c_RestMinder)) := ⟨⟨_, _, [], (ok_read F_read T cf_Tree KC KL mg_BOUND mg_DEEPEST K_Tree_0 M_Tree_add C_shape_by C_elder_at), PySem.W.mg_of X G a_read, k_read, b_read, .nil⟩⟩
  have C_places : Cal l.prog w K mg base CX0 "places" 1 ["bits"] [] spPlaces := ⟨⟨_, _, [], (ok_places F_places), PySem.W.mg_of X G a_places, k_places, b_places, .nil⟩⟩
  have C_last : Cal l.prog w K mg base CX0 "last" 1 ["bits"] [] spLast := ⟨⟨_, _, [], (ok_last F_last), PySem.W.mg_of X G a_last, k_last, b_last, .nil⟩⟩
  have C_without : Cal l.prog w K mg base CX0 "without" 1 ["bits", "place"] [] spWithout := ⟨⟨_, _, [], (ok_without F_without), PySem.W.mg_of X G a_without, k_without, b_without, .nil⟩⟩
  have C_recent : Cal l.prog w K mg base CX0 "recent" 1 ["falls", "clock", "span"] [] (spRec K) := ⟨⟨_, _, [], (ok_recent F_recent), PySem.W.mg_of X G a_recent, k_recent, b_recent, .nil⟩⟩
  have C_too_many : Cal l.prog w K mg base CX0 "too_many" 2 ["falls", "clock", "span", "most"] [] (spToo K) := ⟨⟨_, _, [], (ok_too F_too_many T C_recent), PySem.W.mg_of X G a_too_many, k_too_many, b_too_many, .nil⟩⟩
  have K_Post_0 : Mak l.prog w K mg base CX0 "Post" c_Post 1 ["self"] [] (spPost (⟨c_Tree, c_House, c_Book, c_Post, clsH c_Leaf c_Steady c_Faller c_Minder c_AllMinder c_RestMinder⟩ : Cs)) := ⟨⟨_, _, [], (ok_Post_init F_Post_init KHH), mg_Post, ⟨mk_Post, a_Post___init__, i_Post_init, kc_Post⟩, b_Post_init, .nil⟩⟩
  have K_Book_0 : Mak l.prog w K mg base CX0 "Book" c_Book 1 ["self"] [] (spBInit (⟨c_Tree, c_House, c_Book, c_Post, clsH c_Leaf c_Steady c_Faller c_Minder c_AllMinder c_RestMinder⟩ : Cs)) := ⟨⟨_, _, [], (ok_Book_init F_Book_init KHH), mg_Book, ⟨mk_Book, a_Book___init__, i_Book_init, kc_Book⟩, b_Book_init, .nil⟩⟩
  have M_Book_note : Mth l.prog w K mg base CX0 c_Book "note" 1 ["self", "turn", "word", "name"] [] (spBNote (⟨c_Tree, c_House, c_Book, c_Post, clsH c_Leaf c_Steady c_Faller c_Minder c_AllMinder c_RestMinder⟩ : Cs)) := ⟨⟨_, _, [], (ok_Book_note F_Book_note KHH), ⟨a_Book_note, i_Book_note, k_Book_note⟩, b_Book_note, .nil⟩⟩
  have M_Book_rows : Mth l.prog w K mg base CX0 c_Book "rows" 1 ["self"] [] (spRows (⟨c_Tree, c_House, c_Book, c_Post, clsH c_Leaf c_Steady c_Faller c_Minder c_AllMinder c_RestMinder⟩ : Cs)) := ⟨⟨_, _, [], (ok_Book_rows F_Book_rows T KHH), ⟨a_Book_rows, i_Book_rows, k_Book_rows⟩, b_Book_rows, .nil⟩⟩
  have M_Tree_place : Mth l.prog w K mg base CX0 c_Tree "place" 1 ["self", "at"] [] (spPlace (⟨c_Tree, c_House, c_Book, c_Post, clsH c_Leaf c_Steady c_Faller c_Minder c_AllMinder c_RestMinder⟩ : Cs)) := ⟨⟨_, _, [], (ok_place F_Tree_place KHH), ⟨a_Tree_place, i_Tree_place, k_Tree_place⟩, b_Tree_place, .nil⟩⟩
  have M_House_note : Mth l.prog w K mg base CX0 c_House "note" 2 ["self", "word", "at"] [] (spNote (⟨c_Tree, c_House, c_Book, c_Post, clsH c_Leaf c_Steady c_Faller c_Minder c_AllMinder c_RestMinder⟩ : Cs)) := ⟨⟨_, _, [], (ok_note F_House_note KHH M_Book_note), ⟨a_House_note, i_House_note, k_House_note⟩, b_House_note, .nil⟩⟩
  have M_House_on_of : Mth l.prog w K mg base CX0 c_House "on_of" 2 ["self", "at"] [] (spOnOf (⟨c_Tree, c_House, c_Book, c_Post, clsH c_Leaf c_Steady c_Faller c_Minder c_AllMinder c_RestMinder⟩ : Cs)) := ⟨⟨_, _, [], (ok_on_of F_House_on_of T KHH C_bit), ⟨a_House_on_of, i_House_on_of, k_House_on_of⟩, b_House_on_of, .nil⟩⟩
  have M_House_over : Mth l.prog w K mg base CX0 c_House "over" 3 ["self", "at", "word"] [] (spOver (⟨c_Tree, c_House, c_Book, c_Post, clsH c_Leaf c_Steady c_Faller c_Minder c_AllMinder c_RestMinder⟩ : Cs)) := ⟨⟨_, _, [], (ok_over F_House_over KHH KD M_House_note M_Tree_place C_bit), ⟨a_House_over, i_House_over, k_House_over⟩, b_House_over, .nil⟩⟩
  have M_House_ease : Mth l.prog w K mg base CX0 c_House "ease" 4 ["self", "at"] [] (spEase (⟨c_Tree, c_House, c_Book, c_Post, clsH c_Leaf c_Steady c_Faller c_Minder c_AllMinder c_RestMinder⟩ : Cs)) := ⟨⟨_, _, [], (ok_ease F_House_ease KHH M_House_over), ⟨a_House_ease, i_House_ease, k_House_ease⟩, b_House_ease, .nil⟩⟩
  have M_House_begin : Mth l.prog w K mg base CX0 c_House "begin" 12 ["self", "at"] [] (spBegin (⟨c_Tree, c_House, c_Book, c_Post, clsH c_Leaf c_Steady c_Faller c_Minder c_AllMinder c_RestMinder⟩ : Cs) 9) := ⟨⟨_, _, [], (ok_begin F_House_begin KHH K_Post_0 M_House_note ⟨a_House_begin, i_House_begin, k_House_begin⟩ b_House_begin 9), ⟨a_House_begin, i_House_begin, k_House_begin⟩, b_House_begin, .nil⟩⟩
  have OP : Ops l.prog w K mg base (⟨c_Tree, c_House, c_Book, c_Post, clsH c_Leaf c_Steady c_Faller c_Minder c_AllMinder c_RestMinder⟩ : Cs) FUEL := ops_all F_House_tell F_House_go_down F_House_go_on F_House_come_up F_House_decide ⟨⟨a_House_tell, i_House_tell, k_House_tell⟩, b_House_tell⟩ ⟨⟨a_House_go_down, i_House_go_down, k_House_go_down⟩, b_House_go_down⟩ ⟨⟨a_House_go_on, i_House_go_on, k_House_go_on⟩, b_House_go_on⟩ ⟨⟨a_House_come_up, i_House_come_up, k_House_come_up⟩, b_House_come_up⟩ ⟨⟨a_House_decide, i_House_decide, k_House_decide⟩, b_House_decide⟩ T KHH KD M_Tree_place C_bit C_last C_without C_places C_too_many C_recent M_House_note M_House_on_of M_House_over M_House_ease M_House_begin FUEL
  have M_House_hear : Mth l.prog w K mg base CX0 c_House "hear" 54 ["self", "at", "planned"] [] (spHear (⟨c_Tree, c_House, c_Book, c_Post, clsH c_Leaf c_Steady c_Faller c_Minder c_AllMinder c_RestMinder⟩ : Cs)) := ⟨⟨_, _, [], (ok_hear F_House_hear KHH OP), ⟨a_House_hear, i_House_hear, k_House_hear⟩, b_House_hear, .nil⟩⟩
  have M_House_settle : Mth l.prog w K mg base CX0 c_House "settle" 55 ["self"] [] (spSettle (⟨c_Tree, c_House, c_Book, c_Post, clsH c_Leaf c_Steady c_Faller c_Minder c_AllMinder c_RestMinder⟩ : Cs)) := ⟨⟨_, _, [], (ok_settle F_House_settle KHH M_House_hear), ⟨a_House_settle, i_House_settle, k_House_settle⟩, b_House_settle, .nil⟩⟩
  have M_House_step : Mth l.prog w K mg base CX0 c_House "step" 5 ["self", "at"] [] (spStep (⟨c_Tree, c_House, c_Book, c_Post, clsH c_Leaf c_Steady c_Faller c_Minder c_AllMinder c_RestMinder⟩ : Cs)) := ⟨⟨_, _, [], (ok_step F_House_step KHH KD M_House_ease M_House_over), ⟨a_House_step, i_House_step, k_House_step⟩, b_House_step, .nil⟩⟩
  have M_House_turn : Mth l.prog w K mg base CX0 c_House "turn" 56 ["self"] [] (spTurn (⟨c_Tree, c_House, c_Book, c_Post, clsH c_Leaf c_Steady c_Faller c_Minder c_AllMinder c_RestMinder⟩ : Cs)) := ⟨⟨_, _, [], (ok_turn F_House_turn T KHH KD M_House_step M_House_settle), ⟨a_House_turn, i_House_turn, k_House_turn⟩, b_House_turn, .nil⟩⟩
  have M_Tree_find : Mth l.prog w K mg base CX0 c_Tree "find" 1 ["self", "name"] [] (spFind (⟨c_Tree, c_House, c_Book, c_Post, clsH c_Leaf c_Steady c_Faller c_Minder c_AllMinder c_RestMinder⟩ : Cs)) := ⟨⟨_, _, [], (ok_find F_Tree_find KHH), ⟨a_Tree_find, i_Tree_find, k_Tree_find⟩, b_Tree_find, .nil⟩⟩
  have M_House_doing : Mth l.prog w K mg base CX0 c_House "doing" 2 ["self", "name"] [] (spDoing (⟨c_Tree, c_House, c_Book, c_Post, clsH c_Leaf c_Steady c_Faller c_Minder c_AllMinder c_RestMinder⟩ : Cs)) := ⟨⟨_, _, [], (ok_doing F_House_doing KHH M_Tree_find), ⟨a_House_doing, i_House_doing, k_House_doing⟩, b_House_doing, .nil⟩⟩
  have MSE : Mth l.prog w K mg base (CXN l.prog w) c_House "stop" 56 ["self"] [] (spStop (⟨c_Tree, c_House, c_Book, c_Post, clsH c_Leaf c_Steady c_Faller c_Minder c_AllMinder c_RestMinder⟩ : Cs) c_NotOn) := ⟨⟨_, _, [], (ok_stop F_House_stop KHH e_NotOn OP.tell M_House_settle), ⟨a_House_stop, i_House_stop, k_House_stop⟩, b_House_stop, .nil⟩⟩
  have MSC : Mth l.prog w K mg base CX0 c_House "stop" 56 ["self"] [] (fun vs H Q _ => spStop (⟨c_Tree, c_House, c_Book, c_Post, clsH c_Leaf c_Steady c_Faller c_Minder c_AllMinder c_RestMinder⟩ : Cs) c_NotOn vs H Q E0) := ⟨⟨_, _, [], (calm (ok_stop F_House_stop KHH e_NotOn OP.tell M_House_settle)), ⟨a_House_stop, i_House_stop, k_House_stop⟩, b_House_stop, .nil⟩⟩
  have M_House_on : Mth l.prog w K mg base CX0 c_House "on" 1 ["self"] [] (spHOn (⟨c_Tree, c_House, c_Book, c_Post, clsH c_Leaf c_Steady c_Faller c_Minder c_AllMinder c_RestMinder⟩ : Cs)) := ⟨⟨_, _, [], (ok_hon F_House_on T KHH), ⟨a_House_on, i_House_on, k_House_on⟩, b_House_on, .nil⟩⟩
  have M_House_rows : Mth l.prog w K mg base CX0 c_House "rows" 2 ["self"] [] (spHRows (⟨c_Tree, c_House, c_Book, c_Post, clsH c_Leaf c_Steady c_Faller c_Minder c_AllMinder c_RestMinder⟩ : Cs)) := ⟨⟨_, _, [], (ok_hrows F_House_rows KHH M_Book_rows), ⟨a_House_rows, i_House_rows, k_House_rows⟩, b_House_rows, .nil⟩⟩
  have K_House_1 : Mak l.prog w K mg base CX0 "House" c_House 13 ["self", "tree"] [] (spHInit (⟨c_Tree, c_House, c_Book, c_Post, clsH c_Leaf c_Steady c_Faller c_Minder c_AllMinder c_RestMinder⟩ : Cs)) := ⟨⟨_, _, [], (ok_House_init F_House_init KHH K_Post_0 K_Book_0 M_House_begin), mg_House, ⟨mk_House, a_House___init__, i_House_init, kc_House⟩, b_House_init, .nil⟩⟩
  have C_built : Cal l.prog w K mg base CX0 "built" 15 ["tree"] [] (spBuilt (⟨c_Tree, c_House, c_Book, c_Post, clsH c_Leaf c_Steady c_Faller c_Minder c_AllMinder c_RestMinder⟩ : Cs)) := ⟨⟨_, _, [], (ok_built F_built K_House_1), PySem.W.mg_of X G a_built, k_built, b_built, .nil⟩⟩
  have C_law_cell_at : Cal l.prog w K mg base CX0 "_law_cell_at" 1 ["_law_script", "_law_k"] [] (spCell K) := ⟨⟨_, _, [], (ok_cell F_law_cell_at T), PySem.W.mg_of X G a_law_cell_at, k_law_cell_at, b_law_cell_at, .nil⟩⟩
  have C_law_number : Cal l.prog w K mg base CX0 "_law_number" 1 ["_law_cell"] [] spNum8 := ⟨⟨_, _, [], (ok_num8 F_law_number T), PySem.W.mg_of X G a_law_number, k_law_number, b_law_number, .nil⟩⟩
  have C_law_due : Cal l.prog w K mg base CX0 "_law_due" 1 ["_law_clock", "_law_stop", "_law_slow", "_law_grace"] [] spDue8 := ⟨⟨_, _, [], (ok_due8 F_law_due T), PySem.W.mg_of X G a_law_due, k_law_due, b_law_due, .nil⟩⟩
  have C_law_stands : Cal l.prog w K mg base CX0 "_law_stands" 3 ["_law_house", "_law_due_here"] [] (spStands8 (⟨c_Tree, c_House, c_Book, c_Post, clsH c_Leaf c_Steady c_Faller c_Minder c_AllMinder c_RestMinder⟩ : Cs)) := ⟨⟨_, _, [], (ok_stands8 F_law_stands T KHH M_House_rows M_House_doing M_House_on), PySem.W.mg_of X G a_law_stands, k_law_stands, b_law_stands, .nil⟩⟩
  exact (ok_law F_law T KHH nm_NotOn ex_NotOn_NotOn C_law_cell_at C_law_number C_law_due C_law_stands C_read C_built M_House_turn MSE MSC)
theorem walk {l : PySem.W.OpenLaw} {q : Program} {loose : List Str} {XP : (Str → Option Value) → Heap → Prop} {YP : World → Heap → Prop} {d : DefRec} {K : Params → PySem.W.Frag} (hn : l.most = some 63) (hdf : d.params.defaults = [])
    (hY : ∀ (w : World) (h : Heap), YP w h → (K w.params).In h)
    (F : ∀ (w : World) (mg : Str → Option Value) (fa : Addr) (h : Heap), (K w.params).In h → h.Ns mainGlobals mg → mg d.name = some (.ref fa) →
      ∃ fd : FuncData, (∀ (s : Shared) (u : Value), BindsTo s fd ⟨[u], []⟩ [("_law_script", u)]) ∧ ∀ base : Heap, (K w.params).In base → base.Ns mainGlobals mg → FnOk l.prog w (K w.params) mg base CX0 58 fa fd ["_law_script"] (spLaw (K w.params))) :
    PySem.W.WalkO q loose XP YP l.row.toRowW d [] (fun f vs => PySem.call f vs) :=
  L2.walk_of (n := 63) (k := 58) (x := "_law_script") (CX := fun _ => CX0) (sp := fun w => spLaw (K w.params)) hn (by decide) hdf ⟨rfl, by decide, by decide⟩ hY F (fun _ _ a ns hl _ hS => ⟨a, ns, rfl, hS, hl, fun _ => rfl⟩) fun _ _ _ _ _ z => z
end Mn
open PySem PySem.W PyProof.Rows
set_option maxRecDepth 100000 in
set_option maxHeartbeats 0 in
theorem PySem.Challenge.cw_minders_k08_so_much_grace_holds : PySem.Challenge.rw_minders_k08_so_much_grace.Holds := by
  w_on; o_law; k_head; (case hw => w_witness2)
  k_fill
  refine Mn.walk (l := PySem.Challenge.rw_minders_k08_so_much_grace) rfl rfl (fun w h Y => PySem.W.kIn_of Y) ?F
  case F =>
    intro w mg fa h KX G hmg
    refine' Mn.all_mk KX G hmg ?z_len ?z_int ?z_list ?z_str ?z_divmod ?z_range ?z_isinstance ?z_tuple ?z_ValueError ?z_KeyError ?z_min ?a_NotOn ?xf_NotOn ?kc_NotOn ?eb_NotOn ?et_NotOn ?cb_NotOn ?cd_NotOn ?ct_NotOn ?cs_NotOn_NotOn ?a_Shape ?pg_Shape ?hd_Shape ?po_Shape ?sa_Shape ?a_Leaf ?pg_Leaf ?hd_Leaf ?po_Leaf ?sa_Leaf ?n_Leaf_name ?n_Leaf_keep ?n_Leaf_grace ?n_Leaf_slow ?mk_Leaf ?kc_Leaf ?a_Steady ?pg_Steady ?hd_Steady ?po_Steady ?sa_Steady ?n_Steady_name ?n_Steady_keep ?n_Steady_grace ?n_Steady_slow ?n_Steady_many ?mk_Steady ?kc_Steady ?a_Faller ?pg_Faller ?hd_Faller ?po_Faller ?sa_Faller ?n_Faller_name ?n_Faller_keep ?n_Faller_grace ?n_Faller_slow ?n_Faller_many ?mk_Faller ?kc_Faller ?a_Minder ?pg_Minder ?hd_Minder ?po_Minder ?sa_Minder ?n_Minder_name ?n_Minder_keep ?n_Minder_most ?n_Minder_span ?mk_Minder ?kc_Minder ?a_AllMinder ?pg_AllMinder ?hd_AllMinder ?po_AllMinder ?sa_AllMinder ?n_AllMinder_name ?n_AllMinder_keep ?n_AllMinder_most ?n_AllMinder_span ?mk_AllMinder ?kc_AllMinder ?a_RestMinder ?pg_RestMinder ?hd_RestMinder ?po_RestMinder ?sa_RestMinder ?n_RestMinder_name ?n_RestMinder_keep ?n_RestMinder_most ?n_RestMinder_span ?mk_RestMinder ?kc_RestMinder ?a_Tree ?pg_Tree ?hd_Tree ?po_Tree ?sa_Tree ?n_Tree_shapes ?n_Tree_elders ?n_Tree_young ?n_Tree_known ?mk_Tree ?kc_Tree ?a_Book ?pg_Book ?hd_Book ?po_Book ?sa_Book ?n_Book_entries ?mk_Book ?kc_Book ?a_Post ?pg_Post ?hd_Post ?po_Post ?sa_Post ?n_Post_phase ?n_Post_planned ?n_Post_born ?n_Post_steps ?n_Post_slow ?n_Post_grace ?n_Post_good ?n_Post_put ?n_Post_anew ?n_Post_falls ?n_Post_waiting ?n_Post_gave ?mk_Post ?kc_Post ?a_House ?pg_House ?hd_House ?po_House ?sa_House ?n_House_tree ?n_House_clock ?n_House_book ?n_House_posts ?n_House_heard ?mk_House ?kc_House ?a_SIGNS ?a_BOUND ?a_DEEPEST ?a_KEEPS ?l_KEEPS ?a_FALLS ?l_FALLS ?a_fit_name ?l_fit_name ?co_fit_name ?k_fit_name ?a_number_in ?l_number_in ?co_number_in ?k_number_in ?lT_number_in ?a_Shape___init__ ?i_Shape_init ?l_Shape_init ?co_Shape_init ?k_Shape_init ?a_Shape_leaf ?i_Shape_leaf ?l_Shape_leaf ?co_Shape_leaf ?k_Shape_leaf ?a_Shape_begun_again ?i_Shape_begun_again ?l_Shape_begun_again ?co_Shape_begun_again ?k_Shape_begun_again ?a_Leaf___init__ ?i_Leaf_init ?l_Leaf_init ?co_Leaf_init ?k_Leaf_init ?lT_Leaf_init ?a_Leaf_leaf ?i_Leaf_leaf ?l_Leaf_leaf ?co_Leaf_leaf ?k_Leaf_leaf ?a_Leaf_end_at ?i_Leaf_end_at ?l_Leaf_end_at ?co_Leaf_end_at ?k_Leaf_end_at ?a_Steady___init__ ?i_Steady_init ?l_Steady_init ?co_Steady_init ?k_Steady_init ?lT_Steady_init ?a_Steady_end_at ?i_Steady_end_at ?l_Steady_end_at ?co_Steady_end_at ?k_Steady_end_at ?a_Faller___init__ ?i_Faller_init ?l_Faller_init ?co_Faller_init ?k_Faller_init ?lT_Faller_init ?a_Faller_end_at ?i_Faller_end_at ?l_Faller_end_at ?co_Faller_end_at ?k_Faller_end_at ?a_Minder___init__ ?i_Minder_init ?l_Minder_init ?co_Minder_init ?k_Minder_init ?lT_Minder_init ?a_Minder_chosen ?i_Minder_chosen ?l_Minder_chosen ?co_Minder_chosen ?k_Minder_chosen ?a_AllMinder_chosen ?i_AllMinder_chosen ?l_AllMinder_chosen ?co_AllMinder_chosen ?k_AllMinder_chosen ?a_RestMinder_chosen ?i_RestMinder_chosen ?l_RestMinder_chosen ?co_RestMinder_chosen ?k_RestMinder_chosen ?a_Tree___init__ ?i_Tree_init ?l_Tree_init ?co_Tree_init ?k_Tree_init ?a_Tree_add ?i_Tree_add ?l_Tree_add ?co_Tree_add ?k_Tree_add ?a_Tree_find ?i_Tree_find ?l_Tree_find ?co_Tree_find ?k_Tree_find ?a_Tree_place ?i_Tree_place ?l_Tree_place ?co_Tree_place ?k_Tree_place ?a_Tree_depth ?i_Tree_depth ?l_Tree_depth ?co_Tree_depth ?k_Tree_depth ?a_leaf_by ?l_leaf_by ?co_leaf_by ?k_leaf_by ?a_minder_by ?l_minder_by ?co_minder_by ?k_minder_by ?a_shape_by ?l_shape_by ?co_shape_by ?k_shape_by ?a_elder_at ?l_elder_at ?co_elder_at ?k_elder_at ?a_read ?l_read ?co_read ?k_read ?a_bit ?l_bit ?co_bit ?k_bit ?a_below ?l_below ?co_below ?k_below ?a_places ?l_places ?co_places ?k_places ?a_last ?l_last ?co_last ?k_last ?a_without ?l_without ?co_without ?k_without ?a_recent ?l_recent ?co_recent ?k_recent ?a_too_many ?l_too_many ?co_too_many ?k_too_many ?a_Book___init__ ?i_Book_init ?l_Book_init ?co_Book_init ?k_Book_init ?a_Book_note ?i_Book_note ?l_Book_note ?co_Book_note ?k_Book_note ?a_Book_rows ?i_Book_rows ?l_Book_rows ?co_Book_rows ?k_Book_rows ?a_Post___init__ ?i_Post_init ?l_Post_init ?co_Post_init ?k_Post_init ?a_House___init__ ?i_House_init ?l_House_init ?co_House_init ?k_House_init ?a_House_note ?i_House_note ?l_House_note ?co_House_note ?k_House_note ?a_House_begin ?i_House_begin ?l_House_begin ?co_House_begin ?k_House_begin ?a_House_on_of ?i_House_on_of ?l_House_on_of ?co_House_on_of ?k_House_on_of ?a_House_over ?i_House_over ?l_House_over ?co_House_over ?k_House_over ?a_House_settle ?i_House_settle ?l_House_settle ?co_House_settle ?k_House_settle ?a_House_hear ?i_House_hear ?l_House_hear ?co_House_hear ?k_House_hear ?a_House_decide ?i_House_decide ?l_House_decide ?co_House_decide ?k_House_decide ?a_House_go_down ?i_House_go_down ?l_House_go_down ?co_House_go_down ?k_House_go_down ?a_House_tell ?i_House_tell ?l_House_tell ?co_House_tell ?k_House_tell ?a_House_ease ?i_House_ease ?l_House_ease ?co_House_ease ?k_House_ease ?a_House_go_on ?i_House_go_on ?l_House_go_on ?co_House_go_on ?k_House_go_on ?a_House_come_up ?i_House_come_up ?l_House_come_up ?co_House_come_up ?k_House_come_up ?a_House_step ?i_House_step ?l_House_step ?co_House_step ?k_House_step ?a_House_turn ?i_House_turn ?l_House_turn ?co_House_turn ?k_House_turn ?a_House_stop ?i_House_stop ?l_House_stop ?co_House_stop ?k_House_stop ?a_House_doing ?i_House_doing ?l_House_doing ?co_House_doing ?k_House_doing ?a_House_on ?i_House_on ?l_House_on ?co_House_on ?k_House_on ?a_House_rows ?i_House_rows ?l_House_rows ?co_House_rows ?k_House_rows ?a_built ?l_built ?co_built ?k_built ?rd_Shape ?ga_Shape ?fc_Shape___init__ ?rd_Leaf ?ga_Leaf ?fc_Leaf___init__ ?a_AllMinder___init__ ?a_RestMinder___init__ ?a_Leaf_begun_again ?a_Steady_begun_again ?a_Faller_begun_again ?a_Minder_begun_again ?a_AllMinder_begun_again ?a_RestMinder_begun_again ?a_Steady_leaf ?a_Faller_leaf ?a_Minder_leaf ?a_AllMinder_leaf ?a_RestMinder_leaf ?a_NoNumber ?xf_NoNumber ?kc_NoNumber ?eb_NoNumber ?et_NoNumber ?a_MinderError ?cb_MinderError ?cd_MinderError ?ct_MinderError ?cs_MinderError_NoNumber ?a_law_cell_at ?l_law_cell_at ?co_law_cell_at ?k_law_cell_at ?a_law_number ?l_law_number ?co_law_number ?k_law_number ?a_law_due ?l_law_due ?co_law_due ?k_law_due ?a_law_stands ?l_law_stands ?co_law_stands ?k_law_stands ?a_law ?l_law ?co_law ?k_law
    (case z_len => k_is)
    (case z_int => k_is)
    (case z_list => k_is)
    (case z_str => k_is)
    (case z_divmod => k_is)
    (case z_range => k_is)
    (case z_isinstance => k_is)
    (case z_tuple => k_is)
    (case z_ValueError => k_is)
    (case z_KeyError => k_is)
    (case z_min => k_is)
    (case a_NotOn => k_is)
    (case xf_NotOn => k_exc)
    (case kc_NotOn => k_is)
    (case eb_NotOn => k_is)
    (case et_NotOn => k_is)
    (case cb_NotOn => k_is)
    (case cd_NotOn => k_is)
    (case ct_NotOn => k_is)
    (case cs_NotOn_NotOn => k_is)
    (case a_Shape => k_is)
    (case pg_Shape => k_is)
    (case hd_Shape => k_is)
    (case po_Shape => k_is)
    (case sa_Shape => k_is)
    (case a_Leaf => k_is)
    (case pg_Leaf => k_is)
    (case hd_Leaf => k_is)
    (case po_Leaf => k_is)
    (case sa_Leaf => k_is)
    (case n_Leaf_name => k_is)
    (case n_Leaf_keep => k_is)
    (case n_Leaf_grace => k_is)
    (case n_Leaf_slow => k_is)
    (case mk_Leaf => k_is)
    (case kc_Leaf => k_is)
    (case a_Steady => k_is)
    (case pg_Steady => k_is)
    (case hd_Steady => k_is)
    (case po_Steady => k_is)
    (case sa_Steady => k_is)
    (case n_Steady_name => k_is)
    (case n_Steady_keep => k_is)
    (case n_Steady_grace => k_is)
    (case n_Steady_slow => k_is)
    (case n_Steady_many => k_is)
    (case mk_Steady => k_is)
    (case kc_Steady => k_is)
    (case a_Faller => k_is)
    (case pg_Faller => k_is)
    (case hd_Faller => k_is)
    (case po_Faller => k_is)
    (case sa_Faller => k_is)
    (case n_Faller_name => k_is)
    (case n_Faller_keep => k_is)
    (case n_Faller_grace => k_is)
    (case n_Faller_slow => k_is)
    (case n_Faller_many => k_is)
    (case mk_Faller => k_is)
    (case kc_Faller => k_is)
    (case a_Minder => k_is)
    (case pg_Minder => k_is)
    (case hd_Minder => k_is)
    (case po_Minder => k_is)
    (case sa_Minder => k_is)
    (case n_Minder_name => k_is)
    (case n_Minder_keep => k_is)
    (case n_Minder_most => k_is)
    (case n_Minder_span => k_is)
    (case mk_Minder => k_is)
    (case kc_Minder => k_is)
    (case a_AllMinder => k_is)
    (case pg_AllMinder => k_is)
    (case hd_AllMinder => k_is)
    (case po_AllMinder => k_is)
    (case sa_AllMinder => k_is)
    (case n_AllMinder_name => k_is)
    (case n_AllMinder_keep => k_is)
    (case n_AllMinder_most => k_is)
    (case n_AllMinder_span => k_is)
    (case mk_AllMinder => k_is)
    (case kc_AllMinder => k_is)
    (case a_RestMinder => k_is)
    (case pg_RestMinder => k_is)
    (case hd_RestMinder => k_is)
    (case po_RestMinder => k_is)
    (case sa_RestMinder => k_is)
    (case n_RestMinder_name => k_is)
    (case n_RestMinder_keep => k_is)
    (case n_RestMinder_most => k_is)
    (case n_RestMinder_span => k_is)
    (case mk_RestMinder => k_is)
    (case kc_RestMinder => k_is)
    (case a_Tree => k_is)
    (case pg_Tree => k_is)
    (case hd_Tree => k_is)
    (case po_Tree => k_is)
    (case sa_Tree => k_is)
    (case n_Tree_shapes => k_is)
    (case n_Tree_elders => k_is)
    (case n_Tree_young => k_is)
    (case n_Tree_known => k_is)
    (case mk_Tree => k_is)
    (case kc_Tree => k_is)
    (case a_Book => k_is)
    (case pg_Book => k_is)
    (case hd_Book => k_is)
    (case po_Book => k_is)
    (case sa_Book => k_is)
    (case n_Book_entries => k_is)
    (case mk_Book => k_is)
    (case kc_Book => k_is)
    (case a_Post => k_is)
    (case pg_Post => k_is)
    (case hd_Post => k_is)
    (case po_Post => k_is)
    (case sa_Post => k_is)
    (case n_Post_phase => k_is)
    (case n_Post_planned => k_is)
    (case n_Post_born => k_is)
    (case n_Post_steps => k_is)
    (case n_Post_slow => k_is)
    (case n_Post_grace => k_is)
    (case n_Post_good => k_is)
    (case n_Post_put => k_is)
    (case n_Post_anew => k_is)
    (case n_Post_falls => k_is)
    (case n_Post_waiting => k_is)
    (case n_Post_gave => k_is)
    (case mk_Post => k_is)
    (case kc_Post => k_is)
    (case a_House => k_is)
    (case pg_House => k_is)
    (case hd_House => k_is)
    (case po_House => k_is)
    (case sa_House => k_is)
    (case n_House_tree => k_is)
    (case n_House_clock => k_is)
    (case n_House_book => k_is)
    (case n_House_posts => k_is)
    (case n_House_heard => k_is)
    (case mk_House => k_is)
    (case kc_House => k_is)
    (case a_SIGNS => k_is)
    (case a_BOUND => k_is)
    (case a_DEEPEST => k_is)
    (case a_KEEPS => k_is)
    (case l_KEEPS => k_is)
    (case a_FALLS => k_is)
    (case l_FALLS => k_is)
    (case a_fit_name => k_is)
    (case l_fit_name => k_is)
    (case co_fit_name => k_is)
    (case k_fit_name => k_is)
    (case a_number_in => k_is)
    (case l_number_in => k_is)
    (case co_number_in => k_is)
    (case k_number_in => k_is)
    (case lT_number_in => k_is)
    (case a_Shape___init__ => k_is)
    (case i_Shape_init => k_is)
    (case l_Shape_init => k_is)
    (case co_Shape_init => k_is)
    (case k_Shape_init => k_is)
    (case a_Shape_leaf => k_is)
    (case i_Shape_leaf => k_is)
    (case l_Shape_leaf => k_is)
    (case co_Shape_leaf => k_is)
    (case k_Shape_leaf => k_is)
    (case a_Shape_begun_again => k_is)
    (case i_Shape_begun_again => k_is)
    (case l_Shape_begun_again => k_is)
    (case co_Shape_begun_again => k_is)
    (case k_Shape_begun_again => k_is)
    (case a_Leaf___init__ => k_is)
    (case i_Leaf_init => k_is)
    (case l_Leaf_init => k_is)
    (case co_Leaf_init => k_is)
    (case k_Leaf_init => k_is)
    (case lT_Leaf_init => k_is)
    (case a_Leaf_leaf => k_is)
    (case i_Leaf_leaf => k_is)
    (case l_Leaf_leaf => k_is)
    (case co_Leaf_leaf => k_is)
    (case k_Leaf_leaf => k_is)
    (case a_Leaf_end_at => k_is)
    (case i_Leaf_end_at => k_is)
    (case l_Leaf_end_at => k_is)
    (case co_Leaf_end_at => k_is)
    (case k_Leaf_end_at => k_is)
    (case a_Steady___init__ => k_is)
    (case i_Steady_init => k_is)
    (case l_Steady_init => k_is)
    (case co_Steady_init => k_is)
    (case k_Steady_init => k_is)
    (case lT_Steady_init => k_is)
    (case a_Steady_end_at => k_is)
    (case i_Steady_end_at => k_is)
    (case l_Steady_end_at => k_is)
    (case co_Steady_end_at => k_is)
    (case k_Steady_end_at => k_is)
    (case a_Faller___init__ => k_is)
    (case i_Faller_init => k_is)
    (case l_Faller_init => k_is)
    (case co_Faller_init => k_is)
    (case k_Faller_init => k_is)
    (case lT_Faller_init => k_is)
    (case a_Faller_end_at => k_is)
    (case i_Faller_end_at => k_is)
    (case l_Faller_end_at => k_is)
    (case co_Faller_end_at => k_is)
    (case k_Faller_end_at => k_is)
    (case a_Minder___init__ => k_is)
    (case i_Minder_init => k_is)
    (case l_Minder_init => k_is)
    (case co_Minder_init => k_is)
    (case k_Minder_init => k_is)
    (case lT_Minder_init => k_is)
    (case a_Minder_chosen => k_is)
    (case i_Minder_chosen => k_is)
    (case l_Minder_chosen => k_is)
    (case co_Minder_chosen => k_is)
    (case k_Minder_chosen => k_is)
    (case a_AllMinder_chosen => k_is)
    (case i_AllMinder_chosen => k_is)
    (case l_AllMinder_chosen => k_is)
    (case co_AllMinder_chosen => k_is)
    (case k_AllMinder_chosen => k_is)
    (case a_RestMinder_chosen => k_is)
    (case i_RestMinder_chosen => k_is)
    (case l_RestMinder_chosen => k_is)
    (case co_RestMinder_chosen => k_is)
    (case k_RestMinder_chosen => k_is)
    (case a_Tree___init__ => k_is)
    (case i_Tree_init => k_is)
    (case l_Tree_init => k_is)
    (case co_Tree_init => k_is)
    (case k_Tree_init => k_is)
    (case a_Tree_add => k_is)
    (case i_Tree_add => k_is)
    (case l_Tree_add => k_is)
    (case co_Tree_add => k_is)
    (case k_Tree_add => k_is)
    (case a_Tree_find => k_is)
    (case i_Tree_find => k_is)
    (case l_Tree_find => k_is)
    (case co_Tree_find => k_is)
    (case k_Tree_find => k_is)
    (case a_Tree_place => k_is)
    (case i_Tree_place => k_is)
    (case l_Tree_place => k_is)
    (case co_Tree_place => k_is)
    (case k_Tree_place => k_is)
    (case a_Tree_depth => k_is)
    (case i_Tree_depth => k_is)
    (case l_Tree_depth => k_is)
    (case co_Tree_depth => k_is)
    (case k_Tree_depth => k_is)
    (case a_leaf_by => k_is)
    (case l_leaf_by => k_is)
    (case co_leaf_by => k_is)
    (case k_leaf_by => k_is)
    (case a_minder_by => k_is)
    (case l_minder_by => k_is)
    (case co_minder_by => k_is)
    (case k_minder_by => k_is)
    (case a_shape_by => k_is)
    (case l_shape_by => k_is)
    (case co_shape_by => k_is)
    (case k_shape_by => k_is)
    (case a_elder_at => k_is)
    (case l_elder_at => k_is)
    (case co_elder_at => k_is)
    (case k_elder_at => k_is)
    (case a_read => k_is)
    (case l_read => k_is)
    (case co_read => k_is)
    (case k_read => k_is)
    (case a_bit => k_is)
    (case l_bit => k_is)
    (case co_bit => k_is)
    (case k_bit => k_is)
    (case a_below => k_is)
    (case l_below => k_is)
    (case co_below => k_is)
    (case k_below => k_is)
    (case a_places => k_is)
    (case l_places => k_is)
    (case co_places => k_is)
    (case k_places => k_is)
    (case a_last => k_is)
    (case l_last => k_is)
    (case co_last => k_is)
    (case k_last => k_is)
    (case a_without => k_is)
    (case l_without => k_is)
    (case co_without => k_is)
    (case k_without => k_is)
    (case a_recent => k_is)
    (case l_recent => k_is)
    (case co_recent => k_is)
    (case k_recent => k_is)
    (case a_too_many => k_is)
    (case l_too_many => k_is)
    (case co_too_many => k_is)
    (case k_too_many => k_is)
    (case a_Book___init__ => k_is)
    (case i_Book_init => k_is)
    (case l_Book_init => k_is)
    (case co_Book_init => k_is)
    (case k_Book_init => k_is)
    (case a_Book_note => k_is)
    (case i_Book_note => k_is)
    (case l_Book_note => k_is)
    (case co_Book_note => k_is)
    (case k_Book_note => k_is)
    (case a_Book_rows => k_is)
    (case i_Book_rows => k_is)
    (case l_Book_rows => k_is)
    (case co_Book_rows => k_is)
    (case k_Book_rows => k_is)
    (case a_Post___init__ => k_is)
    (case i_Post_init => k_is)
    (case l_Post_init => k_is)
    (case co_Post_init => k_is)
    (case k_Post_init => k_is)
    (case a_House___init__ => k_is)
    (case i_House_init => k_is)
    (case l_House_init => k_is)
    (case co_House_init => k_is)
    (case k_House_init => k_is)
    (case a_House_note => k_is)
    (case i_House_note => k_is)
    (case l_House_note => k_is)
    (case co_House_note => k_is)
    (case k_House_note => k_is)
    (case a_House_begin => k_is)
    (case i_House_begin => k_is)
    (case l_House_begin => k_is)
    (case co_House_begin => k_is)
    (case k_House_begin => k_is)
    (case a_House_on_of => k_is)
    (case i_House_on_of => k_is)
    (case l_House_on_of => k_is)
    (case co_House_on_of => k_is)
    (case k_House_on_of => k_is)
    (case a_House_over => k_is)
    (case i_House_over => k_is)
    (case l_House_over => k_is)
    (case co_House_over => k_is)
    (case k_House_over => k_is)
    (case a_House_settle => k_is)
    (case i_House_settle => k_is)
    (case l_House_settle => k_is)
    (case co_House_settle => k_is)
    (case k_House_settle => k_is)
    (case a_House_hear => k_is)
    (case i_House_hear => k_is)
    (case l_House_hear => k_is)
    (case co_House_hear => k_is)
    (case k_House_hear => k_is)
    (case a_House_decide => k_is)
    (case i_House_decide => k_is)
    (case l_House_decide => k_is)
    (case co_House_decide => k_is)
    (case k_House_decide => k_is)
    (case a_House_go_down => k_is)
    (case i_House_go_down => k_is)
    (case l_House_go_down => k_is)
    (case co_House_go_down => k_is)
    (case k_House_go_down => k_is)
    (case a_House_tell => k_is)
    (case i_House_tell => k_is)
    (case l_House_tell => k_is)
    (case co_House_tell => k_is)
    (case k_House_tell => k_is)
    (case a_House_ease => k_is)
    (case i_House_ease => k_is)
    (case l_House_ease => k_is)
    (case co_House_ease => k_is)
    (case k_House_ease => k_is)
    (case a_House_go_on => k_is)
    (case i_House_go_on => k_is)
    (case l_House_go_on => k_is)
    (case co_House_go_on => k_is)
    (case k_House_go_on => k_is)
    (case a_House_come_up => k_is)
    (case i_House_come_up => k_is)
    (case l_House_come_up => k_is)
    (case co_House_come_up => k_is)
    (case k_House_come_up => k_is)
    (case a_House_step => k_is)
    (case i_House_step => k_is)
    (case l_House_step => k_is)
    (case co_House_step => k_is)
    (case k_House_step => k_is)
    (case a_House_turn => k_is)
    (case i_House_turn => k_is)
    (case l_House_turn => k_is)
    (case co_House_turn => k_is)
    (case k_House_turn => k_is)
    (case a_House_stop => k_is)
    (case i_House_stop => k_is)
    (case l_House_stop => k_is)
    (case co_House_stop => k_is)
    (case k_House_stop => k_is)
    (case a_House_doing => k_is)
    (case i_House_doing => k_is)
    (case l_House_doing => k_is)
    (case co_House_doing => k_is)
    (case k_House_doing => k_is)
    (case a_House_on => k_is)
    (case i_House_on => k_is)
    (case l_House_on => k_is)
    (case co_House_on => k_is)
    (case k_House_on => k_is)
    (case a_House_rows => k_is)
    (case i_House_rows => k_is)
    (case l_House_rows => k_is)
    (case co_House_rows => k_is)
    (case k_House_rows => k_is)
    (case a_built => k_is)
    (case l_built => k_is)
    (case co_built => k_is)
    (case k_built => k_is)
    (case rd_Shape => k_is)
    (case ga_Shape => k_is)
    (case fc_Shape___init__ => k_is)
    (case rd_Leaf => k_is)
    (case ga_Leaf => k_is)
    (case fc_Leaf___init__ => k_is)
    (case a_AllMinder___init__ => k_is)
    (case a_RestMinder___init__ => k_is)
    (case a_Leaf_begun_again => k_is)
    (case a_Steady_begun_again => k_is)
    (case a_Faller_begun_again => k_is)
    (case a_Minder_begun_again => k_is)
    (case a_AllMinder_begun_again => k_is)
    (case a_RestMinder_begun_again => k_is)
    (case a_Steady_leaf => k_is)
    (case a_Faller_leaf => k_is)
    (case a_Minder_leaf => k_is)
    (case a_AllMinder_leaf => k_is)
    (case a_RestMinder_leaf => k_is)
    (case a_NoNumber => k_is)
    (case xf_NoNumber => k_exc)
    (case kc_NoNumber => k_is)
    (case eb_NoNumber => k_is)
    (case et_NoNumber => k_is)
    (case a_MinderError => k_is)
    (case cb_MinderError => k_is)
    (case cd_MinderError => k_is)
    (case ct_MinderError => k_is)
    (case cs_MinderError_NoNumber => k_is)
    (case a_law_cell_at => k_is)
    (case l_law_cell_at => k_is)
    (case co_law_cell_at => k_is)
    (case k_law_cell_at => k_is)
    (case a_law_number => k_is)
    (case l_law_number => k_is)
    (case co_law_number => k_is)
    (case k_law_number => k_is)
    (case a_law_due => k_is)
    (case l_law_due => k_is)
    (case co_law_due => k_is)
    (case k_law_due => k_is)
    (case a_law_stands => k_is)
    (case l_law_stands => k_is)
    (case co_law_stands => k_is)
    (case k_law_stands => k_is)
    (case a_law => k_is)
    (case l_law => k_is)
    (case co_law => k_is)
    (case k_law => k_is)
#print axioms PySem.Challenge.cw_minders_k08_so_much_grace_holds
