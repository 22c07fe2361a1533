import PyProof.Rows.All
import Wide.All
import OpenK.AllK
import Wide.FinOn
import HandS.ForMost
import HandS.ForExc
import HandS.Defaults
import HandS.Codes
import HandS.ClsMeth
import HandS.TupLe
import HandS.StrMore
import HandS.IsInst
import HandS.SuiteRaise
import HandS.HotCalls
import HandS.ExcIs
import HandS.CallSlots
import KE.RegKIsAll
import HandS.TryElse
import HandS.TryMany
import HandS.WideBits
import PySem.Challenge.RW_minders_k07_entries_shown_and_seen

set_option Elab.async false
set_option linter.all false
set_option maxRecDepth 100000
set_option maxHeartbeats 4000000
/-! Mn: rules of my own over HandS: calls whose promise the reading picks. -/
namespace Mn
open PySem PySem.Spec PyProof.Rows L2

/-- a def of the module, by its name, its promise, its defaults -/
structure Cal (P : Program) (w : World) (K : PySem.W.Frag) (mg : Str → Option Value) (base : Heap) (CX : CXT) (x : Str) (k : Nat) (ps : List Str) (dvs : List V) (sp : Sp) : Prop where
  ex : ∃ (f : Addr) (fd : FuncData) (ds : List Value), FnOk P w K mg base CX k f fd ps sp ∧ mg x = some (.ref f) ∧ PySem.W.keepIn K (.ref f) = true ∧ Binds K fd ps ds ∧ Vals dvs ds
/-- a method of the class at C -/
structure Mth (P : Program) (w : World) (K : PySem.W.Frag) (mg : Str → Option Value) (base : Heap) (CX : CXT) (C : Addr) (m : Str) (k : Nat) (ps : List Str) (dvs : List V) (sp : Sp) : Prop where
  ex : ∃ (f : Addr) (fd : FuncData) (ds : List Value), FnOk P w K mg base CX k f fd ps sp ∧ Meth K C m f ∧ Binds K fd ps ds ∧ Vals dvs ds
/-- a class that is made by its name -/
structure Mak (P : Program) (w : World) (K : PySem.W.Frag) (mg : Str → Option Value) (base : Heap) (CX : CXT) (x : Str) (C : Addr) (k : Nat) (ps : List Str) (dvs : List V) (sp : Sp) : Prop where
  ex : ∃ (f : Addr) (fd : FuncData) (ds : List Value), FnOk P w K mg base CX k f fd ps sp ∧ mg x = some (.ref C) ∧ Mk K C f ∧ Binds K fd ps ds ∧ Vals dvs ds
/-- the context stands over these -/
structure Sx (X : Cx) (P : Program) (w : World) (K : PySem.W.Frag) (mg : Str → Option Value) (base : Heap) : Prop where
  p : X.prog = P
  w : X.w = w
  k : X.K = K
  m : X.mg = mg
  b : X.base = base
section
variable {X : Cx} {P : Program} {w : World} {K : PySem.W.Frag} {mg : Str → Option Value} {base : Heap} {CX : CXT} {k : Nat} {E : XK} {x m : Str} {p pos apos : Pos} {e o : Expr} {es : List Expr} {ta : TE} {t : TA}
def tCA (P : Program) (w : World) (K : PySem.W.Frag) (mg : Str → Option Value) (base : Heap) (CX : CXT) (x : Str) (k : Nat) (E : XK) (t : TA) : TE := fun σ H Q => ∃ j ps dvs sp, Cal P w K mg base CX x j ps dvs sp ∧ j ≤ k ∧ t σ H fun vs H1 => sp (vs ++ dvs) H1 Q E
/-- f(e, ..), nothing raised -/
theorem pe_ca (hX : Sx X P w K mg base) (hr : Room k X.A) (hg : Gl X x) (ha : PA X (e :: es) t) (hdb : (x == ("__debug__" : Str)) = false := by decide) (he : starEach (e :: es) X.env = (false, eval e X.env) :: starEach es X.env := by rfl) (hpl : (backTo pos (starEach es X.env)).any (·.1) = false := by rfl) :
    PE X (.Call (.Name x p) (e :: es) [] pos) (tCA P w K mg base CX0 x k E0 t) := by
  obtain ⟨rfl, rfl, rfl, rfl, rfl⟩ := hX
  refine ⟨fun pins s σ H Q I h => ?_⟩
  obtain ⟨j, ps, dvs, sp, C, hj, h⟩ := h
  obtain ⟨f, fd, ds, F, hm, hk, hb, hd⟩ := C.ex
  exact (pe_call F (hr.mono hj) hg hm hk hb hd pass0 ha hdb he hpl).run pins s σ H Q I h
/-- f(), nothing raised -/
theorem pe_ca0 (hX : Sx X P w K mg base) (hr : Room k X.A) (hg : Gl X x) (hdb : (x == ("__debug__" : Str)) = false := by decide) : PE X (.Call (.Name x p) [] [] pos) (tCA P w K mg base CX0 x k E0 tNil) := by
  obtain ⟨rfl, rfl, rfl, rfl, rfl⟩ := hX
  refine ⟨fun pins s σ H Q I h => ?_⟩
  obtain ⟨j, ps, dvs, sp, C, hj, h⟩ := h
  obtain ⟨f, fd, ds, F, hm, hk, hb, hd⟩ := C.ex
  exact (pe_call0 F (hr.mono hj) hg hm hk hb hd pass0 hdb).run pins s σ H Q I h
def tMkA (P : Program) (w : World) (K : PySem.W.Frag) (mg : Str → Option Value) (base : Heap) (CX : CXT) (x : Str) (k : Nat) (E : XK) (t : TA) : TE := fun σ H Q => ∃ C j ps dvs sp, Mak P w K mg base CX x C j ps dvs sp ∧ j + 1 ≤ k ∧ tMake C sp dvs E t σ H Q
theorem pe_mka (hX : Sx X P w K mg base) (hr : Room k X.A) (hg : Gl X x) (ha : PA X (e :: es) t) (hdb : (x == ("__debug__" : Str)) = false := by decide) (he : starEach (e :: es) X.env = (false, eval e X.env) :: starEach es X.env := by rfl) (hpl : (backTo pos (starEach es X.env)).any (·.1) = false := by rfl) :
    PE X (.Call (.Name x p) (e :: es) [] pos) (tMkA P w K mg base CX0 x k E0 t) := by
  obtain ⟨rfl, rfl, rfl, rfl, rfl⟩ := hX
  refine ⟨fun pins s σ H Q I h => ?_⟩
  obtain ⟨C, j, ps, dvs, sp, M, hj, h⟩ := h
  obtain ⟨f, fd, ds, F, hm, hk, hb, hd⟩ := M.ex
  exact (pe_make hk F (hr.mono hj) hg hm hb hd pass0 ha hdb he hpl).run pins s σ H Q I h
theorem pe_mka0 (hX : Sx X P w K mg base) (hr : Room k X.A) (hg : Gl X x) (hdb : (x == ("__debug__" : Str)) = false := by decide) : PE X (.Call (.Name x p) [] [] pos) (tMkA P w K mg base CX0 x k E0 tNil) := by
  obtain ⟨rfl, rfl, rfl, rfl, rfl⟩ := hX
  refine ⟨fun pins s σ H Q I h => ?_⟩
  obtain ⟨C, j, ps, dvs, sp, M, hj, h⟩ := h
  obtain ⟨f, fd, ds, F, hm, hk, hb, hd⟩ := M.ex
  exact (pe_make0 hk F (hr.mono hj) hg hm hb hd pass0 hdb).run pins s σ H Q I h
def tMA (P : Program) (w : World) (K : PySem.W.Frag) (mg : Str → Option Value) (base : Heap) (CX : CXT) (m : Str) (k : Nat) (E : XK) (ta : TE) (t : TA) : TE := fun σ H Q => ta σ H fun xv H1 => ∃ a C dx fs j ps dvs sp, xv = .ref a ∧ H1 a = some (.ins C dx fs) ∧ Cls K C ∧ fs.lookup m = none ∧ Mth P w K mg base CX C m j ps dvs sp ∧ j ≤ k ∧
  t σ H1 fun vs H2 => sp (xv :: (vs ++ dvs)) H2 Q E
/-- o.m(e, ..), o of any own class -/
theorem pe_maX {pl : Sem Bool} (hX : Sx X P w K mg base) (hr : Room k X.A) (hx : Passes CX X E) (he : PE X o ta) (ha : PA X (e :: es) t)
    (hst : starEach (e :: es) X.env = (false, eval e X.env) :: starEach es X.env := by rfl) (hpl : (backTo pos (starEach es X.env)).any (·.1) = false := by rfl)
    (ht : eval (.Call (.Attribute o m apos) (e :: es) [] pos) X.env = (do
      let ov ← eval o X.env
      standAt apos.atName
      let (f, first) ← holding [ov] (getMethod ov m pl)
      callWith pos f first (backTo pos (starEach (e :: es) X.env)) (backToKw pos (keywordEach [] X.env))) := by rfl) :
    PE X (.Call (.Attribute o m apos) (e :: es) [] pos) (tMA P w K mg base CX m k E ta t) := by
  obtain ⟨rfl, rfl, rfl, rfl, rfl⟩ := hX
  refine ⟨fun pins s σ H Q I h => ?_⟩
  refine PySem.W.methodCall_KW (pl := pl) (thn (he.run pins s σ H _ I h) fun u s1 ⟨xv, H1, I1, rx, a, C, dx, fs, j, ps, dvs, sp, ex, ea, c, l, M, hj, q⟩ => ?_) ht
  subst ex
  obtain rfl : u = Value.ref a := rx
  obtain ⟨f, fd, ds, F, hm, hb, hd⟩ := M.ex
  refine getmeth_ok I1 ea c hm l ?_
  refine PySem.W.callWith_K (first := [.ref a]) (h₀ := X.base) I.ok.mod.kin hm.kp (thn (ha.run pos pins s1 σ H1 _ I1 q) fun us s2 ⟨vs, H2, I2, r, q2⟩ => ⟨I2.kIn, ?_⟩) hst hpl
  exact run_fn (us := .ref a :: us) (vs := .ref a :: vs) F (hr.mono hj) hb hd hx I2 (.cons rfl r) q2
theorem pe_maX0 {pl : Sem Bool} (hX : Sx X P w K mg base) (hr : Room k X.A) (hx : Passes CX X E) (he : PE X o ta)
    (ht : eval (.Call (.Attribute o m apos) [] [] pos) X.env = (do
      let ov ← eval o X.env
      standAt apos.atName
      let (f, first) ← holding [ov] (getMethod ov m pl)
      callWith pos f first (backTo pos (starEach [] X.env)) (backToKw pos (keywordEach [] X.env))) := by rfl) :
    PE X (.Call (.Attribute o m apos) [] [] pos) (tMA P w K mg base CX m k E ta tNil) := by
  obtain ⟨rfl, rfl, rfl, rfl, rfl⟩ := hX
  refine ⟨fun pins s σ H Q I h => ?_⟩
  refine PySem.W.methodCall_KW (pl := pl) (thn (he.run pins s σ H _ I h) fun u s1 ⟨xv, H1, I1, rx, a, C, dx, fs, j, ps, dvs, sp, ex, ea, c, l, M, hj, q⟩ => ?_) ht
  subst ex
  obtain rfl : u = Value.ref a := rx
  obtain ⟨f, fd, ds, F, hm, hb, hd⟩ := M.ex
  refine getmeth_ok I1 ea c hm l ?_
  exact PySem.W.callWith_K0 (first := [.ref a]) I1.kIn hm.kp (run_fn (us := [.ref a]) (vs := [.ref a]) F (hr.mono hj) hb hd hx I1 (.cons rfl .nil) q)
theorem pe_ma {pl : Sem Bool} (hX : Sx X P w K mg base) (hr : Room k X.A) (he : PE X o ta) (ha : PA X (e :: es) t)
    (hst : starEach (e :: es) X.env = (false, eval e X.env) :: starEach es X.env := by rfl) (hpl : (backTo pos (starEach es X.env)).any (·.1) = false := by rfl)
    (ht : eval (.Call (.Attribute o m apos) (e :: es) [] pos) X.env = (do
      let ov ← eval o X.env
      standAt apos.atName
      let (f, first) ← holding [ov] (getMethod ov m pl)
      callWith pos f first (backTo pos (starEach (e :: es) X.env)) (backToKw pos (keywordEach [] X.env))) := by rfl) :
    PE X (.Call (.Attribute o m apos) (e :: es) [] pos) (tMA P w K mg base CX0 m k E0 ta t) := pe_maX (pl := pl) hX hr pass0 he ha hst hpl ht
theorem pe_ma0 {pl : Sem Bool} (hX : Sx X P w K mg base) (hr : Room k X.A) (he : PE X o ta)
    (ht : eval (.Call (.Attribute o m apos) [] [] pos) X.env = (do
      let ov ← eval o X.env
      standAt apos.atName
      let (f, first) ← holding [ov] (getMethod ov m pl)
      callWith pos f first (backTo pos (starEach [] X.env)) (backToKw pos (keywordEach [] X.env))) := by rfl) :
    PE X (.Call (.Attribute o m apos) [] [] pos) (tMA P w K mg base CX0 m k E0 ta tNil) := pe_maX0 (pl := pl) hX hr pass0 he ht
/-- a name of the module as a value -/
def tGv (mg : Str → Option Value) (x : Str) : TE := fun _ H Q => ∃ v u, mg x = some u ∧ RelV v u ∧ Q v H
theorem pe_gv (hm : X.mg = mg) (hg : Gl X x) (hd : (x == ("__debug__" : Str)) = false := by decide) : PE X (.Name x p) (tGv mg x) := by
  subst hm
  refine ⟨fun pins s σ H Q I h => ?_⟩
  obtain ⟨v, u, hm, r, q⟩ := h
  exact ld_glob I hg hm ⟨v, H, I, r, q⟩ hd
end
/-! ### == of a list with [] -/
def rEqE : R2 := fun x y H Q => ∃ a b xs, x = .ref a ∧ y = .ref b ∧ H a = some (.lst xs) ∧ H b = some (.lst []) ∧ Q (.bl xs.isEmpty) H
def rNeE : R2 := fun x y H Q => ∃ a b xs, x = .ref a ∧ y = .ref b ∧ H a = some (.lst xs) ∧ H b = some (.lst []) ∧ Q (.bl (!xs.isEmpty)) H
/-! ### readings, step by step -/
section
variable {σ σ' : L2.St} {H H1 : Hp} {Q : VK} {D : Ends} {v x y z : V} {a b : Bool} {i j : Int} {n : Nat} {ta tb tc te : TE} {t u : TT} {s1 s2 : TS} {ar : TA} {r r' : R2} {g : TG} {Qb : Bool → Hp → Prop} {Qa : List V → Hp → Prop} {Qs : L2.St → Hp → Prop} {K : PySem.W.Frag}
theorem w_var (h : σ[n]? = some (some v)) (q : Q v H) : tVar n σ H Q := ⟨v, h, q⟩
theorem w_c (q : Q v H) : tC v σ H Q := q
theorem w_op (q : ta σ H fun x H1 => tb σ H1 fun y H2 => r x y H2 Q) : tOp r ta tb σ H Q := q
theorem w_un {r : V → Hp → VK → Prop} (q : ta σ H fun x H1 => r x H1 Q) : tUn r ta σ H Q := q
theorem w_I0 {f : Int → Int → V} (q : Q (f i j) H) : rI0 f (.int i) (.int j) H Q := ⟨_, _, rfl, rfl, q⟩
theorem w_I {C : Int → Int → Prop} {f : Int → Int → V} (c : C i j) (q : Q (f i j) H) : rI C f (.int i) (.int j) H Q := ⟨_, _, rfl, rfl, c, q⟩
theorem w_U {f : Int → V} (q : Q (f i) H) : rU f (.int i) H Q := ⟨_, rfl, q⟩
theorem w_eq (h : scal x y = true) (q : Q (.bl (decide (x = y))) H) : rEq x y H Q := ⟨h, q⟩
theorem w_ne (h : scal x y = true) (q : Q (.bl (!decide (x = y))) H) : rNe x y H Q := ⟨h, q⟩
theorem w_test (q : te σ H fun x H' => ∃ k, x = .bl k ∧ Qb k H') : tTest te σ H Qb := q
theorem w_B (q : te σ H fun x H' => ∃ k, x = .bl k ∧ Qb k H') : tB te σ H Qb := q
theorem w_bl {R : Bool → Prop} (q : R a) : ∃ k, V.bl a = .bl k ∧ R k := ⟨_, rfl, q⟩
theorem w_and (q : t σ H fun c H1 => if c = true then u σ H1 Qb else Qb false H1) : tAnd t u σ H Qb := q
theorem w_or (q : t σ H fun c H1 => if c = true then Qb true H1 else u σ H1 Qb) : tOr t u σ H Qb := q
theorem w_not (q : t σ H fun c H1 => Qb (!c) H1) : tNot t σ H Qb := q
theorem w_andV (q : ta σ H fun x H1 => ∃ c, x = .bl c ∧ if c = true then tb σ H1 Q else Q (.bl false) H1) : tAndV ta tb σ H Q := q
theorem w_orV (q : ta σ H fun x H1 => ∃ c, x = .bl c ∧ if c = true then Q (.bl true) H1 else tb σ H1 Q) : tOrV ta tb σ H Q := q
theorem w_notV (q : ta σ H fun x H1 => ∃ c, x = .bl c ∧ Q (.bl (!c)) H1) : tNotV ta σ H Q := q
theorem w_chain (q : ta σ H fun x H1 => tb σ H1 fun y H2 => r x y H2 fun z H3 => ∃ k, z = .bl k ∧ (if k = true then tc σ H3 fun z H4 => r' y z H4 Q else Q (.bl false) H3)) : tChain r r' ta tb tc σ H Q := q
theorem w_seq (q : s1 { D with nx := s2 D } σ H) : tSeq s1 s2 D σ H := q
theorem w_next (q : D.nx σ H) : tNext D σ H := q
theorem w_ret (q : te σ H D.rt) : tRet te D σ H := q
theorem w_retN (q : D.rt .non H) : tRetN D σ H := q
theorem w_if (q : t σ H fun b H1 => if b = true then s1 D σ H1 else s2 D σ H1) : tIfS t s1 s2 D σ H := q
theorem w_drop (q : te σ H fun _ H1 => D.nx σ H1) : tDrop te D σ H := q
theorem w_asg (q : te σ H fun x H1 => g x σ H1 D.nx) : tAsg te g D σ H := q
theorem w_name (q : Qs (σ.set n (some v)) H) : gName n v σ H Qs := q
theorem w_name2 (h : σ.set n (some v) = σ') (q : Qs σ' H) : gName n v σ H Qs := by subst h; exact q
theorem w_nil (q : Qa [] H) : tNil σ H Qa := q
theorem w_cons (q : te σ H fun x H1 => ar σ H1 fun xs H2 => Qa (x :: xs) H2) : tCons te ar σ H Qa := q
theorem w_cb {r : List V → Hp → VK → Prop} (q : ar σ H fun vs H1 => r vs H1 Q) : tCB r ar σ H Q := q
theorem w_cont (q : D.ct σ H) : tCont D σ H := q
end
end Mn

namespace Mn
open PySem PySem.Spec PyProof.Rows L2
/-! ### named readings of what has none -/
section
variable {X : Cx} {K : PySem.W.Frag} {σ : L2.St} {H H1 H2 : Hp} {Q : VK} {D : Ends} {v x y z : V} {a b p q : Addr} {i j : Int} {n : Nat} {xs ys zs : List V} {s s' : Str} {Qs : L2.St → Hp → Prop} {Qt : Hp → Prop} {f : Str} {fs : List (Str × V)} {C dx : Addr} {ta tv te to ti : TE} {ar : TA}
theorem same_new (h : H p = none) (o : HO) : Same H (upd H p o) := fun b u q => by rw [upd_ne (ne_of_none q h)]; exact q
theorem same_upd {o : HO} (s : Same H H1) (h : H1 p = none) : Same H (upd H1 p o) := s.trans (same_new h o)
/-- an object that was not there at the start may change -/
theorem same_mut {o : HO} (s : Same H H1) (h : H p = none) : Same H (upd H1 p o) := fun b u q => by rw [upd_ne (ne_of_none q h)]; exact s b u q
theorem sqT_same (e : Same H H1) (h : SqT K H a xs) : SqT K H1 a xs := by
  rcases h with (h | ⟨o, h⟩) | h
  · exact .inl (.inl (e _ _ h))
  · exact .inl (.inr ⟨o, e _ _ h⟩)
  · exact .inr h
theorem rd_same {u : HO} (e : Same H H1) (h : Rd H a u) : Rd H1 a u := by
  rcases h with h | ⟨o, h⟩
  · exact .inl (e _ _ h)
  · exact .inr ⟨o, e _ _ h⟩
def cLenL (K : PySem.W.Frag) : List V → Hp → VK → Prop := fun xs H Q => ∃ p ys, xs = [.ref p] ∧ SqL K H p ys ∧ Q (.int ys.length) H
theorem call_lenL : CallR X (.builtin "len") (cLenL X.K) := fun pins s σ H xs us Q I r h => by
  obtain ⟨p, ys, e, hq, q⟩ := h
  exact call_len_seq pins s σ H xs us Q I r ⟨p, ys, e, .inl hq, q⟩
theorem w_lenL (h : SqL K H p ys) (q : Q (.int ys.length) H) : cLenL K [.ref p] H Q := ⟨_, _, rfl, h, q⟩
def cLenT (K : PySem.W.Frag) : List V → Hp → VK → Prop := fun xs H Q => ∃ p ys, xs = [.ref p] ∧ SqT K H p ys ∧ Q (.int ys.length) H
theorem call_lenT : CallR X (.builtin "len") (cLenT X.K) := fun pins s σ H xs us Q I r h => by
  obtain ⟨p, ys, e, hq, q⟩ := h
  exact call_len_seq pins s σ H xs us Q I r ⟨p, ys, e, .inr hq, q⟩
theorem w_lenT (h : SqT K H p ys) (q : Q (.int ys.length) H) : cLenT K [.ref p] H Q := ⟨_, _, rfl, h, q⟩
def cLenS : List V → Hp → VK → Prop := fun xs H Q => ∃ z, xs = [.str z] ∧ z.length ≤ sizeLine ∧ Q (.int z.length) H
theorem call_lenS : CallR X (.builtin "len") cLenS := call_len_str
theorem w_lenS (h : s.length ≤ sizeLine) (q : Q (.int s.length) H) : cLenS [.str s] H Q := ⟨_, rfl, h, q⟩
def cStrI : List V → Hp → VK → Prop := fun xs H Q => ∃ i, xs = [.int i] ∧ i.natAbs.log2 < 1920 ∧ Q (.str (toString i)) H
theorem call_strI : CallR X (.type "str") cStrI := call_str_int
theorem w_strI (h : i.natAbs.log2 < 1920) (q : Q (.str (toString i)) H) : cStrI [.int i] H Q := ⟨_, rfl, h, q⟩
def cIntS : List V → Hp → VK → Prop := fun xs H Q => ∃ a n, xs = [.str a] ∧ PySem.intText? a = some n ∧ a.length ≤ 640 ∧ Q (.int n) H
theorem call_intS : CallR X (.type "int") cIntS := call_int_str
theorem w_intS (h : PySem.intText? s = some i) (l : s.length ≤ 640) (q : Q (.int i) H) : cIntS [.str s] H Q := ⟨_, _, rfl, h, l, q⟩
def cIntB : List V → Hp → VK → Prop := fun xs H Q => ∃ k, xs = [.bl k] ∧ Q (.int (if k then 1 else 0)) H
theorem call_intB : CallR X (.type "int") cIntB := fun pins s σ H xs us Q I r h => call_int1 pins s σ H xs us Q I r (.inr h)
theorem w_intB {k : Bool} (q : Q (.int (if k then 1 else 0)) H) : cIntB [.bl k] H Q := ⟨_, rfl, q⟩
def cListL (K : PySem.W.Frag) : List V → Hp → VK → Prop := fun xs H Q => ∃ p ys, xs = [.ref p] ∧ SqL K H p ys ∧ ∀ l, H l = none → Q (.ref l) (upd H l (.lst ys))
theorem call_listL : CallR X (.type "list") (cListL X.K) := fun pins s σ H xs us Q I r h => by
  obtain ⟨p, ys, e, hq, q⟩ := h
  exact call_list_of pins s σ H xs us Q I r ⟨p, ys, e, .inl hq, q⟩
theorem w_listL (h : SqL K H p ys) (q : ∀ l, H l = none → Q (.ref l) (upd H l (.lst ys))) : cListL K [.ref p] H Q := ⟨_, _, rfl, h, q⟩
def cDivmod : List V → Hp → VK → Prop := fun xs H Q => ∃ i j, xs = [.int i, .int j] ∧ CDiv i j ∧ ∀ p, H p = none → Q (.ref p) (upd H p (.tup [.int (i / j), .int (i % j)]))
theorem call_divmodI : CallR X (.builtin "divmod") cDivmod := call_divmod
theorem w_divmod (c : CDiv i j) (q : ∀ p, H p = none → Q (.ref p) (upd H p (.tup [.int (i / j), .int (i % j)]))) : cDivmod [.int i, .int j] H Q := ⟨_, _, rfl, c, q⟩
def cMax : List V → Hp → VK → Prop := fun xs H Q => ∃ i j, xs = [.int i, .int j] ∧ Q (.int (if j > i then j else i)) H
theorem call_maxI (hc : X.calm = true) : CallR X (.builtin "max") cMax := call_max2 hc
theorem w_max (q : Q (.int (max i j)) H) : cMax [.int i, .int j] H Q := ⟨_, _, rfl, by
  have e : (if j > i then j else i) = max i j := by rw [Int.max_def]; split <;> split <;> omega
  rw [e]; exact q⟩
def cMin : List V → Hp → VK → Prop := fun xs H Q => ∃ i j, xs = [.int i, .int j] ∧ Q (.int (if j < i then j else i)) H
theorem call_minI (hc : X.calm = true) : CallR X (.builtin "min") cMin := call_min2 hc
theorem w_min (q : Q (.int (min i j)) H) : cMin [.int i, .int j] H Q := ⟨_, _, rfl, by
  have e : (if j < i then j else i) = min i j := by rw [Int.min_def]; split <;> split <;> omega
  rw [e]; exact q⟩
def rAddS : R2 := fun x y H Q => ∃ i j, x = .str i ∧ y = .str j ∧ i.length + j.length ≤ sizeLine ∧ Q (.str (i ++ j)) H
theorem op_addS : OpR X (binaryOp .Add) rAddS := op_add_str
theorem w_addS (h : s.length + s'.length ≤ sizeLine) (q : Q (.str (s ++ s')) H) : rAddS (.str s) (.str s') H Q := ⟨_, _, rfl, rfl, h, q⟩
def rInS : R2 := fun x y H Q => ∃ i j, x = .str i ∧ y = .str j ∧ Q (.bl (!(Builtin.Str.occurrences j i 0 j.length 1).isEmpty)) H
theorem op_inS : OpR X (compareOp .In) rInS := op_in_str
theorem w_inS (q : Q (.bl (!(Builtin.Str.occurrences s' s 0 s'.length 1).isEmpty)) H) : rInS (.str s) (.str s') H Q := ⟨_, _, rfl, rfl, q⟩
def rNinS : R2 := fun x y H Q => ∃ i j, x = .str i ∧ y = .str j ∧ Q (.bl (!(!(Builtin.Str.occurrences j i 0 j.length 1).isEmpty))) H
theorem op_ninS : OpR X (compareOp .NotIn) rNinS := op_notIn_str
theorem w_ninS (q : Q (.bl (!(!(Builtin.Str.occurrences s' s 0 s'.length 1).isEmpty))) H) : rNinS (.str s) (.str s') H Q := ⟨_, _, rfl, rfl, q⟩
def rIsN : R2 := fun x y H Q => y = .non ∧ Q (.bl (decide (x = .non))) H
theorem op_isNn : OpR X (compareOp .Is) rIsN := op_isN
theorem w_isN (q : Q (.bl (decide (x = .non))) H) : rIsN x .non H Q := ⟨rfl, q⟩
def rNotN : R2 := fun x y H Q => y = .non ∧ Q (.bl (!decide (x = .non))) H
theorem op_notNn : OpR X (compareOp .IsNot) rNotN := op_notN
theorem w_notN (q : Q (.bl (!decide (x = .non))) H) : rNotN x .non H Q := ⟨rfl, q⟩
theorem w_ixL (h : SqL K H p xs) (e : atI xs i = some v) (q : Q v H) : rIxL K (.ref p) (.int i) H Q := ⟨_, _, _, _, rfl, rfl, h, e, q⟩
theorem w_ixT (h : SqT K H p xs) (e : atI xs i = some v) (q : Q v H) : rIxT K (.ref p) (.int i) H Q := ⟨_, _, _, _, rfl, rfl, h, e, q⟩
theorem w_ixS {c : Nat} (l : s.length ≤ sizeLine) (e : atI s.cps.toList i = some c) (q : Q (.str ⟨#[c]⟩) H) : rIxS (.str s) (.int i) H Q := ⟨_, _, _, rfl, rfl, l, e, q⟩
theorem w_app (h : H p = some (.lst xs)) (l : xs.length < sizeLine) (q : Q .non (upd H p (.lst (xs ++ [y])))) : rAppend (.ref p) [y] H Q := ⟨_, _, _, rfl, rfl, h, l, q⟩
theorem w_cat (h : H p = some (.lst xs)) (h' : H a = some (.lst ys)) (l : xs.length + ys.length ≤ sizeLine) (q : ∀ r, H r = none → Q (.ref r) (upd H r (.lst (xs ++ ys)))) : rCat (.ref p) (.ref a) H Q := ⟨_, _, _, _, rfl, rfl, h, h', l, q⟩
theorem w_bm {T : String} {r : V → List V → Hp → VK → Prop} (q : to σ H fun x H1 => tyV K T x H1 ∧ ar σ H1 fun xs H2 => r x xs H2 Q) : tBM K T r to ar σ H Q := q
theorem w_bm0 {T : String} {r : V → List V → Hp → VK → Prop} (q : to σ H fun x H1 => tyV K T x H1 ∧ r x [] H1 Q) : tBM0 K T r to σ H Q := q
theorem w_tyL {P : Prop} (h : SqL K H p xs) (q : P) : tyV K "list" (.ref p) H ∧ P := ⟨.inl ⟨rfl, _, h⟩, q⟩
theorem w_tyS {P : Prop} (q : P) : tyV K "str" (.str s) H ∧ P := ⟨rfl, q⟩
theorem w_tyI {P : Prop} (q : P) : tyV K "int" (.int i) H ∧ P := ⟨rfl, q⟩
theorem w_lst (q : ar σ H fun xs H1 => xs.length ≤ sizeLine ∧ ∀ p, H1 p = none → Q (.ref p) (upd H1 p (.lst xs))) : tLst ar σ H Q := q
theorem w_tup (q : ar σ H fun xs H1 => xs.length ≤ sizeLine ∧ ∀ p, H1 p = none → Q (.ref p) (upd H1 p (.tup xs))) : tTup ar σ H Q := q
theorem w_new {P : Addr → Prop} (l : xs.length ≤ sizeLine) (q : ∀ p, H p = none → P p) : xs.length ≤ sizeLine ∧ ∀ p, H p = none → P p := ⟨l, q⟩
theorem w_sl {r : V → Option Int → Option Int → Hp → VK → Prop} {tl th : TO} (q : te σ H fun x H1 => tl σ H1 fun l H2 => th σ H2 fun u H3 => r x l u H3 Q) : tSl r te tl th σ H Q := q
theorem w_part {Qo : Option Int → Hp → Prop} (q : te σ H fun x H1 => ∃ i, x = .int i ∧ Qo (some i) H1) : tPart te σ H Qo := q
theorem w_part1 {R : Int → Prop} (q : R i) : ∃ j, V.int i = .int j ∧ R j := ⟨_, rfl, q⟩
theorem w_nopart {Qo : Option Int → Hp → Prop} (q : Qo none H) : tNoPart σ H Qo := q
theorem w_slL {lo hi : Option Int} (h : SqL K H p xs) (q : ∀ r, H r = none → Q (.ref r) (upd H r (.lst (cutV xs lo hi)))) : rSlL K (.ref p) lo hi H Q := ⟨_, _, rfl, h, q⟩
theorem w_slS {lo hi : Option Int} (l : s.length ≤ sizeLine) (q : Q (.str (cutS s lo hi)) H) : rSlS (.str s) lo hi H Q := ⟨_, rfl, l, q⟩
theorem w_m1 {r : V → List V → Hp → VK → Prop} (q : to σ H fun x H1 => (∃ a, x = .str a) ∧ te σ H1 fun y H2 => r x [y] H2 Q) : tM1 r to te σ H Q := q
theorem w_m0 {r : V → List V → Hp → VK → Prop} (q : to σ H fun x H1 => (∃ a, x = .str a) ∧ r x [] H1 Q) : tM0 r to σ H Q := q
theorem w_isS {P : Prop} (q : P) : (∃ a, V.str s = .str a) ∧ P := ⟨⟨_, rfl⟩, q⟩
/-- e.f at an instance -/
theorem w_fld (q : ta σ H fun x H1 => ∃ a C dx fs v, x = .ref a ∧ H1 a = some (.ins C dx fs) ∧ Cls K C ∧ NoAttr K C f ∧ fs.lookup f = some v ∧ Q v H1) : tFld K ta f σ H Q := q
theorem w_fld1 (h : H a = some (.ins C dx fs)) (c : Cls K C) (n : NoAttr K C f) (l : fs.lookup f = some v) {R : V → Prop} (q : R v) : ∃ a' C dx fs v', V.ref a = .ref a' ∧ H a' = some (.ins C dx fs) ∧ Cls K C ∧ NoAttr K C f ∧ fs.lookup f = some v' ∧ R v' := ⟨_, _, _, _, _, rfl, h, c, n, l, q⟩
theorem w_sfld (q : tv σ H fun y H1 => ta σ H1 fun x H2 => ∃ a C dx fs, x = .ref a ∧ H2 a = some (.ins C dx fs) ∧ Cls K C ∧ NoAttr K C f ∧ fs.length < 1000 ∧ D.nx σ (upd H2 a (.ins C dx (putF f y fs)))) : sFld K ta tv f D σ H := q
theorem w_sfld1 (h : H a = some (.ins C dx fs)) (c : Cls K C) (n : NoAttr K C f) (l : fs.length < 1000) {R : Hp → Prop} (q : R (upd H a (.ins C dx (putF f y fs)))) : ∃ a' C dx fs, V.ref a = .ref a' ∧ H a' = some (.ins C dx fs) ∧ Cls K C ∧ NoAttr K C f ∧ fs.length < 1000 ∧ R (upd H a' (.ins C dx (putF f y fs))) := ⟨_, _, _, _, rfl, h, c, n, l, q⟩
/-- a def's call: its promise -/
theorem w_ca {P : Program} {w : World} {mg : Str → Option Value} {base : Heap} {CX : CXT} {k j : Nat} {ps : List Str} {dvs : List V} {sp : Sp} {E : XK} (c : Cal P w K mg base CX f j ps dvs sp) (hj : j ≤ k) (q : ar σ H fun vs H1 => sp (vs ++ dvs) H1 Q E) : tCA P w K mg base CX f k E ar σ H Q := ⟨_, _, _, _, c, hj, q⟩
/-- a known test -/
theorem w_ite {c A B : Prop} [Decidable c] (h1 : c → A) (h2 : ¬ c → B) : if decide c = true then A else B := by
  by_cases h : c
  · rw [if_pos (decide_eq_true h)]; exact h1 h
  · rw [if_neg (by simp [h])]; exact h2 h
theorem w_iteN {c A B : Prop} [Decidable c] (h1 : ¬ c → A) (h2 : c → B) : if (!decide c) = true then A else B := by
  by_cases h : c
  · rw [if_neg (by simp [h])]; exact h2 h
  · rw [if_pos (by simp [h])]; exact h1 h
theorem w_iteB {c : Bool} {A B : Prop} (h1 : c = true → A) (h2 : c = false → B) : if c = true then A else B := by
  cases c
  · rw [if_neg Bool.false_ne_true]; exact h2 rfl
  · rw [if_pos rfl]; exact h1 rfl
end
/-! ### loops and comprehensions -/
section
variable {K : PySem.W.Frag} {σ : L2.St} {H : Hp} {Q : VK} {D : Ends} {a : Addr} {xs : List V} {g : TG} {tb : TS} {tt : TT} {te tl : TE} {vs : List Nat} {ar : TA}
theorem w_for {wi : TI} (q : wi σ H fun J H1 => ∃ W : Nat → Nat → L2.St → Hp → Prop, (∃ m, W 0 m σ H1) ∧ ∀ i m σ H, W i m σ H →
  (J.stop i H ∧ D.nx σ H) ∨ (J.go i H ∧ ∃ N : L2.St → Hp → Prop, (∀ σ' H', N σ' H' → ∃ m', m' < m ∧ W (i + 1) m' σ' H') ∧ ∀ x H', J.yld i H x H' → g x σ H' fun σ2 H2 => tb { D with nx := N, ct := N, bk := D.nx } σ2 H2)) : tFor wi g tb D σ H := q
theorem w_iList {R : It → Hp → Prop} (q : tl σ H fun x H1 => ∃ a, x = .ref a ∧ (∃ xs, SqL K H1 a xs) ∧ R (Itl K a) H1) : iList K tl σ H R := q
theorem w_iRng {R : It → Hp → Prop} (q : ar σ H fun vs H1 => ∃ j : Int, vs = [.int j] ∧ -(2 ^ 62) ≤ j ∧ j < 2 ^ 62 ∧ R (Itr 0 j.toNat) H1) : iRng1 ar σ H R := q
theorem w_iRng2 {R : It → Hp → Prop} (q : ar σ H fun vs H1 => ∃ i j : Int, vs = [.int i, .int j] ∧ (-(2 ^ 62) ≤ i ∧ i < 2 ^ 62 ∧ -(2 ^ 62) ≤ j ∧ j < 2 ^ 62) ∧ R (Itr i (j - i).toNat) H1) : iRng2 ar σ H R := q
/-- the loop over the list at a: an invariant over turn, slots, heap -/
theorem w_forL (Pv : Nat → L2.St → Hp → Prop) (hS : SqL K H a xs) (h0 : Pv 0 σ H) (hl : ∀ i σ H, i ≤ xs.length → Pv i σ H → SqL K H a xs)
    (hs : ∀ i x σ H, xs[i]? = some x → Pv i σ H → g x σ H fun σ2 H2 => tb { D with nx := Pv (i + 1), ct := Pv (i + 1), bk := D.nx } σ2 H2) (hd : ∀ σ H, Pv xs.length σ H → D.nx σ H) :
    ∃ a', V.ref a = .ref a' ∧ (∃ xs, SqL K H a' xs) ∧ ∃ W : Nat → Nat → L2.St → Hp → Prop, (∃ m, W 0 m σ H) ∧ ∀ i m σ H, W i m σ H →
      ((Itl K a').stop i H ∧ D.nx σ H) ∨ ((Itl K a').go i H ∧ ∃ N : L2.St → Hp → Prop, (∀ σ' H', N σ' H' → ∃ m', m' < m ∧ W (i + 1) m' σ' H') ∧ ∀ x H', (Itl K a').yld i H x H' → g x σ H' fun σ2 H2 => tb { D with nx := N, ct := N, bk := D.nx } σ2 H2) :=
  ⟨a, rfl, ⟨_, hS⟩, for_list Pv h0 hl hs hd⟩
theorem w_forR {n : Int} (Pv : Nat → L2.St → Hp → Prop) (b1 : -(2 ^ 62) ≤ n) (b2 : n < 2 ^ 62) (h0 : Pv 0 σ H)
    (hs : ∀ i σ H, i < n.toNat → Pv i σ H → g (.int (0 + i)) σ H fun σ2 H2 => tb { D with nx := Pv (i + 1), ct := Pv (i + 1), bk := D.nx } σ2 H2) (hd : ∀ σ H, Pv n.toNat σ H → D.nx σ H) :
    ∃ j : Int, [V.int n] = [V.int j] ∧ -(2 ^ 62) ≤ j ∧ j < 2 ^ 62 ∧ ∃ W : Nat → Nat → L2.St → Hp → Prop, (∃ m, W 0 m σ H) ∧ ∀ i m σ H, W i m σ H →
      ((Itr 0 j.toNat).stop i H ∧ D.nx σ H) ∨ ((Itr 0 j.toNat).go i H ∧ ∃ N : L2.St → Hp → Prop, (∀ σ' H', N σ' H' → ∃ m', m' < m ∧ W (i + 1) m' σ' H') ∧ ∀ x H', (Itr 0 j.toNat).yld i H x H' → g x σ H' fun σ2 H2 => tb { D with nx := N, ct := N, bk := D.nx } σ2 H2) :=
  ⟨n, rfl, b1, b2, for_range Pv h0 hs hd⟩
theorem w_lc {wi : TI} (q : wi σ H fun J H1 => ∀ D, H1 D = none → ∃ W : Nat → Nat → Hp → Prop, (∃ m, W 0 m (upd H1 D (.lst []))) ∧ ∀ i m H, W i m H →
  (J.stop i H ∧ Q (.ref D) H) ∨ (J.go i H ∧ ∃ Nx : Hp → Prop, (∀ H', Nx H' → ∃ m', m' < m ∧ W (i + 1) m' H') ∧ ∀ x H', J.yld i H x H' → g x (wipe σ vs) H' fun σ2 H2 => wipe σ2 vs = wipe σ vs ∧ tt σ2 H2 fun b H3 =>
    if b = true then te σ2 H3 fun y H4 => ∃ acc, H4 D = some (.lst acc) ∧ acc.length < sizeLine ∧ Nx (upd H4 D (.lst (acc ++ [y]))) else Nx H3)) : tLc wi g tt te vs σ H Q := q
theorem w_yes {Qb : Bool → Hp → Prop} (q : Qb true H) : tYes σ H Qb := q
/-- a comprehension over the list at a, in general -/
theorem w_lcL {Rq : Addr → Hp → Prop} (Pv : Addr → Nat → Hp → Prop) (hS : SqL K H a xs) (h0 : ∀ C, H C = none → Pv C 0 (upd H C (.lst []))) (hl : ∀ C i H', H C = none → i ≤ xs.length → Pv C i H' → SqL K H' a xs)
    (hs : ∀ C i x H', H C = none → xs[i]? = some x → Pv C i H' → g x (wipe σ vs) H' fun σ2 H2 => wipe σ2 vs = wipe σ vs ∧ tt σ2 H2 fun b H3 =>
      if b = true then te σ2 H3 fun y H4 => ∃ acc, H4 C = some (.lst acc) ∧ acc.length < sizeLine ∧ Pv C (i + 1) (upd H4 C (.lst (acc ++ [y]))) else Pv C (i + 1) H3) (hd : ∀ C H', H C = none → Pv C xs.length H' → Rq C H') :
    ∃ a', V.ref a = .ref a' ∧ (∃ xs, SqL K H a' xs) ∧ ∀ C, H C = none → ∃ W : Nat → Nat → Hp → Prop, (∃ m, W 0 m (upd H C (.lst []))) ∧ ∀ i m H, W i m H →
      ((Itl K a').stop i H ∧ Rq C H) ∨ ((Itl K a').go i H ∧ ∃ Nx : Hp → Prop, (∀ H', Nx H' → ∃ m', m' < m ∧ W (i + 1) m' H') ∧ ∀ x H', (Itl K a').yld i H x H' → g x (wipe σ vs) H' fun σ2 H2 => wipe σ2 vs = wipe σ vs ∧ tt σ2 H2 fun b H3 =>
        if b = true then te σ2 H3 fun y H4 => ∃ acc, H4 C = some (.lst acc) ∧ acc.length < sizeLine ∧ Nx (upd H4 C (.lst (acc ++ [y]))) else Nx H3) :=
  ⟨a, rfl, ⟨_, hS⟩, fun C hC => lc_list (Pv C) (h0 C hC) (fun i H' hi p => hl C i H' hC hi p) (fun i x H' hx p => hs C i x H' hC hx p) fun H' p => hd C H' hC p⟩
theorem w_lcR {Rq : Addr → Hp → Prop} {n : Int} (Pv : Addr → Nat → Hp → Prop) (b1 : -(2 ^ 62) ≤ n) (b2 : n < 2 ^ 62) (h0 : ∀ C, H C = none → Pv C 0 (upd H C (.lst [])))
    (hs : ∀ C i H', H C = none → i < n.toNat → Pv C i H' → g (.int (0 + i)) (wipe σ vs) H' fun σ2 H2 => wipe σ2 vs = wipe σ vs ∧ tt σ2 H2 fun b H3 =>
      if b = true then te σ2 H3 fun y H4 => ∃ acc, H4 C = some (.lst acc) ∧ acc.length < sizeLine ∧ Pv C (i + 1) (upd H4 C (.lst (acc ++ [y]))) else Pv C (i + 1) H3) (hd : ∀ C H', H C = none → Pv C n.toNat H' → Rq C H') :
    ∃ j : Int, [V.int n] = [V.int j] ∧ -(2 ^ 62) ≤ j ∧ j < 2 ^ 62 ∧ ∀ C, H C = none → ∃ W : Nat → Nat → Hp → Prop, (∃ m, W 0 m (upd H C (.lst []))) ∧ ∀ i m H, W i m H →
      ((Itr 0 j.toNat).stop i H ∧ Rq C H) ∨ ((Itr 0 j.toNat).go i H ∧ ∃ Nx : Hp → Prop, (∀ H', Nx H' → ∃ m', m' < m ∧ W (i + 1) m' H') ∧ ∀ x H', (Itr 0 j.toNat).yld i H x H' → g x (wipe σ vs) H' fun σ2 H2 => wipe σ2 vs = wipe σ vs ∧ tt σ2 H2 fun b H3 =>
        if b = true then te σ2 H3 fun y H4 => ∃ acc, H4 C = some (.lst acc) ∧ acc.length < sizeLine ∧ Nx (upd H4 C (.lst (acc ++ [y]))) else Nx H3) :=
  ⟨n, rfl, b1, b2, fun C hC => lc_range (Pv C) (h0 C hC) (fun i H' hi p => hs C i H' hC hi p) fun H' p => hd C H' hC p⟩
/-- what stands behind i items, where each gives a value or none and nothing else changes -/
def LcF (H : Hp) (xs : List V) (f : V → Option V) (C : Addr) (i : Nat) (H' : Hp) : Prop := Same H H' ∧ H' C = some (.lst ((xs.take i).filterMap f))
theorem take_succ' {α : Type} {xs : List α} {i : Nat} {x : α} (h : xs[i]? = some x) : xs.take (i + 1) = xs.take i ++ [x] := by
  rw [List.take_add_one, h]; rfl
theorem lcF_0 {f : V → Option V} {C : Addr} (h : H C = none) : LcF H xs f C 0 (upd H C (.lst [])) := ⟨same_new h _, by rw [upd_same]; rfl⟩
theorem lcF_yes {f : V → Option V} {C : Addr} {i : Nat} {x y : V} {H4 : Hp} (p : LcF H xs f C i H4) (h : H C = none) (hx : xs[i]? = some x) (hf : f x = some y) (hz : xs.length ≤ 100000) :
    ∃ acc, H4 C = some (.lst acc) ∧ acc.length < sizeLine ∧ LcF H xs f C (i + 1) (upd H4 C (.lst (acc ++ [y]))) := by
  refine ⟨_, p.2, ?_, same_mut p.1 h, ?_⟩
  · have h1 := List.length_filterMap_le f (xs.take i)
    rw [List.length_take] at h1
    have h2 := sizeLine_eq
    omega
  · rw [upd_same, take_succ' hx, List.filterMap_append, List.filterMap_cons_some hf]; rfl
theorem lcF_no {f : V → Option V} {C : Addr} {i : Nat} {x : V} {H4 : Hp} (p : LcF H xs f C i H4) (hx : xs[i]? = some x) (hf : f x = none) : LcF H xs f C (i + 1) H4 := by
  refine ⟨p.1, ?_⟩
  rw [p.2, take_succ' hx, List.filterMap_append, List.filterMap_cons_none hf, List.filterMap_nil, List.append_nil]
end
/-! ### isinstance; == of lists of ints -/
section
variable {X : Cx} {K : PySem.W.Frag} {H : Hp} {Q : VK} {a b : Addr} {ns ms : List Int} {x : V}
theorem w_isi {n t : String} {r : Bool} (ty : TyX K H x (.type t)) (k : kitB t n = some r) (q : Q (.bl r) H) : rIsi K [x, .ty n] H Q := ⟨_, _, _, _, _, rfl, ClsV.ty n, ty, kit_ty k, q⟩
theorem dpAll_ints : ∀ ns : List Int, DpAll K H (ns.map V.int) (ns.map PyData.int)
  | [] => .nil
  | n :: r => .cons (.int n) (dpAll_ints r)
theorem eqvAll_ints : ∀ ns ms : List Int, PyData.eqvAll (ns.map PyData.int) (ms.map PyData.int) = decide (ns = ms)
  | [], [] => by simp [PyData.eqvAll]
  | [], _ :: _ => by simp [PyData.eqvAll]
  | _ :: _, [] => by simp [PyData.eqvAll]
  | n :: r, k :: q => by
    simp only [List.map_cons, PyData.eqvAll, PyData.eqv, eqvAll_ints r q]
    by_cases h : n = k <;> simp [h]
theorem eqv_ints : PyData.eqv (.list (ns.map PyData.int)) (.list (ms.map PyData.int)) = decide (ns = ms) := by
  rw [PyData.eqv]; exact eqvAll_ints ns ms
def rEqI (K : PySem.W.Frag) : R2 := fun x y H Q => ∃ (a b : Addr) (ns ms : List Int), x = .ref a ∧ y = .ref b ∧ SqL K H a (ns.map V.int) ∧ SqL K H b (ms.map V.int) ∧ Q (.bl (decide (ns = ms))) H
def rNeI (K : PySem.W.Frag) : R2 := fun x y H Q => ∃ (a b : Addr) (ns ms : List Int), x = .ref a ∧ y = .ref b ∧ SqL K H a (ns.map V.int) ∧ SqL K H b (ms.map V.int) ∧ Q (.bl (!decide (ns = ms))) H
theorem op_eqLI (hu : X.A.units + 64 < cLine) : OpR X (compareOp .Eq) (rEqI X.K) := fun pins s σ H x y v u Q I rx ry h => by
  obtain ⟨a, b, ns, ms, rfl, rfl, h1, h2, q⟩ := h
  exact op_eqD hu pins s σ H _ _ v u Q I rx ry ⟨_, _, .lst h1 (dpAll_ints ns), .lst h2 (dpAll_ints ms), PySem.W.shaped_ints ns, PySem.W.shaped_ints ms, by rw [eqv_ints]; exact q⟩
theorem op_neLI (hu : X.A.units + 64 < cLine) : OpR X (compareOp .NotEq) (rNeI X.K) := fun pins s σ H x y v u Q I rx ry h => by
  obtain ⟨a, b, ns, ms, rfl, rfl, h1, h2, q⟩ := h
  exact op_neD hu pins s σ H _ _ v u Q I rx ry ⟨_, _, .lst h1 (dpAll_ints ns), .lst h2 (dpAll_ints ms), PySem.W.shaped_ints ns, PySem.W.shaped_ints ms, by rw [eqv_ints]; exact q⟩
theorem w_eqLI (h1 : SqL K H a (ns.map V.int)) (h2 : SqL K H b (ms.map V.int)) (q : Q (.bl (decide (ns = ms))) H) : rEqI K (.ref a) (.ref b) H Q := ⟨_, _, _, _, rfl, rfl, h1, h2, q⟩
theorem w_neLI (h1 : SqL K H a (ns.map V.int)) (h2 : SqL K H b (ms.map V.int)) (q : Q (.bl (!decide (ns = ms))) H) : rNeI K (.ref a) (.ref b) H Q := ⟨_, _, _, _, rfl, rfl, h1, h2, q⟩
theorem w_wip {σ σ' : L2.St} {vs : List Nat} {R : Prop} (h : wipe σ vs = wipe σ' vs) (q : R) : wipe σ vs = wipe σ' vs ∧ R := ⟨h, q⟩
theorem map_at {ns : List Int} {i : Nat} {x : V} (h : (ns.map V.int)[i]? = some x) : ∃ n, ns[i]? = some n ∧ x = .int n := by
  rw [List.getElem?_map] at h
  obtain ⟨t, ht, e⟩ := Option.map_eq_some_iff.mp h
  exact ⟨t, ht, e.symm⟩
theorem at_ints {ns : List Int} {k : Int} (h0 : 0 ≤ k) (h : k < (ns.length : Int)) : atI (ns.map V.int) k = some (V.int (ns.getD k.toNat 0)) := by
  refine at_of (j := k.toNat) (by omega) ?_
  rw [List.getElem?_map, List.getElem?_eq_getElem (by omega)]
  simp [List.getD, List.getElem?_eq_getElem (show k.toNat < ns.length by omega)]
theorem at_nat {xs : List V} {k : Int} {i : Nat} {v : V} (e : k = (i : Int)) (h : xs[i]? = some v) : atI xs k = some v := at_of e h
end
theorem kit_ll : kitB "list" "list" = some true := by decide +kernel
theorem kit_ii : kitB "int" "int" = some true := by decide +kernel
theorem kit_ib : kitB "int" "bool" = some false := by decide +kernel
theorem kit_bb : kitB "bool" "bool" = some true := by decide +kernel
theorem kit_tt : kitB "tuple" "tuple" = some true := by decide +kernel
theorem kit_ss : kitB "str" "str" = some true := by decide +kernel
theorem w_cut {t u : TS} {D : Ends} {σ : L2.St} {H : Hp} (Mid : L2.St → Hp → Prop) (h1 : t { D with nx := Mid } σ H) (h2 : ∀ σ' H', Mid σ' H' → u D σ' H') : C8.tCut t u D σ H := ⟨Mid, h1, h2⟩
section
variable {n : L2.St → Hp → Prop} {r : VK} {b c : L2.St → Hp → Prop} {σ : L2.St} {H : Hp} {v : V}
theorem w_nx (q : n σ H) : (Ends.mk n r b c).nx σ H := q
theorem w_rt (q : r v H) : (Ends.mk n r b c).rt v H := q
theorem w_bk (q : b σ H) : (Ends.mk n r b c).bk σ H := q
theorem w_ct (q : c σ H) : (Ends.mk n r b c).ct σ H := q
end
end Mn

namespace Mn
open PySem PySem.Spec PyProof.Rows L2
theorem ltb {n : Nat} (h : Nat.blt n 1000 = true) : n < 1000 := Nat.le_of_ble_eq_true h
/-! ### classes: their attributes -/
structure ClsF (K : PySem.W.Frag) (C : Addr) (fs : List Str) : Prop where
  cl : Cls K C
  no : ∀ f ∈ fs, NoAttr K C f
/-- Class.m(self, ..) -/
structure CMt (P : Program) (w : World) (K : PySem.W.Frag) (mg : Str → Option Value) (base : Heap) (CX : CXT) (x m : Str) (k : Nat) (ps : List Str) (dvs : List V) (sp : Sp) : Prop where
  ex : ∃ (C f : Addr) (mc : Value) (fd : FuncData) (ds : List Value), mg x = some (.ref C) ∧ ClX.CRead K C mc ∧ PySem.W.findCls K (.ref C) mc m = some (.val (.ref f)) ∧ FnOk P w K mg base CX k f fd ps sp ∧ PySem.W.keepIn K (.ref f) = true ∧ Binds K fd ps ds ∧ Vals dvs ds
section
variable {X : Cx} {P : Program} {w : World} {K : PySem.W.Frag} {mg : Str → Option Value} {base : Heap} {CX : CXT} {k : Nat} {E : XK} {x m : Str} {p pos apos : Pos} {e o : Expr} {es : List Expr} {ta : TE} {t : TA}
def tCMA (P : Program) (w : World) (K : PySem.W.Frag) (mg : Str → Option Value) (base : Heap) (CX : CXT) (x m : Str) (k : Nat) (E : XK) (t : TA) : TE := fun σ H Q => ∃ j ps dvs sp, CMt P w K mg base CX x m j ps dvs sp ∧ j ≤ k ∧ t σ H fun vs H1 => sp (vs ++ dvs) H1 Q E
theorem pe_cma {pl : Sem Bool} (hX : Sx X P w K mg base) (hr : Room k X.A) (hg : Gl X x) (ha : PA X (e :: es) t) (hdb : (x == ("__debug__" : Str)) = false := by decide)
    (hst : starEach (e :: es) X.env = (false, eval e X.env) :: starEach es X.env := by rfl) (hpl : (backTo pos (starEach es X.env)).any (·.1) = false := by rfl)
    (ht : eval (.Call (.Attribute (.Name x p) m apos) (e :: es) [] pos) X.env = (do
      let ov ← eval (.Name x p) X.env
      standAt apos.atName
      let (f, first) ← holding [ov] (getMethod ov m pl)
      callWith pos f first (backTo pos (starEach (e :: es) X.env)) (backToKw pos (keywordEach [] X.env))) := by rfl) :
    PE X (.Call (.Attribute (.Name x p) m apos) (e :: es) [] pos) (tCMA P w K mg base CX0 x m k E0 t) := by
  obtain ⟨rfl, rfl, rfl, rfl, rfl⟩ := hX
  refine ⟨fun pins s σ H Q I h => ?_⟩
  obtain ⟨j, ps, dvs, sp, M, hj, h⟩ := h
  obtain ⟨C, f, mc, fd, ds, hm, rd, fc, F, hk, hb, hd⟩ := M.ex
  refine PySem.W.methodCall_KW (pl := pl) (ld_glob I hg hm ?_ hdb) ht
  refine PySem.W.method_cls I.kIn rd.ga (ClX.getcval_ok (v := V.ref f) (u := Value.ref f) I rd ⟨fc, rfl⟩ fun s1 I1 => ?_)
  refine PySem.W.callWith_K (first := []) (h₀ := X.base) I.ok.mod.kin hk (thn (ha.run pos pins s1 σ H _ I1 h) fun us s2 ⟨vs, H2, I2, r, q2⟩ => ⟨I2.kIn, ?_⟩) hst hpl
  exact run_fn F (hr.mono hj) hb hd pass0 I2 r q2
theorem w_cma {σ : L2.St} {H : Hp} {Q : VK} {j : Nat} {ps : List Str} {dvs : List V} {sp : Sp} (c : CMt P w K mg base CX x m j ps dvs sp) (hj : j ≤ k) (q : t σ H fun vs H1 => sp (vs ++ dvs) H1 Q E) : tCMA P w K mg base CX x m k E t σ H Q := ⟨_, _, _, _, c, hj, q⟩
theorem w_mka {σ : L2.St} {H : Hp} {Q : VK} {j : Nat} {ps : List Str} {dvs : List V} {sp : Sp} {C : Addr} (c : Mak P w K mg base CX x C j ps dvs sp) (hj : j + 1 ≤ k) (q : t σ H fun vs H1 => ∀ x dx, H1 x = none → H1 dx = none → dx ≠ x →
  sp (.ref x :: (vs ++ dvs)) (upd (upd H1 dx (.own x)) x (.ins C dx [])) (fun v H2 => v = .non ∧ Q (.ref x) H2) E) : tMkA P w K mg base CX x k E t σ H Q := ⟨_, _, _, _, _, c, hj, q⟩
theorem w_ma {σ : L2.St} {H : Hp} {Q : VK} (q : ta σ H fun xv H1 => ∃ a C dx fs j ps dvs sp, xv = .ref a ∧ H1 a = some (.ins C dx fs) ∧ Cls K C ∧ fs.lookup m = none ∧ Mth P w K mg base CX C m j ps dvs sp ∧ j ≤ k ∧
  t σ H1 fun vs H2 => sp (xv :: (vs ++ dvs)) H2 Q E) : tMA P w K mg base CX m k E ta t σ H Q := q
theorem w_ma1 {H : Hp} {a C dx : Addr} {fs : List (Str × V)} {j : Nat} {ps : List Str} {dvs : List V} {sp : Sp} {R : List V → Sp → Prop} (h : H a = some (.ins C dx fs)) (c : Cls K C) (l : fs.lookup m = none)
    (M : Mth P w K mg base CX C m j ps dvs sp) (hj : j ≤ k) (q : R dvs sp) : ∃ a' C dx fs j ps dvs sp, V.ref a = .ref a' ∧ H a' = some (.ins C dx fs) ∧ Cls K C ∧ fs.lookup m = none ∧ Mth P w K mg base CX C m j ps dvs sp ∧ j ≤ k ∧ R dvs sp :=
  ⟨_, _, _, _, _, _, _, _, rfl, h, c, l, M, hj, q⟩
end
/-! ### lists of texts, is of bools, += -/
section
variable {X : Cx} {K : PySem.W.Frag} {H : Hp} {Q : VK} {a b : Addr} {ns ms : List Str} {x y : V} {D : Ends} {σ : L2.St} {te : TE} {n : Nat} {i j : Int} {p : Bool} {q : Bool}
theorem dpAll_strs : ∀ ns : List Str, DpAll K H (ns.map V.str) (ns.map PyData.str)
  | [] => .nil
  | n :: r => .cons (.str n) (dpAll_strs r)
theorem eqvAll_strs : ∀ ns ms : List Str, PyData.eqvAll (ns.map PyData.str) (ms.map PyData.str) = decide (ns = ms)
  | [], [] => by simp [PyData.eqvAll]
  | [], _ :: _ => by simp [PyData.eqvAll]
  | _ :: _, [] => by simp [PyData.eqvAll]
  | n :: r, k :: q => by
    simp only [List.map_cons, PyData.eqvAll, PyData.eqv, eqvAll_strs r q]
    by_cases h : n = k <;> simp [h]
def okStrs (ns : List Str) : Bool := ns.all PyData.strOk
theorem canLay_strs : ∀ ns : List Str, okStrs ns = true → PyData.canLayAll0 (ns.map PyData.str) = true
  | [], _ => by simp [PyData.canLayAll0]
  | n :: r, h => by
    simp only [okStrs, List.all_cons, Bool.and_eq_true] at h
    simp only [List.map_cons, PyData.canLayAll0, PyData.canLay0, Bool.and_eq_true]
    exact ⟨h.1, canLay_strs r h.2⟩
theorem depth_strs : ∀ ns : List Str, PyData.depthAll (ns.map PyData.str) ≤ 1
  | [] => by simp [PyData.depthAll]
  | n :: r => by
    have := depth_strs r
    simp only [List.map_cons, PyData.depthAll, PyData.depth]
    omega
theorem shaped_strs (h : okStrs ns = true) : SeqAt.shaped (.list (ns.map PyData.str)) = true := by
  have h1 := depth_strs ns
  have h2 : PyData.depth (.list (ns.map PyData.str)) ≤ 64 := by simp only [PyData.depth]; omega
  show (PyData.canLay0 (.list (ns.map PyData.str)) && decide (PyData.depth (.list (ns.map PyData.str)) ≤ 64)) = true
  rw [Bool.and_eq_true]
  exact ⟨by simp only [PyData.canLay0]; exact canLay_strs ns h, decide_eq_true h2⟩
def rEqS (K : PySem.W.Frag) : R2 := fun x y H Q => ∃ (a b : Addr) (ns ms : List Str), x = .ref a ∧ y = .ref b ∧ SqL K H a (ns.map V.str) ∧ SqL K H b (ms.map V.str) ∧ okStrs ns = true ∧ okStrs ms = true ∧ Q (.bl (decide (ns = ms))) H
def rNeS (K : PySem.W.Frag) : R2 := fun x y H Q => ∃ (a b : Addr) (ns ms : List Str), x = .ref a ∧ y = .ref b ∧ SqL K H a (ns.map V.str) ∧ SqL K H b (ms.map V.str) ∧ okStrs ns = true ∧ okStrs ms = true ∧ Q (.bl (!decide (ns = ms))) H
theorem op_eqLS (hu : X.A.units + 64 < cLine) : OpR X (compareOp .Eq) (rEqS X.K) := fun pins s σ H x y v u Q I rx ry h => by
  obtain ⟨a, b, ns, ms, rfl, rfl, h1, h2, o1, o2, q⟩ := h
  exact op_eqD hu pins s σ H _ _ v u Q I rx ry ⟨_, _, .lst h1 (dpAll_strs ns), .lst h2 (dpAll_strs ms), shaped_strs o1, shaped_strs o2, by rw [PyData.eqv, eqvAll_strs]; exact q⟩
theorem op_neLS (hu : X.A.units + 64 < cLine) : OpR X (compareOp .NotEq) (rNeS X.K) := fun pins s σ H x y v u Q I rx ry h => by
  obtain ⟨a, b, ns, ms, rfl, rfl, h1, h2, o1, o2, q⟩ := h
  exact op_neD hu pins s σ H _ _ v u Q I rx ry ⟨_, _, .lst h1 (dpAll_strs ns), .lst h2 (dpAll_strs ms), shaped_strs o1, shaped_strs o2, by rw [PyData.eqv, eqvAll_strs]; exact q⟩
theorem w_eqLS (h1 : SqL K H a (ns.map V.str)) (h2 : SqL K H b (ms.map V.str)) (o1 : okStrs ns = true) (o2 : okStrs ms = true) (q : Q (.bl (decide (ns = ms))) H) : rEqS K (.ref a) (.ref b) H Q := ⟨_, _, _, _, rfl, rfl, h1, h2, o1, o2, q⟩
theorem w_neLS (h1 : SqL K H a (ns.map V.str)) (h2 : SqL K H b (ms.map V.str)) (o1 : okStrs ns = true) (o2 : okStrs ms = true) (q : Q (.bl (!decide (ns = ms))) H) : rNeS K (.ref a) (.ref b) H Q := ⟨_, _, _, _, rfl, rfl, h1, h2, o1, o2, q⟩
def rIsBl : R2 := fun x y H Q => ∃ a b, x = .bl a ∧ y = .bl b ∧ Q (.bl (decide (a = b))) H
theorem op_isB : OpR X (compareOp .Is) rIsBl := op_is_bl
theorem w_isBl (h : Q (.bl (decide (p = q))) H) : rIsBl (.bl p) (.bl q) H Q := ⟨_, _, rfl, rfl, h⟩
theorem w_aug {ti : TIp} (h : σ[n]? = some (some x)) (q : te σ H fun y H1 => ti x y H1 fun z H2 => D.nx (σ.set n (some z)) H2) : tAug n te ti D σ H := ⟨_, h, q⟩
theorem w_ipI {f : Int → Int → Int} (q : Q (.int (f i j)) H) : ipI f (.int i) (.int j) H Q := ⟨_, _, rfl, rfl, q⟩
theorem w_tup_at {xs : List V} {i : Int} {k : Nat} {v : V} (e : i = (k : Int)) (h : xs[k]? = some v) : atI xs i = some v := at_of e h
theorem w_sub {to ti : TE} {ts : TSet} {v : V} {Qs : L2.St → Hp → Prop} (q : to σ H fun o H1 => ti σ H1 fun i H2 => ts o i v H2 fun H3 => Qs σ H3) : gSub to ti ts v σ H Qs := q
theorem w_setL {xs : List V} {k : Nat} {r : Addr} {v : V} {Qh : Hp → Prop} (h : H r = some (.lst xs)) (e : ixN xs.length i = some k) (q : Qh (upd H r (.lst (xs.set k v)))) : rSetL (.ref r) (.int i) v H Qh := ⟨_, _, _, _, rfl, rfl, h, e, q⟩
theorem ixN_of {m k : Nat} (e : i = (k : Int)) (h : k < m) : ixN m i = some k := by
  subst e
  unfold ixN
  rw [if_pos (by omega), if_pos (by omega), Int.toNat_natCast]
end
end Mn

namespace Mn
open PySem PySem.Spec PyProof.Rows L2
/-! ### the rules that name the written part, K told ahead -/
section
variable {X : Cx} {K : PySem.W.Frag} {e a b o value : Expr} {es : List Expr} {f name : Str} {pos pos' tpos apos cpos : Pos} {ta tb tv te to : TE} {t : TA} {tg : Expr}
theorem kFld (hK : X.K = K) (he : PE X e ta) (hb : attributeBase e f X.env (eval e X.env) = eval e X.env := by rfl) : PE X (.Attribute e f pos) (tFld K ta f) := hK ▸ pe_fld he hb
theorem kSFld (hK : X.K = K) (ha : PE X o ta) (hv : PE X value tv) (hs : swapsWith value (some (.Attribute o f pos')) pos.line X.env = pure false := by rfl) : PS X (.Assign [.Attribute o f pos'] value pos) (sFld K ta tv f) := hK ▸ ps_fld ha hv hs
theorem kSFldAug {op : Operator} {rd : V → V → Hp → VK → Prop} (hK : X.K = K) (ha : PE X o ta) (hv : PE X value tv) (hop : InOp X op rd) : PS X (.AugAssign (.Attribute o f tpos) op value pos) (sFldAug K ta tv rd f) := hK ▸ ps_fldaug ha hv hop
theorem kIxL (hK : X.K = K) : IxR X (rIxL K) := hK ▸ ix_list
theorem kIxT (hK : X.K = K) : IxR X (rIxT K) := hK ▸ ix_tup
theorem kLenL (hK : X.K = K) : CallR X (.builtin "len") (cLenL K) := hK ▸ call_lenL
theorem kLenT (hK : X.K = K) : CallR X (.builtin "len") (cLenT K) := hK ▸ call_lenT
theorem kListL (hK : X.K = K) : CallR X (.type "list") (cListL K) := hK ▸ call_listL
theorem kSorted (hK : X.K = K) : CallR X (.builtin "sorted") (rSorted K) := hK ▸ cr_sorted
theorem kIsi (hK : X.K = K) : CallR X (.builtin "isinstance") (rIsi K) := hK ▸ call_isi
theorem kPiL (hK : X.K = K) (hl : PE X e te) : PI X tg e (iList K te) := hK ▸ pi_list hl
theorem kPiT (hK : X.K = K) (hl : PE X e te) : PI X tg e (iTup K te) := hK ▸ pi_tup hl
theorem kSlL (hK : X.K = K) : SlR X (rSlL K) := hK ▸ sl_list
theorem kIn (hK : X.K = K) : OpR X (compareOp .In) (rIn K false) := hK ▸ op_in_seq
theorem kNotIn (hK : X.K = K) : OpR X (compareOp .NotIn) (rIn K true) := hK ▸ op_notIn_seq
theorem kEqI (hK : X.K = K) (hu : X.A.units + 64 < cLine) : OpR X (compareOp .Eq) (rEqI K) := hK ▸ op_eqLI hu
theorem kNeI (hK : X.K = K) (hu : X.A.units + 64 < cLine) : OpR X (compareOp .NotEq) (rNeI K) := hK ▸ op_neLI hu
theorem kEqS (hK : X.K = K) (hu : X.A.units + 64 < cLine) : OpR X (compareOp .Eq) (rEqS K) := hK ▸ op_eqLS hu
theorem kNeS (hK : X.K = K) (hu : X.A.units + 64 < cLine) : OpR X (compareOp .NotEq) (rNeS K) := hK ▸ op_neLS hu
theorem kEqD (hK : X.K = K) (hu : X.A.units + 64 < cLine) : OpR X (compareOp .Eq) (rEqD K) := hK ▸ op_eqD hu
theorem kNeD (hK : X.K = K) (hu : X.A.units + 64 < cLine) : OpR X (compareOp .NotEq) (rNeD K) := hK ▸ op_neD hu
theorem kIndex (hK : X.K = K) : MtR X "list.index" (rIndex K) := hK ▸ mt_index
theorem kTup {k : Nat} {n : Nat} {gs : TGs} (hK : X.K = K) (hc : X.calm = true) (h : PGs X es gs)
    (hn : (assignEach es X.env).length = n := by rfl) (hst : (assignEach es X.env).findIdx? (·.1) = none := by rfl) : PG X (.Tuple es k pos) (gTup K n gs) := hK ▸ pg_tup hc h hn hst
theorem kBm {T id : String} {r : V → List V → Hp → VK → Prop} (hK : X.K = K) (pa : PlainAttrs T) (slot : Slot T name id) (hty : typeOf (.builtin id) = pure (.type "method_descriptor")) (hm : MtR X id r) (ho : PE X o to) (ha : PA X (e :: es) t)
    (hbase : attributeBase o name X.env (eval o X.env) = eval o X.env := by rfl)
    (hfew : ((backTo cpos (starEach (e :: es) X.env)).all (fun x => !x.1) && (backToKw cpos (keywordEach [] X.env)).all (fun x => x.1.isSome)
      && decide ((e :: es).length + ([] : List Keyword).length + (if ([] : List Keyword).isEmpty then 0 else 1) < 30)) = true := by rfl)
    (hline : (apos.endLine == cpos.line) = true := by rfl) (hs : starEach (e :: es) X.env = (false, eval e X.env) :: starEach es X.env := by rfl) (hplain : (backTo cpos (starEach es X.env)).any (·.1) = false := by rfl) : PE X (.Call (.Attribute o name apos) (e :: es) [] cpos) (tBM K T r to t) := hK ▸ pe_bm pa slot hty hm ho ha hbase hfew hline hs hplain
theorem kBm0 {T id : String} {r : V → List V → Hp → VK → Prop} (hK : X.K = K) (pa : PlainAttrs T) (slot : Slot T name id) (hty : typeOf (.builtin id) = pure (.type "method_descriptor")) (hm : MtR X id r) (ho : PE X o to)
    (hbase : attributeBase o name X.env (eval o X.env) = eval o X.env := by rfl) (hline : (apos.endLine == cpos.line) = true := by rfl) : PE X (.Call (.Attribute o name apos) [] [] cpos) (tBM0 K T r to) := hK ▸ pe_bm0 pa slot hty hm ho hbase hline
end
end Mn

namespace Mn
open PySem L2
/-! ### texts that can be laid -/
theorem strOk_of (s : String) : PyData.strOk (Str.ofString s) = true := by
  rw [Str.ofString_eq_toList]
  show (List.toArray (s.toList.map Char.toNat)).all (fun n => decide (n < 0x110000)) = true
  rw [List.all_toArray, List.all_map, List.all_eq_true]
  intro c _
  refine decide_eq_true ?_
  have h := c.valid
  show c.val.toNat < 0x110000
  rcases h with h | h
  · exact Nat.lt_trans h (by decide)
  · exact h.2
theorem okStrs_cons {n : Str} {r : List Str} (h : PyData.strOk n = true) (t : okStrs r = true) : okStrs (n :: r) = true := by
  simp only [okStrs, List.all_cons, Bool.and_eq_true] at t ⊢
  exact ⟨h, t⟩
/-- a number whose digits are fewer than 577 -/
def Smol (i : Int) : Prop := i.natAbs.log2 < 1920
theorem smol_of {i : Int} (h : i.natAbs < 2 ^ 64) : Smol i := by
  unfold Smol
  by_cases h0 : i.natAbs = 0
  · rw [h0]; decide
  · have := (Nat.log2_lt h0).mpr h
    omega
abbrev FunS (K : PySem.W.Frag) (x qual : Str) (st : Stmt) (dvs : List V) (f : Addr) (fd : FuncData) : Prop := FunD K x qual (defArgs st) (defBody st) (defScope st) dvs [] f fd
/-! ### names of the module, x in a tuple | list -/
section
variable {K : PySem.W.Frag} {mg : Str → Option Value} {σ : L2.St} {H : Hp} {Q : VK} {x : Str} {v y : V} {u : Value} {p : Addr} {xs : List V}
theorem w_gv (h : mg x = some u) (r : RelV v u) (q : Q v H) : tGv mg x σ H Q := ⟨v, u, h, r, q⟩
theorem w_inT (h : SqT K H p xs) (fx : flatV y = true) (fs : xs.all flatV = true) (q : Q (.bl (inV y xs)) H) : rIn K false y (.ref p) H Q := ⟨p, xs, rfl, .inr h, fx, fs, q⟩
theorem w_inL (h : SqL K H p xs) (fx : flatV y = true) (fs : xs.all flatV = true) (q : Q (.bl (inV y xs)) H) : rIn K false y (.ref p) H Q := ⟨p, xs, rfl, .inl h, fx, fs, q⟩
theorem w_ninT (h : SqT K H p xs) (fx : flatV y = true) (fs : xs.all flatV = true) (q : Q (.bl (!inV y xs)) H) : rIn K true y (.ref p) H Q := ⟨p, xs, rfl, .inr h, fx, fs, q⟩
theorem w_ninL (h : SqL K H p xs) (fx : flatV y = true) (fs : xs.all flatV = true) (q : Q (.bl (!inV y xs)) H) : rIn K true y (.ref p) H Q := ⟨p, xs, rfl, .inl h, fx, fs, q⟩
end
theorem inV2 (x a b : Str) : inV (.str x) [.str a, .str b] = (decide (x = a) || decide (x = b)) := by
  unfold inV
  simp only [List.any_cons, List.any_nil, Bool.or_false]
  have e : ∀ a : Str, eqV (.str a) (.str x) = decide (x = a) := fun a => by
    show decide (a = x) = decide (x = a)
    exact decide_eq_decide.mpr ⟨Eq.symm, Eq.symm⟩
  rw [e, e]
theorem inV_int {z : Int} {l : List Int} : inV (.int z) (l.map V.int) = decide (z ∈ l) := by
  rw [Bool.eq_iff_iff, decide_eq_true_eq]
  unfold inV
  rw [List.any_map, List.any_eq_true]
  constructor
  · rintro ⟨y, hy, e⟩
    have e : decide (y = z) = true := e
    rw [← of_decide_eq_true e]
    exact hy
  · exact fun h => ⟨z, h, decide_eq_true rfl⟩
end Mn

/-! ### errors of own classes: raised, caught, handed to a def in the suite -/
namespace Mn
open PySem PySem.Spec PyProof.Rows L2 L2H
/-- the wish of a def's caller, slots aside -/
abbrev wE (E : XK) : WX := fun c d _ H => E c d H
abbrev CXN (P : Program) (w : World) : CXT := L2N.CX P w
section
variable {X : Cx} {P : Program} {w : World} {K : PySem.W.Frag} {mg : Str → Option Value} {base : Heap} {k : Nat} {W : WX} {x m : Str} {p pos apos : Pos} {e o : Expr} {es : List Expr} {ta : TE} {t : TA}
/-- f(e, ..) of a def that may raise; W takes what it lets out -/
def tCE (P : Program) (w : World) (K : PySem.W.Frag) (mg : Str → Option Value) (base : Heap) (x : Str) (k : Nat) (W : WX) (t : TA) : TE := fun σ H Q => ∃ j ps dvs sp, Cal P w K mg base (CXN P w) x j ps dvs sp ∧ j ≤ k ∧ t σ H fun vs H1 => sp (vs ++ dvs) H1 Q (WE W σ)
theorem pe_cae (hX : Sx X P w K mg base) (hr : Room k X.A) (hg : Gl X x) (tk : L2N.Takes X W) (ha : PA X (e :: es) t) (hdb : (x == ("__debug__" : Str)) = false := by decide) (he : starEach (e :: es) X.env = (false, eval e X.env) :: starEach es X.env := by rfl)
    (hpl : (backTo pos (starEach es X.env)).any (·.1) = false := by rfl) : PE X (.Call (.Name x p) (e :: es) [] pos) (tCE P w K mg base x k W t) := by
  obtain ⟨rfl, rfl, rfl, rfl, rfl⟩ := hX
  refine ⟨fun pins s σ H Q I h => ?_⟩
  obtain ⟨j, ps, dvs, sp, C, hj, h⟩ := h
  obtain ⟨f, fd, ds, F, hm, hk, hb, hd⟩ := C.ex
  refine wpAny_Call_Name_kw (ld_glob I hg hm ?_ hdb)
  refine PySem.W.callWith_K (h₀ := X.base) I.ok.mod.kin hk (thn (ha.run pos pins s σ H _ I h) fun us s1 ⟨vs, H1, I1, r, q⟩ => ⟨I1.kIn, ?_⟩) he hpl
  exact run_fnSD F (hr.mono hj) hb hd (L2N.passAt tk σ) I1 r q
theorem w_cae {σ : L2.St} {H : Hp} {Q : VK} {j : Nat} {ps : List Str} {dvs : List V} {sp : Sp} (c : Cal P w K mg base (CXN P w) x j ps dvs sp) (hj : j ≤ k) (q : t σ H fun vs H1 => sp (vs ++ dvs) H1 Q (WE W σ)) : tCE P w K mg base x k W t σ H Q := ⟨_, _, _, _, c, hj, q⟩
end
/-! ### a def that the suite calls with the error that it holds -/
/-- its promise may speak of the error's address and class -/
structure FnE (P : Program) (w : World) (K : PySem.W.Frag) (mg : Str → Option Value) (base : Heap) (k : Nat) (f : Addr) (fd : FuncData) (ps : List Str) (sp : Addr → Value → Option Addr → Sp) : Prop where
  len : ∀ a c d vs H Q E, sp a c d vs H Q E → vs.length = ps.length
  run : ∀ (A : Around) (outer : List Env) (s : Shared) (H : Hp) (args : Args) (us : List Value) (vs : List V) (Q : VK) (E : XK) (q : Addr × Obj) (c : Value) (d : Option Addr), RoomH k A → Hot1 A q → L2N.Zn c d q.2 → PinOk outer H s q → Env0 P w K mg base A outer s H →
    BindsTo s fd args (ps.zip us) → Vals vs us → sp q.1 c d vs H Q E → codeAny (model P w) A (.call (.ref f) args) (CR CX0 outer P w H s Q E) s
theorem hot_fields {A : Around} {q : Addr × Obj} (h : Hot1 A q) : ∃ vs, q.2.data = .fields vs := ⟨_, h.2.choose_spec.1⟩
/-- the rule for such a def -/
theorem fnE_of {P : Program} {w : World} {K : PySem.W.Frag} {mg : Str → Option Value} {base : Heap} {k : Nat} {x qual : Str} {st : Stmt} {f : Addr} {fd : FuncData} {N ps : List Str} {sp : Addr → Value → Option Addr → Sp} (F : Fun K x qual st f fd) (S : FnScope N ps (defScope st))
    (len : ∀ a c d vs H Q E, sp a c d vs H Q E → vs.length = ps.length)
    (hbody : ∀ (cdv : Value) (A : Around) (outer : List Env) (s : Shared) (H : Hp) (vs : List V) (Q : VK) (E : XK) (q : Addr × Obj) (c : Value) (d : Option Addr), Hot1 A q → L2N.Zn c d q.2 → RoomH k (A.deeper (envOfC qual (defScope st) s.heap.objs.size f cdv)) → sp q.1 c d vs H Q E →
      ∃ t, PSs (cxH CX0 P w K mg base N qual (defScope st) f cdv A outer s H E q) (defBody st) t ∧ t { nx := fun _ H' => Q .non H', rt := Q } (L2.start N vs) H) : FnE P w K mg base (k + 1) f fd ps sp := by
  obtain ⟨oc, od, kV, doc, pm, an, cdv, ct, osl, rfl, lk, hcd⟩ := F.ex
  refine ⟨len, fun A outer s H args us vs Q E q c d hr hot hz hpin e0 hb r hsp => ?_⟩
  -- the def is found, its frame is made
  have inK : K.In s.heap := e0.mod.kin.keeps fun b o z => (e0.bs b o z).1
  have noLim : s.heap.NoLimit := e0.mod.nolimit.keeps fun b o z => (e0.bs b o z).1
  refine codeAny_call_function hr.depth (inK _ _ lk) rfl S.co S.gen rfl (PySem.W.codeRec_of inK hcd) (hb _ _ _ _ ?_)
  refine wpAny_newFunctionEnv_cells S.kind (fun y hy => ?_) fun env he s1 z => ?_
  · rcases S.par y.1 (List.of_mem_zip hy).1 with loc | cell
    · exact .inl loc
    · exact .inr ⟨cell, PySem.W.cellsFrom_some _ _ _ (.inl cell)⟩
  subst he
  refine ⟨noLim.keeps z.toInCall.keep, codeAny_func ?_⟩
  -- its body
  obtain ⟨t, ht, hq⟩ := hbody cdv A outer s H vs Q E q c d hot hz (hr.deeper _) hsp
  have I := inv_startH (CX := CX0) (E := E) S hpin e0 (len _ _ _ _ _ _ _ hsp) r z
  refine wpAny_mono (ht.run [] s1 (L2.start N vs) H _ I hq) (fun fl s' hs => ?_) fun _ _ hs => hs
  cases fl with
  | brk => exact hs.choose_spec.choose_spec.2.elim
  | cont => exact hs.choose_spec.choose_spec.2.elim
  | next =>
    obtain ⟨σ', H', J, q'⟩ := hs
    exact ⟨V.non, H', J.os, J.bare, J.base, J.hok, rfl, q'⟩
  | ret u =>
    obtain ⟨v, σ', H', J, rv, q'⟩ := hs
    exact ⟨v, H', J.os, J.bare, J.base, J.hok, rv, q'⟩
structure CalE (P : Program) (w : World) (K : PySem.W.Frag) (mg : Str → Option Value) (base : Heap) (x : Str) (k : Nat) (ps : List Str) (sp : Addr → Value → Option Addr → Sp) : Prop where
  ex : ∃ (f : Addr) (fd : FuncData), FnE P w K mg base k f fd ps sp ∧ mg x = some (.ref f) ∧ PySem.W.keepIn K (.ref f) = true ∧ Binds K fd ps []
section
variable {X : Cx} {P : Program} {w : World} {K : PySem.W.Frag} {mg : Str → Option Value} {base : Heap} {k : Nat} {x : Str} {p pos : Pos} {e : Expr} {es : List Expr} {t : TA} {q : Addr × Obj} {c : Value} {d : Option Addr}
def tCH (P : Program) (w : World) (K : PySem.W.Frag) (mg : Str → Option Value) (base : Heap) (x : Str) (k : Nat) (a : Addr) (c : Value) (d : Option Addr) (t : TA) : TE := fun σ H Q => ∃ j ps sp, CalE P w K mg base x j ps sp ∧ j ≤ k ∧ t σ H fun vs H1 => sp a c d vs H1 Q E0
theorem pe_cah (hX : Sx X P w K mg base) (hr : RoomH k X.A) (hot : Hot1 X.A q) (hq : q ∈ X.pn) (hz : L2N.Zn c d q.2) (hg : Gl X x) (ha : PA X (e :: es) t) (hdb : (x == ("__debug__" : Str)) = false := by decide)
    (he : starEach (e :: es) X.env = (false, eval e X.env) :: starEach es X.env := by rfl) (hpl : (backTo pos (starEach es X.env)).any (·.1) = false := by rfl) : PE X (.Call (.Name x p) (e :: es) [] pos) (tCH P w K mg base x k q.1 c d t) := by
  obtain ⟨rfl, rfl, rfl, rfl, rfl⟩ := hX
  refine ⟨fun pins s σ H Q I h => ?_⟩
  obtain ⟨j, ps, sp, C, hj, h⟩ := h
  obtain ⟨f, fd, F, hm, hk, hb⟩ := C.ex
  refine wpAny_Call_Name_kw (ld_glob I hg hm ?_ hdb)
  refine PySem.W.callWith_K (h₀ := X.base) I.ok.mod.kin hk (thn (ha.run pos pins s σ H _ I h) fun us s1 ⟨vs, H1, I1, r, h1⟩ => ⟨I1.kIn, ?_⟩) he hpl
  -- the error stands where nothing else reaches
  have at_ := I1.pin q (List.mem_append_left _ hq)
  have pin : PinOk X.stack H1 s1 q := ⟨at_.1, at_.2.1, fun z => (List.mem_cons.mp (I1.stkSub q.1 z)).elim at_.2.2.1 at_.2.2.2.1, at_.2.2.2.2⟩
  have n : us.length = ps.length := r.length.symm.trans (F.len _ _ _ _ _ _ _ h1)
  have b := hb s1 us I1.kIn (by rw [List.append_nil]; exact n)
  rw [List.append_nil] at b
  refine wpAny_call (codeAny_mono (F.run X.A X.stack s1 H1 ⟨us, []⟩ us vs Q E0 q c d (hr.mono hj) hot hz pin I1.env0 b r h1) fun z s' hs => ?_)
  cases z with
  | error _ => exact hs.elim
  | ok fl => cases fl with
    | ret u => exact I1.after hs
    | next => exact hs.elim
    | brk => exact hs.elim
    | cont => exact hs.elim
theorem w_cah {σ : L2.St} {H : Hp} {Q : VK} {j : Nat} {ps : List Str} {sp : Addr → Value → Option Addr → Sp} {a : Addr} (C : CalE P w K mg base x j ps sp) (hj : j ≤ k) (h : t σ H fun vs H1 => sp a c d vs H1 Q E0) : tCH P w K mg base x k a c d t σ H Q := ⟨_, _, _, C, hj, h⟩
/-- isinstance(e, c) where the error is pinned -/
theorem call_isP {D : Addr} (hq : q ∈ X.pn) (C : ExcC X.K D) (hz : Zc (.ref D) none q.2) (hf : ∃ vs, q.2.data = .fields vs) : CallR X (.builtin "isinstance") (rIsE X.K D q.1) := by
  intro pins s σ H xs us Q I r h
  obtain ⟨c, cv, b, rfl, hcv, hk, h⟩ := h
  obtain ⟨vs, hv⟩ := hf
  have g := (I.pin q (List.mem_append_left _ hq)).1
  have J : PySem.W.InstAt s.heap q.1 q.2 D none := by
    obtain ⟨qa, oc, od, oda, osl⟩ := q
    obtain ⟨h1, h2⟩ := hz
    dsimp only at h1 h2 hv
    subst h1 h2 hv
    exact ⟨g, rfl, rfl, trivial⟩
  match us, r with
  | [u1, u2], .cons r1 (.cons r2 .nil) =>
    obtain rfl : u1 = Value.ref q.1 := r1
    obtain rfl := hcv _ r2
    exact PySem.W.kia_one (PySem.W.handS_kitx_exc C.hg C.hk C.hs C.hd C.ha C.hn C.ht C.hm) I.kIn J hk (fun z => nomatch z) fun tk => ⟨.bl b, H, I.kept (t' := tk) fun _ _ z => z, rfl, h⟩
theorem kIsP {K : PySem.W.Frag} {D : Addr} (hK : X.K = K) (hq : q ∈ X.pn) (C : ExcC K D) (hz : Zc (.ref D) none q.2) (hf : ∃ vs, q.2.data = .fields vs) : CallR X (.builtin "isinstance") (rIsE K D q.1) := by
  subst hK
  exact call_isP hq C hz hf
theorem w_isE {K : PySem.W.Frag} {D a : Addr} {v : V} {cv : Value} {b : Bool} {H : Hp} {Q : VK} (hv : ∀ u, RelV v u → u = cv) (hk : PySem.W.kitOne K (.ref D) cv = some b) (h : Q (.bl b) H) : rIsE K D a [.ref a, v] H Q := ⟨_, _, _, rfl, hv, hk, h⟩
end
theorem roomH_mark {k : Nat} {A : Around} {h : Option Value} (r : Room k A) : RoomH k (A.mark h) := ⟨r.dp, r.un⟩
theorem hot_mark {A : Around} {a : Addr} {oe : Obj} {c : Value} {d : Option Addr} (hz : L2N.Zn c d oe) (hv : ∃ vs, oe.data = .fields vs) : Hot1 (A.mark (some (.ref a))) (a, oe) := by
  obtain ⟨vs, e⟩ := hv
  exact ⟨rfl, vs, e, hz.2.2 vs e⟩
/-- what the text must say of an own error, so that it can be raised and named -/
structure ErrK (K : PySem.W.Frag) (mg : Str → Option Value) (x : Str) (C : Addr) : Prop where
  xf : PySem.W.excIn K C [.type "ValueError", .type "Exception", .type "BaseException", .type "object"] "ValueError.__new__" = true
  g : mg x = some (.ref C)
  k : PySem.W.keepIn K (.ref C) = true
  b : PySem.W.subIn K (.ref C) (.type "BaseException") = some true
  t : PySem.W.typeIn K (.ref C) = some (.type "type")
/-- the class named in a clause -/
structure NamK (K : PySem.W.Frag) (mg : Str → Option Value) (x : Str) (C : Addr) : Prop where
  g : mg x = some (.ref C)
theorem tk_weak {X : Cx} {W : WX} (tk : L2.Takes X W) : L2N.Takes X W := fun u s' h => by
  obtain ⟨a, B, sI, pins, σ, H, cls, d, e, I, nb, up, sky, na, os, ag, w⟩ := h
  refine tk u s' ⟨a, B, sI, pins, σ, H, cls, d, e, I, nb, up, ?_, na, os, ag, w⟩
  rcases sky with ⟨h1, h2, h3, oe, vs, he, hz, hd, h4⟩ | fl | hh
  · exact .inl ⟨h1, h2, h3, oe, vs, he, hz.zc, hd, h4⟩
  · exact .inr (.inl (flyingZ_imp (fun _ z => L2N.Zn.zc z) fl))
  · obtain ⟨h1, h2, h3, h4⟩ := hh
    exact .inr (.inr ⟨h1, h2, h3, tracedZ_imp (fun _ z => L2N.Zn.zc z) h4⟩)
theorem takesN0 {X : Cx} : L2N.Takes X (fun _ _ _ _ => False) := fun _ _ h => by
  obtain ⟨_, _, _, _, _, _, _, _, _, _, _, _, _, _, _, _, z⟩ := h
  exact z.elim
/-- a call in the suite, the error handed on -/
theorem pe_cas {X : Cx} {P : Program} {w : World} {K : PySem.W.Frag} {mg : Str → Option Value} {base : Heap} {k : Nat} {x : Str} {p pos : Pos} {e : Expr} {es : List Expr} {t : TA} {a : Addr} {oe : Obj} {c : Value} {d : Option Addr} (hX : Sx X P w K mg base) (hr : RoomH k X.A) (hz : L2N.Zn c d oe)
    (hot : Hot1 X.A (a, oe)) (hq : (a, oe) ∈ X.pn) (hg : Gl X x) (ha : PA X (e :: es) t) (hdb : (x == ("__debug__" : Str)) = false := by decide)
    (he : starEach (e :: es) X.env = (false, eval e X.env) :: starEach es X.env := by rfl) (hpl : (backTo pos (starEach es X.env)).any (·.1) = false := by rfl) : PE X (.Call (.Name x p) (e :: es) [] pos) (tCH P w K mg base x k a c d t) :=
  pe_cah (q := (a, oe)) hX hr hot hq hz hg ha hdb he hpl
theorem w_thru {t u : TS} {D : Ends} {σ : L2.St} {H : Hp} (q : t { D with nx := u D } σ H) : tThru t u D σ H := q
end Mn

/-! ### more of texts -/
namespace Mn
open PySem PySem.Spec PyProof.Rows L2
section
variable {X : Cx}
theorem mt_rpartition : MtR X "str.rpartition" (fun x xs H Q => ∃ a b, x = .str a ∧ xs = [.str b] ∧ (b.length == 0) = false ∧ a.length ≤ sizeLine ∧
    ∀ p, H p = none → Q (.ref p) (upd H p (.tup [.str (Txt.rpartition a b).1, .str (Txt.rpartition a b).2.1, .str (Txt.rpartition a b).2.2]))) := by
  intro pins s σ H x xs v us Q I rx rs h
  obtain ⟨a, b, rfl, rfl, hb, hz, h⟩ := h
  obtain ⟨t, rfl⟩ := rx
  match us, rs with
  | [_], .cons r1 .nil =>
    obtain ⟨u, rfl⟩ := r1
    refine call_meets F.slot_str_rpartition (typeIs_str _ _ _) F.entry_str_rpartition (F.args_str_rpartition_2 _ _) (meets_str_rpartition a b t u hb hz) ?_
    unfold Txt.rpartition at h
    cases e : Builtin.Str.lastOccurrence a b 0 a.length with
    | none => rw [e] at h; exact laid_parts I h
    | some i => rw [e] at h; exact laid_parts I h
end
/-! ### for c in text; while -/
section
variable {σ : L2.St} {H : Hp} {D : Ends} {g : TG} {tb : TS} {te : TE}
theorem w_iStr {R : It → Hp → Prop} (q : te σ H fun v H1 => ∃ x, v = .str x ∧ R (Its x) H1) : iStr te σ H R := q
theorem w_forS {x : Str} (Pv : Nat → L2.St → Hp → Prop) (h0 : Pv 0 σ H) (hs : ∀ i c σ H, (TL.tl x)[i]? = some c → Pv i σ H → g (.str ⟨#[c]⟩) σ H fun σ2 H2 => tb { D with nx := Pv (i + 1), ct := Pv (i + 1), bk := D.nx } σ2 H2)
    (hd : ∀ σ H, Pv (TL.tl x).length σ H → D.nx σ H) : ∃ x', V.str x = .str x' ∧ ∃ W : Nat → Nat → L2.St → Hp → Prop, (∃ m, W 0 m σ H) ∧ ∀ i m σ H, W i m σ H →
      ((Its x').stop i H ∧ D.nx σ H) ∨ ((Its x').go i H ∧ ∃ N : L2.St → Hp → Prop, (∀ σ' H', N σ' H' → ∃ m', m' < m ∧ W (i + 1) m' σ' H') ∧ ∀ v H', (Its x').yld i H v H' → g v σ H' fun σ2 H2 => tb { D with nx := N, ct := N, bk := D.nx } σ2 H2) := by
  have n : (TL.tl x).length = x.cps.size := Array.length_toList
  refine ⟨x, rfl, fun i m σ H => m = x.cps.size - i ∧ i ≤ x.cps.size ∧ Pv i σ H, ⟨_, rfl, Nat.zero_le _, h0⟩, ?_⟩
  rintro i m σ H ⟨rfl, hi, p⟩
  by_cases lt : i < x.cps.size
  · refine .inr ⟨lt, Pv (i + 1), fun σ' H' p' => ⟨x.cps.size - (i + 1), by omega, rfl, lt, p'⟩, fun v H' y => ?_⟩
    obtain ⟨rfl, c, hc, rfl⟩ := y
    exact hs i c σ _ (by rw [← hc]; exact Array.getElem?_toList) p
  · have e : i = x.cps.size := by omega
    subst e
    exact .inl ⟨Nat.le_refl _, hd σ H (n ▸ p)⟩
end
end Mn
namespace Mn
open PySem PySem.Spec PyProof.Rows L2
section
variable {K : PySem.W.Frag} {σ : L2.St} {H : Hp} {a : Addr} {n : Nat} {t : TG} {u : TGs} {us : TGs} {v : V} {r xs : List V} {Qs : L2.St → Hp → Prop}
theorem w_gtup (h : SqT K H a xs) (l : xs.length = n) (q : us xs σ H Qs) : gTup K n us (.ref a) σ H Qs := ⟨_, _, rfl, h, l, q⟩
theorem w_gcons (q : t v σ H fun σ' H' => u r σ' H' Qs) : gCons t u (v :: r) σ H Qs := ⟨_, _, rfl, q⟩
theorem w_gnil (q : Qs σ H) : gNil [] σ H Qs := ⟨rfl, q⟩
end
end Mn

namespace Mn
open PySem L2
def top (i : Nat) : Stmt := PySem.Challenge.pw_minders_k07_entries_shown_and_seen.main.body.getD i (.Pass ⟨0, 0, 0, 0⟩)
/-- the built-ins that the text names -/
structure Bt (mg : Str → Option Value) : Prop where
  len : mg "len" = none
  int : mg "int" = none
  bool : mg "bool" = none
  ValueError : mg "ValueError" = none
  tuple : mg "tuple" = none
  str : mg "str" = none
  range : mg "range" = none
  isinstance : mg "isinstance" = none
abbrev s_fit_name : Stmt := top 5
theorem sc_fit_name : FnScope ["text"] ["text"] (defScope s_fit_name) := ⟨rfl, rfl, rfl, by decide +kernel, rfl, by decide +kernel, by decide +kernel⟩
abbrev s_number_in : Stmt := top 7
theorem sc_number_in : FnScope ["text", "most", "value"] ["text", "most"] (defScope s_number_in) := ⟨rfl, rfl, rfl, by decide +kernel, rfl, by decide +kernel, by decide +kernel⟩
abbrev s_shown : Stmt := top 10
theorem sc_shown : FnScope ["entry", "width"] ["entry", "width"] (defScope s_shown) := ⟨rfl, rfl, rfl, by decide +kernel, rfl, by decide +kernel, by decide +kernel⟩
abbrev s_seen : Stmt := top 11
theorem sc_seen : FnScope ["text", "head", "gap", "rest", "middle", "space", "name", "word", "bare", "turn", "entry"] ["text"] (defScope s_seen) := ⟨rfl, rfl, rfl, by decide +kernel, rfl, by decide +kernel, by decide +kernel⟩
abbrev s_law_cell_at : Stmt := top 13
theorem sc_law_cell_at : FnScope ["_law_script", "_law_k"] ["_law_script", "_law_k"] (defScope s_law_cell_at) := ⟨rfl, rfl, rfl, by decide +kernel, rfl, by decide +kernel, by decide +kernel⟩
abbrev s_law_words : Stmt := top 14
theorem sc_law_words : FnScope [] [] (defScope s_law_words) := ⟨rfl, rfl, rfl, by decide +kernel, rfl, by decide +kernel, by decide +kernel⟩
abbrev s_law_name : Stmt := top 15
theorem sc_law_name : FnScope ["_law_cell", "_law_signs", "_law_size", "_law_k"] ["_law_cell"] (defScope s_law_name) := ⟨rfl, rfl, rfl, by decide +kernel, rfl, by decide +kernel, by decide +kernel⟩
abbrev s_law_padded : Stmt := top 16
theorem sc_law_padded : FnScope ["_law_text", "_law_width", "_law_sign"] ["_law_text", "_law_width", "_law_sign"] (defScope s_law_padded) := ⟨rfl, rfl, rfl, by decide +kernel, rfl, by decide +kernel, by decide +kernel⟩
abbrev s_law_figures : Stmt := top 17
theorem sc_law_figures : FnScope ["_law_text", "_law_sign"] ["_law_text"] (defScope s_law_figures) := ⟨rfl, rfl, rfl, by decide +kernel, rfl, by decide +kernel, by decide +kernel⟩
abbrev s_law_due : Stmt := top 18
theorem sc_law_due : FnScope ["_law_text", "_law_at", "_law_turn", "_law_word", "_law_middle", "_law_name_here", "_law_sign"] ["_law_text"] (defScope s_law_due) := ⟨rfl, rfl, rfl, by decide +kernel, rfl, by decide +kernel, by decide +kernel⟩
abbrev s_law_same : Stmt := top 19
theorem sc_law_same : FnScope ["_law_found", "_law_due_here"] ["_law_found", "_law_due_here"] (defScope s_law_same) := ⟨rfl, rfl, rfl, by decide +kernel, rfl, by decide +kernel, by decide +kernel⟩
abbrev s_law : Stmt := top 20
theorem sc_law : FnScope ["_law_script", "_law_first", "_law_turn", "_law_name_here", "_law_entry", "_law_width", "_law_text", "_law_due_here", "_law_way", "_law_at", "_law_sign"] ["_law_script"] (defScope s_law) := ⟨rfl, rfl, rfl, by decide +kernel, rfl, by decide +kernel, by decide +kernel⟩
end Mn

/-! ### texts: stripped signs, numbers -/
namespace Mn
open PySem PySem.Spec PyProof.Rows L2 TL
open PySem.Builtin PySem.Builtin.Str
theorem mem_tl {x : Str} {c : Nat} (h : c ∈ tl x) : ∃ k, k < x.length ∧ x.cps.getD k 0 = c := by
  obtain ⟨k, hk, e⟩ := List.getElem_of_mem h
  refine ⟨k, by rw [len_tl]; exact hk, ?_⟩
  rw [← getD_list]
  simp [List.getD, List.getElem?_eq_getElem hk, e]
theorem getD_mem {x : Str} {k : Nat} (h : k < x.length) : x.cps.getD k 0 ∈ tl x := by
  rw [len_tl] at h
  rw [← getD_list]
  simp [List.getD, List.getElem?_eq_getElem h]
theorem lo_all {g : Nat → Bool} {x : Str} (h : ∀ c ∈ tl x, g c = true) : stripLo g true x = x.length := by
  obtain ⟨h1, _, h3⟩ := lo_facts g x
  rcases h3 with h3 | h3
  · exact h3
  · by_cases hl : stripLo g true x < x.length
    · rw [h _ (getD_mem hl)] at h3
      cases h3
    · omega
theorem strip_all {g : Nat → Bool} {x : Str} {r : Bool} (h : ∀ c ∈ tl x, g c = true) : Txt.stripBy g true r x = "" := by
  refine ext_tl ?_
  rw [stripBy_eq, tl_strSub, lo_all h, List.drop_eq_nil_of_le (by rw [len_tl]; exact Nat.le_refl _), List.take_nil]
  rfl
theorem strip_all_of {g : Nat → Bool} {x : Str} (h : Txt.stripBy g true true x = "") : ∀ c ∈ tl x, g c = true := by
  have e := congrArg tl h
  rw [stripBy_eq, tl_strSub] at e
  obtain ⟨h1, h2, h3⟩ := lo_facts g x
  obtain ⟨k1, k2, k3, k4⟩ := hi_facts g x _ h1
  have e' := congrArg List.length e
  rw [List.length_take, List.length_drop, ← len_tl] at e'
  have e0 : (tl "").length = 0 := rfl
  rw [e0] at e'
  intro c hc
  obtain ⟨k, hk, rfl⟩ := mem_tl hc
  by_cases hl : k < stripLo g true x
  · exact h2 k hl
  · exact k3 k (by omega) hk
theorem strip_chars {x y : Str} : Txt.stripChars x y = "" ↔ ∀ c ∈ tl x, y.cps.contains c = true := ⟨strip_all_of, strip_all⟩
theorem digit_has (c : Nat) : ("0123456789" : Str).cps.contains c = true ↔ 48 ≤ c ∧ c ≤ 57 := by
  show (Array.contains #[48, 49, 50, 51, 52, 53, 54, 55, 56, 57] c) = true ↔ _
  simp only [Array.contains_eq_mem, decide_eq_true_eq, List.mem_toArray, List.mem_cons, List.not_mem_nil, or_false]
  omega
theorem starts_one (x : Str) (c : Nat) : Txt.startswith x ⟨#[c]⟩ = decide ((tl x).head? = some c) := by
  unfold Txt.startswith subAt
  rw [Bool.eq_iff_iff]
  simp only [Bool.and_eq_true, decide_eq_true_eq, beq_iff_eq]
  rw [len_tl x]
  show 0 + 1 ≤ (tl x).length ∧ x.cps.extract 0 (0 + 1) = #[c] ↔ _
  rw [← Array.toList_inj]
  simp only [Array.toList_extract]
  show 0 + 1 ≤ (tl x).length ∧ (tl x).extract 0 (0 + 1) = [c] ↔ _
  cases tl x with
  | nil => simp
  | cons a r => simp [List.extract_eq_drop_take]
def figs (l : List Nat) : Bool := l.all fun c => decide (48 ≤ c) && decide (c ≤ 57)
theorem figs_iff {l : List Nat} : figs l = true ↔ NumText.AllDigits l := by
  unfold figs NumText.AllDigits
  rw [List.all_eq_true]
  exact ⟨fun h c hc => by have := h c hc; simpa using this, fun h c hc => by simpa using h c hc⟩
theorem strip_figs {x : Str} : Txt.stripChars x "0123456789" = "" ↔ figs (tl x) = true := by
  rw [strip_chars, figs_iff]
  exact ⟨fun h c hc => (digit_has c).mp (h c hc), fun h c hc => (digit_has c).mpr (h c hc)⟩
def numOk (l : List Nat) : Bool := decide (l ≠ []) && figs l && !(decide (1 < l.length) && decide (l.head? = some 48))
/-- the number that a text tells: figures alone, no nought ahead of others -/
def numOf (x : Str) : Option Int := if numOk (tl x) = true then some ((NumText.digitsVal (tl x) : Nat) : Int) else none
theorem eq_nil_tl {x : Str} : x = "" ↔ tl x = [] := ⟨fun h => by rw [h]; rfl, fun h => ext_tl h⟩
theorem numOf_none {x : Str} (h : numOk (tl x) = false) : numOf x = none := by
  unfold numOf
  rw [h]
  exact if_neg Bool.false_ne_true
theorem intText_figs {x : Str} (h : figs (tl x) = true) (h1 : tl x ≠ []) (h2 : x.length ≤ 640) : intText? x = some ((NumText.digitsVal (tl x) : Nat) : Int) := intText_digits (figs_iff.mp h) h1 (by omega)
theorem numL_head (n : Nat) (h : 0 < n) : (numL n).head? ≠ some 48 := by
  induction n using Nat.strongRecOn with
  | _ n ih =>
    by_cases h9 : n < 10
    · rw [numL_lt h9]
      intro e
      have := Option.some.inj e
      omega
    · rw [numL_step (by omega)]
      have i := ih (n / 10) (by omega) (by omega)
      have ne := numL_ne (n / 10)
      cases hc : numL (n / 10) with
      | nil => exact absurd hc ne
      | cons a r =>
        rw [hc] at i
        exact i
theorem numOk_numL (n : Nat) : numOk (numL n) = true := by
  unfold numOk
  rw [decide_eq_true (numL_ne n), figs_iff.mpr (numL_digits n)]
  by_cases h : n = 0
  · subst h
    rw [numL_lt (by decide)]
    rfl
  · rw [decide_eq_false (numL_head n (by omega)), Bool.and_false]
    rfl
theorem numOf_str (n : Nat) : numOf (Str.ofString (toString ((n : Nat) : Int))) = some (n : Int) := by
  unfold numOf
  rw [tl_num, if_pos (numOk_numL n), numL_val]
theorem numOf_sign {x : Str} {c : Nat} (h : c ∈ tl x) (hc : ¬ (48 ≤ c ∧ c ≤ 57)) : numOf x = none := by
  refine numOf_none ?_
  have f : figs (tl x) = false := Bool.eq_false_iff.mpr fun f => hc (figs_iff.mp f c h)
  unfold numOk
  rw [f, Bool.and_false, Bool.false_and]
theorem smol_big {i : Int} (h : i.natAbs < 2 ^ 1900) : Smol i := by
  unfold Smol
  by_cases h0 : i.natAbs = 0
  · rw [h0]; decide
  · have := (Nat.log2_lt h0).mpr h
    omega
theorem tl_cutS (z : Str) (lo hi : Option Int) : tl (cutS z lo hi) = ((tl z).drop (HT.sIx z.length 0 lo)).take (HT.sIx z.length z.length hi - HT.sIx z.length 0 lo) := rfl
theorem tl_cut_to (z : Str) (n : Nat) : tl (cutS z none (some (n : Int))) = (tl z).take n := by
  rw [tl_cutS, HT.sIx_none, HT.sIx_nat, List.drop_zero, Nat.sub_zero, len_tl z]
  by_cases h : n ≤ (tl z).length
  · rw [Nat.min_eq_left h]
  · rw [Nat.min_eq_right (by omega), List.take_of_length_le (Nat.le_refl _), List.take_of_length_le (by omega)]
theorem tl_cut_from (z : Str) (n : Nat) : tl (cutS z (some (n : Int)) none) = (tl z).drop n := by
  rw [tl_cutS, HT.sIx_none, HT.sIx_nat, len_tl z]
  by_cases h : n ≤ (tl z).length
  · rw [Nat.min_eq_left h, List.take_of_length_le (by rw [List.length_drop]; omega)]
  · rw [Nat.min_eq_right (by omega), List.drop_eq_nil_of_le (Nat.le_refl _), List.drop_eq_nil_of_le (by omega), List.take_nil]
theorem tl_cut_mid (z : Str) (n k : Nat) : tl (cutS z (some (n : Int)) (some ((n + k : Nat) : Int))) = ((tl z).drop n).take k := by
  rw [tl_cutS, HT.sIx_nat, HT.sIx_nat, len_tl z]
  by_cases h : n ≤ (tl z).length
  · rw [Nat.min_eq_left h]
    by_cases h2 : n + k ≤ (tl z).length
    · rw [Nat.min_eq_left h2, Nat.add_sub_cancel_left]
    · rw [Nat.min_eq_right (by omega), List.take_of_length_le (by rw [List.length_drop]; omega), List.take_of_length_le (by rw [List.length_drop]; omega)]
  · rw [Nat.min_eq_right (show (tl z).length ≤ n + k by omega), Nat.min_eq_right (show (tl z).length ≤ n by omega), List.drop_eq_nil_of_le (Nat.le_refl _), List.drop_eq_nil_of_le (by omega), List.take_nil, List.take_nil]
end Mn

/-! ### tactics: "rd" reads on as far as it goes; "hp", "ne", "sq", "st", "same", "sz" close what is asked of heaps and sizes -/
local macro_rules | `(tactic| walk_at "sz") => `(tactic| first
  | assumption
  | decide
  | (show _ ≤ PySem.sizeLine; decide)
  | (have sl' := PySem.sizeLine_eq; (try simp only [List.length_map, List.length_append, List.length_cons, List.length_nil, List.length_singleton, List.length_drop, List.length_take]); omega))
local macro_rules | `(tactic| walk_at "ne1") => `(tactic| first
  | assumption
  | (apply Ne.symm; assumption)
  | exact L2.ne_of_none (by assumption) (by assumption)
  | exact (L2.ne_of_none (by assumption) (by assumption)).symm)
local macro_rules | `(tactic| walk_at "hp") => `(tactic| first
  | assumption
  | exact L2.upd_same
  | (rw [L2.upd_ne (by walk_at "ne")]; walk_at "hp")
  | exact (by assumption : L2.Same _ _) _ _ (by assumption)
  | exact (by assumption : L2.Same _ _) _ _ ((by assumption : L2.Same _ _) _ _ (by assumption)))
local macro_rules | `(tactic| walk_at "ne") => `(tactic| first
  | walk_at "ne1"
  | exact L2.ne_of_none (by walk_at "hp") (by assumption)
  | exact (L2.ne_of_none (by walk_at "hp") (by assumption)).symm)
local macro_rules | `(tactic| walk_at "same") => `(tactic| first
  | assumption
  | exact L2.Same.refl _
  | exact L2.Same.trans (by assumption) (by assumption)
  | (refine' Mn.same_upd (by walk_at "same") (by assumption))
  | (refine' Mn.same_mut (by walk_at "same") (by assumption)))
local macro_rules | `(tactic| walk_at "sq") => `(tactic| first
  | assumption
  | exact L2.SqL.of L2.upd_same
  | exact L2.SqL.of (by walk_at "hp")
  | (refine' L2.Same.seq ?sq_s ?sq_h; (case sq_h => assumption); (case sq_s => walk_at "same")))
local macro_rules | `(tactic| walk_at "st") => `(tactic| first
  | assumption
  | exact L2.SqT.of L2.upd_same
  | exact L2.SqT.of (by walk_at "hp")
  | (refine' Mn.sqT_same ?sq_s ?sq_h; (case sq_h => assumption); (case sq_s => walk_at "same")))
local macro_rules | `(tactic| walk_at "cls") => `(tactic| first | assumption | exact Mn.ClsF.cl (by assumption))
local macro_rules | `(tactic| walk_at "noattr") => `(tactic| exact Mn.ClsF.no (by assumption) _ (by decide))
local macro_rules | `(tactic| walk_at "v2") => `(tactic| first
  | ((with_reducible refine' Mn.w_lenL ?h ?_); (case h => walk_at "sq"))
  | ((with_reducible refine' Mn.w_lenT ?h ?_); (case h => walk_at "st"))
  | ((with_reducible refine' Mn.w_lenS ?h ?_); (case h => walk_at "sz"))
  | ((with_reducible refine' Mn.w_addS ?h ?_); (case h => walk_at "sz"))
  | with_reducible refine Mn.w_intB ?_
  | with_reducible refine Mn.w_max ?_
  | with_reducible refine Mn.w_min ?_
  | with_reducible refine Mn.w_isN ?_
  | with_reducible refine Mn.w_notN ?_
  | with_reducible refine Mn.w_inS ?_
  | with_reducible refine Mn.w_ninS ?_
  | with_reducible refine Mn.w_bm ?_
  | with_reducible refine Mn.w_bm0 ?_
  | with_reducible refine Mn.w_tyS ?_
  | with_reducible refine Mn.w_tyI ?_
  | ((with_reducible refine' Mn.w_tyL ?h ?_); (case h => walk_at "sq"))
  | ((with_reducible refine' Mn.w_app ?h ?hs ?_); (case h => walk_at "hp"); (case hs => walk_at "sz"))
  | with_reducible refine Mn.w_lst ?_
  | with_reducible refine Mn.w_tup ?_
  | with_reducible refine Mn.w_sl ?_
  | with_reducible refine Mn.w_part ?_
  | with_reducible refine Mn.w_part1 ?_
  | with_reducible refine Mn.w_nopart ?_
  | with_reducible refine Mn.w_m1 ?_
  | with_reducible refine Mn.w_m0 ?_
  | with_reducible refine Mn.w_isS ?_
  | with_reducible refine Mn.w_fld ?_
  | ((with_reducible refine' Mn.w_fld1 ?h ?c ?n ?l ?_); (case h => walk_at "hp"); (case c => walk_at "cls"); (case n => walk_at "noattr"); (case l => rfl))
  | ((with_reducible refine' Mn.w_sfld1 ?h ?c ?n ?l ?_); (case h => walk_at "hp"); (case c => walk_at "cls"); (case n => walk_at "noattr"); (case l => exact Mn.ltb rfl))
  | with_reducible refine Mn.w_ma ?_
  | with_reducible refine Mn.w_isBl ?_
  | ((with_reducible refine' Mn.w_gtup ?h ?l ?_); (case h => walk_at "st"); (case l => rfl))
  | with_reducible refine Mn.w_gcons ?_
  | with_reducible refine Mn.w_gnil ?_
  | ((with_reducible refine' Mn.w_aug ?h ?_); (case h => rfl))
  | with_reducible refine Mn.w_ipI ?_
  | with_reducible refine Mn.w_sub ?_
  | with_reducible refine Mn.w_sfld ?_
  | with_reducible refine Mn.w_for ?_
  | with_reducible refine Mn.w_iList ?_
  | with_reducible refine Mn.w_iRng ?_
  | with_reducible refine Mn.w_lc ?_
  | with_reducible refine Mn.w_yes ?_
  | ((with_reducible refine' Mn.w_wip ?h ?_); (case h => rfl))
  | ((with_reducible refine' Mn.w_eqLI ?h1 ?h2 ?_); (case h1 => walk_at "sq"); (case h2 => walk_at "sq"))
  | ((with_reducible refine' Mn.w_neLI ?h1 ?h2 ?_); (case h1 => walk_at "sq"); (case h2 => walk_at "sq"))
  | with_reducible refine L2.iteT ?_
  | with_reducible refine L2.iteF ?_
  | ((with_reducible refine' Mn.w_I ?c ?_); (case c => first | (show (0 : Int) < _; decide) | exact ⟨by decide, by decide⟩ | exact ⟨by decide, by decide, by decide⟩)))
local macro_rules | `(tactic| walk_at "v1") => `(tactic| first
  | ((with_reducible refine' Mn.w_var ?hv ?_); (case hv => rfl))
  | with_reducible refine Mn.w_c ?_
  | with_reducible refine Mn.w_seq ?_
  | with_reducible refine Mn.w_asg ?_
  | ((with_reducible refine' Mn.w_name2 ?hn ?_); (case hn => first | (simp only [L2.start, L2.wipe, List.map_cons, List.map_nil, List.length_cons, List.length_nil, List.replicate_succ, List.replicate_zero, List.cons_append, List.nil_append, List.set_cons_succ, List.set_cons_zero, Nat.reduceSub, Nat.reduceAdd]; exact rfl) | exact rfl))
  | with_reducible refine Mn.w_op ?_
  | with_reducible refine Mn.w_I0 ?_
  | with_reducible refine Mn.w_cons ?_
  | with_reducible refine Mn.w_nil ?_
  | with_reducible refine Mn.w_cb ?_
  | with_reducible refine Mn.w_if ?_
  | with_reducible refine Mn.w_test ?_
  | with_reducible refine Mn.w_bl ?_
  | ((with_reducible refine' Mn.w_eq ?hs ?_); (case hs => rfl))
  | ((with_reducible refine' Mn.w_ne ?hs ?_); (case hs => rfl))
  | with_reducible refine Mn.w_drop ?_
  | with_reducible refine Mn.w_ret ?_
  | with_reducible refine Mn.w_and ?_
  | with_reducible refine Mn.w_or ?_
  | with_reducible refine Mn.w_not ?_
  | with_reducible refine Mn.w_B ?_
  | with_reducible refine Mn.w_un ?_
  | with_reducible refine Mn.w_U ?_
  | with_reducible refine Mn.w_andV ?_
  | with_reducible refine Mn.w_orV ?_
  | with_reducible refine Mn.w_notV ?_
  | with_reducible refine Mn.w_chain ?_
  | with_reducible refine Mn.w_next ?_
  | with_reducible refine Mn.w_retN ?_
  | with_reducible refine Mn.w_cont ?_
  | with_reducible refine Mn.w_nx ?_
  | with_reducible refine Mn.w_rt ?_
  | with_reducible refine Mn.w_ct ?_
  | with_reducible refine Mn.w_bk ?_)
local macro_rules | `(tactic| walk_at "if") => `(tactic| first
  | (refine' Mn.w_ite ?_ ?_ <;> (intro c))
  | (refine' Mn.w_iteN ?_ ?_ <;> (intro c))
  | (refine' Mn.w_iteB ?_ ?_ <;> (intro c)))
local macro_rules | `(tactic| walk_at "rd") => `(tactic| repeat (first | walk_at "v1" | walk_at "v2"))

namespace Mn
open PySem L2 TL
section
variable {P : Program} {w : World} {K : PySem.W.Frag} {mg : Str → Option Value} {base : Heap}
/-- number_in: the number told, within the bound; else NoNumber (its class at CN) -/
def spNum (CN : Addr) : Sp := fun vs H Q E => ∃ (x : Str) (most : Int), vs = [.str x, .int most] ∧ x.length ≤ 640 ∧ (∀ v, numOf x = some v → v ≤ most → Q (.int v) H) ∧ ((∀ v, numOf x = some v → ¬ v ≤ most) → E (.ref CN) none H)
theorem ok_number {CN f : Addr} {fd : FuncData} (F : FunS K "number_in" "number_in" s_number_in [.int 1000000] f fd) (T : Bt mg) (e_NoNumber : ErrK K mg "NoNumber" CN) : FnOk P w K mg base (CXN P w) 1 f fd ["text", "most"] (spNum CN) := by
  refine F.ok sc_number_in (fun vs H Q E h => ?_) (fun cdv A outer s H vs Q E hr h => ?_)
  · obtain ⟨x, most, rfl, _⟩ := h
    rfl
  obtain ⟨x, most, rfl, hl, q, qe⟩ := h
  have hz := PySem.sizeLine_eq
  refine ⟨_, (pss_cons (ps_if (PW.pt (pw_or (pt_cmpR op_eq (pv 0) pe_str (nomark _)) (pw_or (pt_cmpR op_ne (kBm (K := K) rfl PySem.F.plainAttrs_str PySem.F.slot_str_strip PySem.F.type_str_strip mt_stripChars (pv 0) (pa_cons pe_str pa_nil)) pe_str (nomark _)) (pw_or1 (PW.pt (pw_and (pt_cmpR op_gt (pe_callB call_lenS (by rfl) T.len (by decide +kernel) (pa_cons (pv 0) pa_nil)) pe_int (nomark _)) (pw_and1 (pt_val (pe_m1 PySem.F.slot_str_startswith PySem.F.type_str_startswith mt_startswith (pv 0) pe_str))))))))) (pss_one (L2N.ps_raise rfl (L2N.takes_of rfl rfl rfl rfl) (L2N.pmk_own PySem.F.excBase_ValueError e_NoNumber.xf e_NoNumber.g e_NoNumber.k (raises_own e_NoNumber.b e_NoNumber.t) rfl))) pss_nil)
    (pss_cons (ps_try_thru (pss_one (ps_set (i := 2) sc_number_in.nd rfl (Or.inl rfl) (pe_callTy call_intS (by rfl) T.int (by decide +kernel) (pa_cons (pv 0) pa_nil)))) (pss_one (ps_if (pt_cmpR op_gt (pv 2) (pv 1) (nomark _)) (pss_one (L2N.ps_raise rfl (L2N.takes_of rfl rfl rfl rfl) (L2N.pmk_own PySem.F.excBase_ValueError e_NoNumber.xf e_NoNumber.g e_NoNumber.k (raises_own e_NoNumber.b e_NoNumber.t) rfl))) pss_nil)))
    (pss_one (ps_ret (pv 2))))), ?_⟩
  walk_at "rd"
  have no : numOk (tl x) = false → E (.ref CN) none H := fun h => qe fun v e => by rw [numOf_none h] at e; cases e
  walk_at "if"
  · rename_i c
    walk_at "rd"
    refine no ?_
    rw [V.str.inj c]
    rfl
  rename_i c
  have c : tl x ≠ [] := fun e => c (congrArg V.str (eq_nil_tl.mpr e))
  walk_at "rd"
  refine ⟨x, _, rfl, rfl, by omega, ?_⟩
  walk_at "rd"
  walk_at "if"
  · rename_i c2
    walk_at "rd"
    refine no ?_
    have f : figs (tl x) = false := Bool.eq_false_iff.mpr fun f => by
      have c3 := c2
      rw [strip_figs.mpr f] at c3
      exact c3 rfl
    unfold numOk
    rw [f, Bool.and_false, Bool.false_and]
  rename_i c2
  have f : figs (tl x) = true := strip_figs.mp (V.str.inj c2)
  have lx : x.length = (tl x).length := len_tl x
  -- the number told
  have fin : numOk (tl x) = true → (∀ v, (numOf x = some v) ↔ v = ((NumText.digitsVal (tl x) : Nat) : Int)) := fun h v => by
    unfold numOf
    rw [if_pos h]
    exact ⟨fun e => (Option.some.inj e).symm, fun e => congrArg some e.symm⟩
  have hi := intText_figs f c hl
  generalize ((NumText.digitsVal (tl x) : Nat) : Int) = n at fin hi
  walk_at "rd"
  walk_at "if"
  all_goals rename_i c3
  all_goals walk_at "rd"
  · refine ⟨x, _, rfl, rfl, ?_⟩
    have es : Txt.startswith x "0" = decide ((tl x).head? = some 48) := starts_one x 48
    rw [es]
    walk_at "rd"
    walk_at "if"
    all_goals rename_i c4
    all_goals walk_at "rd"
    · refine no ?_
      unfold numOk
      rw [c4, f, decide_eq_true (show 1 < (tl x).length by omega), decide_eq_true c]
      rfl
    have ok : numOk (tl x) = true := by
      unfold numOk
      rw [f, decide_eq_true c, decide_eq_false c4, Bool.and_false]
      rfl
    refine w_thru ?_
    walk_at "rd"
    refine ⟨x, n, rfl, hi, hl, ?_⟩
    walk_at "rd"
    walk_at "if"
    all_goals rename_i c5
    all_goals walk_at "rd"
    · exact qe fun v e => by rw [(fin ok v).mp e]; omega
    · exact q n ((fin ok n).mpr rfl) (by omega)
  · have ok : numOk (tl x) = true := by
      unfold numOk
      rw [f, decide_eq_true c, decide_eq_false (show ¬ 1 < (tl x).length by omega), Bool.false_and]
      rfl
    refine w_thru ?_
    walk_at "rd"
    refine ⟨x, n, rfl, hi, hl, ?_⟩
    walk_at "rd"
    walk_at "if"
    all_goals rename_i c5
    all_goals walk_at "rd"
    · exact qe fun v e => by rw [(fin ok v).mp e]; omega
    · exact q n ((fin ok n).mpr rfl) (by omega)
end
end Mn

namespace Mn
open PySem L2 TL
open PySem.Builtin PySem.Builtin.Str
def alnum (c : Nat) : Bool := (decide (97 ≤ c) && decide (c ≤ 122)) || (decide (48 ≤ c) && decide (c ≤ 57))
def fitL (l : List Nat) : Bool := decide (1 ≤ l.length) && decide (l.length ≤ 12) && l.all alnum
abbrev signs36 : Str := "abcdefghijklmnopqrstuvwxyz0123456789"
theorem sign_has (c : Nat) : signs36.cps.contains c = alnum c := by
  show (Array.contains #[97, 98, 99, 100, 101, 102, 103, 104, 105, 106, 107, 108, 109, 110, 111, 112, 113, 114, 115, 116, 117, 118, 119, 120, 121, 122, 48, 49, 50, 51, 52, 53, 54, 55, 56, 57] c) = _
  rw [Bool.eq_iff_iff]
  unfold alnum
  simp only [Array.contains_eq_mem, decide_eq_true_eq, List.mem_toArray, List.mem_cons, List.not_mem_nil, or_false, Bool.or_eq_true, Bool.and_eq_true]
  omega
section
variable {P : Program} {w : World} {K : PySem.W.Frag} {mg : Str → Option Value} {base : Heap}
def spFit : Sp := fun vs H Q _ => ∃ x : Str, vs = [.str x] ∧ x.length ≤ 1000 ∧ Q (.bl (fitL (tl x))) H
theorem ok_fit {f : Addr} {fd : FuncData} {tk : Tok} (F : Fun K "fit_name" "fit_name" s_fit_name f fd) (T : Bt mg) (hg : mg "SIGNS" = some (.str signs36 tk)) : FnOk P w K mg base CX0 1 f fd ["text"] spFit := by
  refine F.ok sc_fit_name (fun vs H Q E h => ?_) (fun cdv A outer s H vs Q E hr h => ?_)
  · obtain ⟨x, rfl, _⟩ := h
    rfl
  obtain ⟨x, rfl, hl, q⟩ := h
  have hz := PySem.sizeLine_eq
  have lx := len_tl x
  refine ⟨_, (pss_one (ps_ret (pe_and (pe_chain op_le op_le pe_int (pe_callB call_lenS (by rfl) T.len (by decide +kernel) (pa_cons (pv 0) pa_nil)) pe_int) (pe_one (pe_cmpR op_eq (kBm (K := K) rfl PySem.F.plainAttrs_str PySem.F.slot_str_strip PySem.F.type_str_strip mt_stripChars (pv 0) (pa_cons (pe_gv (mg := mg) rfl rfl) pa_nil)) pe_str (nomark _)))))), ?_⟩
  have fin : ∀ b : Bool, b = fitL (tl x) → Q (.bl b) H := fun b e => by rw [e]; exact q
  walk_at "rd"
  walk_at "if"
  · rename_i c1
    walk_at "rd"
    by_cases c2 : (x.length : Int) ≤ 12
    · rw [decide_eq_true c2]
      walk_at "rd"
      refine w_gv (v := .str signs36) hg ⟨_, rfl⟩ ?_
      walk_at "rd"
      refine ⟨x, _, rfl, rfl, by omega, ?_⟩
      walk_at "rd"
      refine fin _ ?_
      unfold fitL
      rw [decide_eq_true (show 1 ≤ (tl x).length by omega), decide_eq_true (show (tl x).length ≤ 12 by omega), Bool.true_and, Bool.true_and, Bool.eq_iff_iff, decide_eq_true_eq, List.all_eq_true]
      have e : (V.str (Txt.stripChars x signs36) = V.str "") ↔ Txt.stripChars x signs36 = "" := ⟨fun h => V.str.inj h, fun h => congrArg V.str h⟩
      rw [e, strip_chars]
      exact ⟨fun h c hc => by rw [← sign_has]; exact h c hc, fun h c hc => by rw [sign_has]; exact h c hc⟩
    · rw [decide_eq_false c2]
      walk_at "rd"
      refine fin _ ?_
      unfold fitL
      rw [decide_eq_false (show ¬ (tl x).length ≤ 12 by omega), Bool.and_false, Bool.false_and]
  · rename_i c1
    walk_at "rd"
    refine fin _ ?_
    unfold fitL
    rw [decide_eq_false (show ¬ 1 ≤ (tl x).length by omega), Bool.false_and, Bool.false_and]
/-- signs put ahead up to a width -/
def padL (l : List Nat) (n : Nat) (c : Nat) : List Nat := List.replicate (n - l.length) c ++ l
def spPad : Sp := fun vs H Q _ => ∃ (x : Str) (wd : Int) (c : Nat), vs = [.str x, .int wd, .str ⟨#[c]⟩] ∧ x.length ≤ 1000 ∧ wd ≤ 1000 ∧ ∀ y, tl y = padL (tl x) wd.toNat c → Q (.str y) H
theorem ok_pad {f : Addr} {fd : FuncData} (F : Fun K "_law_padded" "_law_padded" s_law_padded f fd) (T : Bt mg) : FnOk P w K mg base CX0 1 f fd ["_law_text", "_law_width", "_law_sign"] spPad := by
  refine F.ok sc_law_padded (fun vs H Q E h => ?_) (fun cdv A outer s H vs Q E hr h => ?_)
  · obtain ⟨x, wd, c, rfl, _⟩ := h
    rfl
  obtain ⟨x, wd, c, rfl, hl, hw, q⟩ := h
  have hz := PySem.sizeLine_eq
  refine ⟨_, (pss_cons (ps_while PassesOwn.never (pt_cmpR op_lt (pe_callB call_lenS (by rfl) T.len (by decide +kernel) (pa_cons (pv 0) pa_nil)) (pv 1) (nomark _)) (pss_one (ps_set (i := 0) sc_law_padded.nd rfl (Or.inl rfl) (pe_op op_addS (pv 2) (pv 0)))))
    (pss_one (ps_ret (pv 0)))), ?_⟩
  walk_at "rd"
  refine ⟨fun m σ H' => ∃ y : Str, σ = [some (.str y), some (.int wd), some (.str ⟨#[c]⟩)] ∧ H = H' ∧ y.length ≤ 1000 ∧ padL (tl y) wd.toNat c = padL (tl x) wd.toNat c ∧ m = wd.toNat - y.length, ⟨_, x, rfl, rfl, hl, rfl, rfl⟩, fun m σ H' hm => ?_⟩
  obtain ⟨y, rfl, rfl, ly, ep, em⟩ := hm
  have lt := len_tl y
  walk_at "rd"
  walk_at "if"
  · rename_i c1
    refine ⟨fun σ H' => ∃ m' : Nat, m' < m ∧ ∃ y : Str, σ = [some (.str y), some (.int wd), some (.str ⟨#[c]⟩)] ∧ H = H' ∧ y.length ≤ 1000 ∧ padL (tl y) wd.toNat c = padL (tl x) wd.toNat c ∧ m' = wd.toNat - y.length, fun σ' H' h => h, ?_⟩
    have l2 : ((⟨#[c]⟩ : Str) ++ y).length = y.length + 1 := by
      rw [len_tl, tl_append, List.length_append, ← len_tl y]
      show 1 + _ = _
      omega
    walk_at "rd"
    refine w_addS (by show 1 + y.length ≤ _; omega) ?_
    walk_at "rd"
    refine ⟨wd.toNat - (y.length + 1), by omega, _, rfl, rfl, by omega, ?_, by rw [l2]⟩
    rw [← ep, tl_append]
    have e1 : tl (⟨#[c]⟩ : Str) = [c] := rfl
    rw [e1]
    unfold padL
    rw [List.length_append, List.length_singleton]
    have e2 : wd.toNat - (tl y).length = (wd.toNat - (1 + (tl y).length)) + 1 := by omega
    rw [e2, List.replicate_succ', List.append_assoc]
  · rename_i c1
    walk_at "rd"
    refine q y ?_
    rw [← ep]
    unfold padL
    rw [show wd.toNat - (tl y).length = 0 by omega]
    rfl
end
end Mn

namespace Mn
open PySem PySem.Spec PyProof.Rows L2 TL
open PySem.Builtin PySem.Builtin.Str
theorem tl_padded (x : Str) (n c : Nat) : tl (Builtin.Str.padded x n 0 c) = List.replicate n c ++ tl x := by
  unfold Builtin.Str.padded
  show (Array.replicate n c ++ x.cps ++ Array.replicate 0 c).toList = _
  rw [Array.toList_append, Array.toList_append, Array.toList_replicate, Array.toList_replicate, List.replicate_zero, List.append_nil]
theorem tl_rjust (x : Str) (i : Int) : tl (Txt.rjust x i) = padL (tl x) i.toNat 32 := by
  have lx := len_tl x
  unfold Txt.rjust padL
  by_cases h : i ≤ (x.length : Int)
  · rw [if_pos h, show i.toNat - (tl x).length = 0 by omega]
    rfl
  · rw [if_neg h, tl_padded, lx]
theorem padOk_of {i : Int} (h0 : -1000 ≤ i) (h : i ≤ 1000) : PadOk i = true := by
  have hz := PySem.sizeLine_eq
  unfold PadOk fitsSsize Builtin.Str.tooLong
  rw [Bool.and_eq_true, Bool.not_eq_true']
  refine ⟨?_, ?_⟩
  · rw [decide_eq_false (by omega), decide_eq_false (by omega)]
    rfl
  · rw [decide_eq_false (by omega)]
    rfl
theorem tl_zfill (x : Str) (i : Int) (h : figs (tl x) = true) : tl (Txt.zfill x i) = padL (tl x) i.toNat 48 := by
  have lx := len_tl x
  have no : ∀ c, x.cps[0]? = some c → 48 ≤ c := fun c e => by
    have hm : c ∈ tl x := by
      have e2 : (tl x)[0]? = some c := by rw [← e]; exact Array.getElem?_toList
      exact List.mem_of_getElem? e2
    exact (figs_iff.mp h c hm).1
  unfold Txt.zfill padL
  by_cases hc : i ≤ (x.length : Int)
  · rw [if_pos hc, show i.toNat - (tl x).length = 0 by omega]
    rfl
  · rw [if_neg hc]
    unfold zfilled
    split
    · rename_i e
      have := no _ e
      omega
    · rename_i e
      have := no _ e
      omega
    · rw [tl_padded, lx]
section
variable {P : Program} {w : World} {K : PySem.W.Frag} {mg : Str → Option Value} {base : Heap}
/-- an entry's text -/
def shownL (n : Nat) (wd : Nat) (word name : List Nat) : List Nat := padL (numL n) wd 48 ++ 32 :: padL word 8 32 ++ 32 :: name
def spShown : Sp := fun vs H Q _ => ∃ (t : Addr) (n : Nat) (word name : Str) (i : Int), vs = [.ref t, .int i] ∧ H t = some (.tup [.int (n : Int), .str word, .str name]) ∧ n < 10 ^ 60 ∧ word.length ≤ 100 ∧ name.length ≤ 100 ∧ -1000 ≤ i ∧ i ≤ 1000 ∧ ∀ y, tl y = shownL n i.toNat (tl word) (tl name) → Q (.str y) H
theorem len_pad (l : List Nat) (n c : Nat) : (padL l n c).length = max n l.length := by
  unfold padL
  rw [List.length_append, List.length_replicate]
  omega
theorem ok_shown {f : Addr} {fd : FuncData} (F : FunS K "shown" "shown" s_shown [.int 4] f fd) (T : Bt mg) : FnOk P w K mg base CX0 1 f fd ["entry", "width"] spShown := by
  refine F.ok sc_shown (fun vs H Q E h => ?_) (fun cdv A outer s H vs Q E hr h => ?_)
  · obtain ⟨t, n, word, name, i, rfl, _⟩ := h
    rfl
  obtain ⟨t, n, word, name, i, rfl, ht, hn, lw, ln, i0, i1, q⟩ := h
  have hz := PySem.sizeLine_eq
  refine ⟨_, (pss_one (ps_ret (pe_op op_addS (pe_op op_addS (pe_op op_addS (pe_op op_addS (kBm (K := K) rfl PySem.F.plainAttrs_str PySem.F.slot_str_zfill PySem.F.type_str_zfill mt_zfill (pe_callTy call_strI (by rfl) T.str (by decide +kernel) (pa_cons (pe_ix (kIxT (K := K) rfl) (pv 0) pe_int (fun _ _ => rfl)) pa_nil)) (pa_cons (pv 1) pa_nil)) pe_str) (kBm (K := K) rfl PySem.F.plainAttrs_str PySem.F.slot_str_rjust PySem.F.type_str_rjust mt_rjust (pe_ix (kIxT (K := K) rfl) (pv 0) pe_int (fun _ _ => rfl)) (pa_cons pe_int pa_nil))) pe_str) (pe_ix (kIxT (K := K) rfl) (pv 0) pe_int (fun _ _ => rfl))))), ?_⟩
  walk_at "rd"
  refine w_ixT (SqT.of ht) (at_nat (k := 0) rfl rfl) ?_
  walk_at "rd"
  refine w_strI (smol_big (by show n < _; exact Nat.lt_trans hn (by decide +kernel))) ?_
  walk_at "rd"
  have ts : tl (Str.ofString (toString ((n : Nat) : Int))) = numL n := tl_num n
  have fs : figs (tl (Str.ofString (toString ((n : Nat) : Int)))) = true := by rw [ts]; exact figs_iff.mpr (numL_digits n)
  have ln6 : (numL n).length ≤ 60 := numL_len (by decide) hn
  generalize Str.ofString (toString ((n : Nat) : Int)) = x at ts fs
  refine ⟨x, i, rfl, rfl, padOk_of i0 i1, ?_⟩
  have e1 := tl_zfill x i fs
  rw [ts] at e1
  have l1 : (Txt.zfill x i).length ≤ 1000 := by rw [len_tl, e1, len_pad]; omega
  generalize Txt.zfill x i = y1 at e1 l1
  walk_at "rd"
  refine w_addS (by show y1.length + 1 ≤ _; omega) ?_
  have e2 : tl (y1 ++ (" " : Str)) = tl y1 ++ [32] := tl_append _ _
  have l2 : (y1 ++ (" " : Str)).length ≤ 1001 := by rw [len_tl, e2, List.length_append, ← len_tl y1]; show _ + 1 ≤ _; omega
  generalize y1 ++ (" " : Str) = y2 at e2 l2
  walk_at "rd"
  refine w_ixT (SqT.of ht) (at_nat (k := 1) rfl rfl) ?_
  walk_at "rd"
  refine ⟨word, 8, rfl, rfl, by decide, ?_⟩
  have e3 := tl_rjust word 8
  have l3 : (Txt.rjust word 8).length ≤ 100 := by rw [len_tl, e3, len_pad, ← len_tl]; show max 8 _ ≤ _; omega
  generalize Txt.rjust word 8 = y3 at e3 l3
  walk_at "rd"
  have e4 : tl (y2 ++ y3) = tl y2 ++ tl y3 := tl_append _ _
  have l4 : (y2 ++ y3).length ≤ 1101 := by rw [len_tl, e4, List.length_append, ← len_tl y2, ← len_tl y3]; omega
  generalize y2 ++ y3 = y4 at e4 l4
  walk_at "rd"
  refine w_addS (by show y4.length + 1 ≤ _; omega) ?_
  have e5 : tl (y4 ++ (" " : Str)) = tl y4 ++ [32] := tl_append _ _
  have l5 : (y4 ++ (" " : Str)).length ≤ 1102 := by rw [len_tl, e5, List.length_append, ← len_tl y4]; show _ + 1 ≤ _; omega
  generalize y4 ++ (" " : Str) = y5 at e5 l5
  walk_at "rd"
  refine w_ixT (SqT.of ht) (at_nat (k := 2) rfl rfl) ?_
  walk_at "rd"
  refine q _ ?_
  rw [tl_append, e5, e4, e3, e2, e1]
  unfold shownL
  simp
end
end Mn

namespace Mn
open PySem PySem.Spec PyProof.Rows L2 TL
open PySem.Builtin PySem.Builtin.Str
/-! ### the turn that a text's head tells -/
def bareL (l : List Nat) : List Nat := if l.dropWhile (fun c => decide (c = 48)) = [] then [48] else l.dropWhile (fun c => decide (c = 48))
def turnL (l : List Nat) : Option Nat := if (decide (l ≠ []) && figs l && decide ((bareL l).length ≤ 60)) = true then some (NumText.digitsVal (bareL l)) else none
theorem bareL_cons0 (r : List Nat) (h : r ≠ []) : bareL (48 :: r) = bareL r := by
  unfold bareL
  rw [List.dropWhile_cons_of_pos (by decide)]
theorem bareL_done (l : List Nat) (h : l ≠ []) (d : ¬ (1 < l.length ∧ l.head? = some 48)) : bareL l = l := by
  unfold bareL
  cases l with
  | nil => exact absurd rfl h
  | cons a r =>
    by_cases e : a = 48
    · subst e
      cases r with
      | nil => rfl
      | cons b s => exact absurd ⟨by rw [List.length_cons, List.length_cons]; omega, rfl⟩ d
    · rw [List.dropWhile_cons_of_neg (by simpa using e), if_neg (List.cons_ne_nil _ _)]
section
variable {P : Program} {w : World} {K : PySem.W.Frag} {mg : Str → Option Value} {base : Heap}
def words9 : List Str := ["begun", "told", "done", "fallen", "ended", "cut", "answers", "gives up", "gave up"]
def spW9 : Sp := fun vs H Q _ => vs = [] ∧ ∀ r, H r = none → Q (.ref r) (upd H r (.lst (words9.map V.str)))
theorem ok_words9 {f : Addr} {fd : FuncData} (F : Fun K "_law_words" "_law_words" s_law_words f fd) : FnOk P w K mg base CX0 1 f fd [] spW9 := by
  refine F.ok sc_law_words (fun vs H Q E h => ?_) (fun cdv A outer s H vs Q E hr h => ?_)
  · obtain ⟨rfl, _⟩ := h
    rfl
  obtain ⟨rfl, q⟩ := h
  refine ⟨_, (pss_one (ps_ret (pe_lst (pa_cons pe_str (pa_cons pe_str (pa_cons pe_str (pa_cons pe_str (pa_cons pe_str (pa_cons pe_str (pa_cons pe_str (pa_cons pe_str (pa_cons pe_str pa_nil)))))))))))), ?_⟩
  walk_at "rd"
  exact ⟨by walk_at "sz", fun r hr => q r hr⟩
theorem in_digits (c : Nat) : (!(occurrences ("0123456789" : Str) ⟨#[c]⟩ 0 ("0123456789" : Str).length 1).isEmpty) = decide (48 ≤ c ∧ c ≤ 57) := by
  rw [StrLaws.found_one]
  have e := digit_has c
  rw [Array.contains_eq_mem, decide_eq_true_eq, ← Array.mem_toList_iff] at e
  exact decide_eq_decide.mpr e
def turnV (l : List Nat) : V := match turnL l with
  | some n => .int (n : Int)
  | none => .non
theorem turnV_some {l : List Nat} {n : Nat} (h : turnL l = some n) : turnV l = .int (n : Int) := by unfold turnV; rw [h]
theorem turnV_none {l : List Nat} (h : turnL l = none) : turnV l = .non := by unfold turnV; rw [h]
def spFigures : Sp := fun vs H Q _ => ∃ x : Str, vs = [.str x] ∧ x.length ≤ 640 ∧ Q (turnV (tl x)) H
theorem ok_figures {f : Addr} {fd : FuncData} (F : Fun K "_law_figures" "_law_figures" s_law_figures f fd) (T : Bt mg) : FnOk P w K mg base CX0 1 f fd ["_law_text"] spFigures := by
  refine F.ok sc_law_figures (fun vs H Q E h => ?_) (fun cdv A outer s H vs Q E hr h => ?_)
  · obtain ⟨x, rfl, _⟩ := h
    rfl
  obtain ⟨x, rfl, hl, q⟩ := h
  have q1 : ∀ n, turnL (tl x) = some n → Q (.int (n : Int)) H := fun n e => by rw [← turnV_some e]; exact q
  have q2 : turnL (tl x) = none → Q .non H := fun e => by rw [← turnV_none e]; exact q
  clear q
  have hz := PySem.sizeLine_eq
  have lx := len_tl x
  refine ⟨_, (pss_cons (ps_if (pt_cmpR op_eq (pv 0) pe_str (nomark _)) (pss_one (ps_ret pe_non)) pss_nil)
    (pss_cons (ps_for PassesOwn.never rfl (pi_str (pv 0)) (pg_name (i := 1) sc_law_figures.nd rfl (Or.inl rfl)) (pss_one (ps_if (pt_cmpR op_ninS (pv 1) pe_str rfl) (pss_one (ps_ret pe_non)) pss_nil)))
    (pss_cons (ps_while PassesOwn.never (PW.pt (pw_and (pt_cmpR op_gt (pe_callB call_lenS (by rfl) T.len (by decide +kernel) (pa_cons (pv 0) pa_nil)) pe_int (nomark _)) (pw_and1 (pt_cmpR op_eq (pe_ix ix_str (pv 0) pe_int (fun _ _ => rfl)) pe_str (nomark _))))) (pss_one (ps_set (i := 0) sc_law_figures.nd rfl (Or.inl rfl) (pe_slice sl_str (pv 0) (po_some pe_int) po_none))))
    (pss_cons (ps_if (pt_cmpR op_gt (pe_callB call_lenS (by rfl) T.len (by decide +kernel) (pa_cons (pv 0) pa_nil)) pe_int (nomark _)) (pss_one (ps_ret pe_non)) pss_nil)
    (pss_one (ps_ret (pe_callTy call_intS (by rfl) T.int (by decide +kernel) (pa_cons (pv 0) pa_nil)))))))), ?_⟩
  walk_at "rd"
  walk_at "if"
  · rename_i c
    walk_at "rd"
    refine q2 ?_
    rw [V.str.inj c]
    rfl
  rename_i c
  have c : tl x ≠ [] := fun e => c (congrArg V.str (eq_nil_tl.mpr e))
  walk_at "rd"
  refine w_iStr ?_
  walk_at "rd"
  refine w_forS (fun i σ H' => ∃ v, σ = [some (.str x), v] ∧ H = H' ∧ figs ((tl x).take i) = true) ⟨none, rfl, rfl, rfl⟩ (fun i c σ H' hc hm => ?_) (fun σ H' hm => ?_)
  · obtain ⟨v, rfl, rfl, hf⟩ := hm
    walk_at "rd"
    rw [in_digits]
    by_cases hd : 48 ≤ c ∧ c ≤ 57
    · rw [decide_eq_true hd, Bool.not_true]
      walk_at "rd"
      refine ⟨_, rfl, rfl, ?_⟩
      rw [List.take_add_one, hc]
      show figs ((tl x).take i ++ [c]) = true
      unfold figs at hf ⊢
      rw [List.all_append, hf, List.all_cons, List.all_nil, decide_eq_true hd.1, decide_eq_true hd.2]
      rfl
    · rw [decide_eq_false hd, Bool.not_false]
      walk_at "rd"
      refine q2 ?_
      have f : figs (tl x) = false := Bool.eq_false_iff.mpr fun f => hd (figs_iff.mp f c (List.mem_of_getElem? hc))
      unfold turnL
      rw [f, Bool.and_false, Bool.false_and]
      rfl
  · obtain ⟨v, rfl, rfl, hf⟩ := hm
    rw [List.take_length] at hf
    walk_at "rd"
    refine ⟨fun m σ H' => ∃ y : Str, σ = [some (.str y), v] ∧ H = H' ∧ y.length ≤ 640 ∧ figs (tl y) = true ∧ tl y ≠ [] ∧ bareL (tl y) = bareL (tl x) ∧ m = y.length, ⟨_, x, rfl, rfl, hl, hf, c, rfl, rfl⟩, fun m σ H' hm => ?_⟩
    obtain ⟨y, rfl, rfl, ly, fy, ny, ey, em⟩ := hm
    have lt := len_tl y
    walk_at "rd"
    obtain ⟨a, r, ar⟩ : ∃ a r, tl y = a :: r := by
      cases e : tl y with
      | nil => exact absurd e ny
      | cons a r => exact ⟨a, r, rfl⟩
    -- behind the loop
    have o1 : ¬ (1 < (tl y).length ∧ (tl y).head? = some 48) → 60 < (tl y).length → Q .non H := fun dn c6 => by
      have eb := bareL_done (tl y) ny dn
      rw [ey] at eb
      refine q2 ?_
      unfold turnL
      rw [eb, decide_eq_false (show ¬ (tl y).length ≤ 60 by omega), Bool.and_false]
      rfl
    have o2 : ¬ (1 < (tl y).length ∧ (tl y).head? = some 48) → ¬ 60 < (tl y).length → Q (.int ((NumText.digitsVal (tl y) : Nat) : Int)) H := fun dn c6 => by
      have eb := bareL_done (tl y) ny dn
      rw [ey] at eb
      refine q1 _ ?_
      unfold turnL
      rw [eb, hf, decide_eq_true c, decide_eq_true (show (tl y).length ≤ 60 by omega)]
      rfl
    walk_at "if"
    all_goals rename_i c1
    all_goals walk_at "rd"
    · refine w_ixS (c := a) (by omega) (atI_nat (j := 0) (show (tl y)[0]? = some a by rw [ar]; rfl)) ?_
      walk_at "rd"
      walk_at "if"
      · rename_i ha
        have ha : a = 48 := by
          have e1 : (⟨#[a]⟩ : Str) = ⟨#[48]⟩ := V.str.inj ha
          have e2 := congrArg tl e1
          exact (List.cons.inj e2).1
        subst ha
        refine ⟨fun σ H' => ∃ m' : Nat, m' < m ∧ ∃ y : Str, σ = [some (.str y), v] ∧ H = H' ∧ y.length ≤ 640 ∧ figs (tl y) = true ∧ tl y ≠ [] ∧ bareL (tl y) = bareL (tl x) ∧ m' = y.length, fun σ' H' h => h, ?_⟩
        walk_at "rd"
        refine w_slS (by omega) ?_
        walk_at "rd"
        have e1 : tl (cutS y (some 1) none) = r := by
          have := tl_cut_from y 1
          rw [ar] at this
          exact this
        have l1 : (cutS y (some 1) none).length = r.length := by rw [len_tl, e1]
        have l2 : y.length = r.length + 1 := by rw [lt, ar, List.length_cons]
        have rn : r ≠ [] := fun e => by rw [e] at l2; simp at l2; omega
        refine ⟨r.length, by omega, _, rfl, rfl, by omega, ?_, ?_, ?_, by omega⟩
        · rw [e1]
          rw [ar] at fy
          unfold figs at fy ⊢
          rw [List.all_cons, Bool.and_eq_true] at fy
          exact fy.2
        · rw [e1]; exact rn
        · rw [e1, ← ey, ar, bareL_cons0 r rn]
      · rename_i ha
        have dn : ¬ (1 < (tl y).length ∧ (tl y).head? = some 48) := fun z => by
          have h2 := z.2
          rw [ar] at h2
          have h3 : a = 48 := Option.some.inj h2
          subst h3
          exact ha rfl
        walk_at "rd"
        walk_at "if"
        all_goals rename_i c6
        all_goals walk_at "rd"
        · exact o1 dn (by omega)
        · exact ⟨y, _, rfl, intText_figs fy ny ly, ly, o2 dn (by omega)⟩
    · have dn : ¬ (1 < (tl y).length ∧ (tl y).head? = some 48) := fun z => by omega
      walk_at "if"
      all_goals rename_i c6
      all_goals walk_at "rd"
      · exact o1 dn (by omega)
      · exact ⟨y, _, rfl, intText_figs fy ny ly, ly, o2 dn (by omega)⟩
end
end Mn

namespace Mn
open PySem PySem.Spec PyProof.Rows L2 TL
open PySem.Builtin PySem.Builtin.Str
/-! ### an entry's text: what it shows -/
def Dec (l : List Nat) (n : Nat) (w nm : List Nat) : Prop := ∃ hd, l = hd ++ 32 :: padL w 8 32 ++ 32 :: nm ∧ turnL hd = some n ∧ w ∈ words9.map tl ∧ fitL nm = true
theorem pad_len : ∀ w ∈ words9.map tl, (padL w 8 32).length = 8 := by decide +kernel
theorem pad_inj : ∀ w ∈ words9.map tl, ∀ v ∈ words9.map tl, padL w 8 32 = padL v 8 32 → w = v := by decide +kernel
theorem strip_pad : ∀ w ∈ words9, Txt.stripChars (Txt.rjust w 8) " " = w := by decide +kernel
theorem first_eq {l m a b : List Nat} (h : l = a ++ 32 :: b) (ha : 32 ∉ a) : ∀ i, (32 ∉ l.take i) → (i = l.length ∨ l[i]? = some 32) → i = a.length := fun i h1 h2 => by
  rcases Nat.lt_trichotomy i a.length with c | c | c
  · exfalso
    rcases h2 with h2 | h2
    · rw [h, List.length_append] at h2
      omega
    · rw [h, List.getElem?_append_left c] at h2
      exact ha (List.mem_of_getElem? h2)
  · exact c
  · refine absurd ?_ h1
    rw [h, List.take_append]
    refine List.mem_append_right _ ?_
    obtain ⟨k, e⟩ : ∃ k, i - a.length = k + 1 := ⟨i - a.length - 1, by omega⟩
    rw [e, List.take_succ_cons]
    exact List.mem_cons_self
theorem turn_figs {l : List Nat} {n : Nat} (h : turnL l = some n) : figs l = true ∧ l ≠ [] ∧ (bareL l).length ≤ 60 ∧ n = NumText.digitsVal (bareL l) := by
  unfold turnL at h
  split at h
  · rename_i c
    rw [Bool.and_eq_true, Bool.and_eq_true, decide_eq_true_eq, decide_eq_true_eq] at c
    exact ⟨c.1.2, c.1.1, c.2, (Option.some.inj h).symm⟩
  · cases h
theorem turn_of {l : List Nat} (h1 : figs l = true) (h2 : l ≠ []) (h3 : (bareL l).length ≤ 60) : turnL l = some (NumText.digitsVal (bareL l)) := by
  unfold turnL
  rw [h1, decide_eq_true h2, decide_eq_true h3]
  rfl
theorem figs_free {l : List Nat} (h : figs l = true) : 32 ∉ l := fun hm => by
  have := figs_iff.mp h 32 hm
  omega
theorem fit_free {l : List Nat} (h : fitL l = true) : 32 ∉ l := fun hm => by
  unfold fitL at h
  rw [Bool.and_eq_true, List.all_eq_true] at h
  have := h.2 32 hm
  revert this
  decide
theorem fit_len {l : List Nat} (h : fitL l = true) : 1 ≤ l.length ∧ l.length ≤ 12 := by
  unfold fitL at h
  rw [Bool.and_eq_true, Bool.and_eq_true, decide_eq_true_eq, decide_eq_true_eq] at h
  exact h.1
/-- read off at the first blank -/
theorem dec_at {l : List Nat} {i n : Nat} {w nm : List Nat} (h1 : 32 ∉ l.take i) (h2 : i = l.length ∨ l[i]? = some 32) :
    Dec l n w nm ↔ w ∈ words9.map tl ∧ (l.drop i).take 10 = 32 :: padL w 8 32 ++ [32] ∧ turnL (l.take i) = some n ∧ nm = l.drop (i + 10) ∧ fitL nm = true := by
  constructor
  · rintro ⟨hd, e, ht, hw, hf⟩
    have ei : i = hd.length := first_eq (m := []) (b := padL w 8 32 ++ 32 :: nm) (by rw [e, List.append_assoc]; rfl) (figs_free (turn_figs ht).1) i h1 h2
    have e2 : l.drop i = 32 :: padL w 8 32 ++ 32 :: nm := by rw [e, ei, List.append_assoc, List.drop_left]
    have lp := pad_len w hw
    refine ⟨hw, ?_, ?_, ?_, hf⟩
    · rw [e2]
      have : 32 :: padL w 8 32 ++ 32 :: nm = (32 :: padL w 8 32 ++ [32]) ++ nm := by simp
      rw [this, List.take_append_of_le_length (by simp [lp]), List.take_of_length_le (by simp [lp])]
    · rw [e, ei, List.append_assoc, List.take_left]
      exact ht
    · rw [← List.drop_drop, e2]
      have : 32 :: padL w 8 32 ++ 32 :: nm = (32 :: padL w 8 32 ++ [32]) ++ nm := by simp
      rw [this, List.drop_append_of_le_length (by simp [lp]), List.drop_of_length_le (by simp [lp])]
      rfl
  · rintro ⟨hw, e1, ht, e2, hf⟩
    refine ⟨l.take i, ?_, ht, hw, hf⟩
    have e3 : l.drop i = (l.drop i).take 10 ++ (l.drop i).drop 10 := (List.take_append_drop 10 _).symm
    rw [e1, List.drop_drop, ← e2] at e3
    have e4 := (List.take_append_drop i l).symm
    rw [e3] at e4
    rw [List.append_assoc]
    refine e4.trans ?_
    simp
theorem dec_uni {l : List Nat} {n n' : Nat} {w w' nm nm' : List Nat} (h : Dec l n w nm) (h' : Dec l n' w' nm') : n = n' ∧ w = w' ∧ nm = nm' := by
  obtain ⟨hd, e, ht, hw, hf⟩ := h
  have h1 : 32 ∉ l.take hd.length := by rw [e, List.append_assoc, List.take_left]; exact figs_free (turn_figs ht).1
  have h2 : hd.length = l.length ∨ l[hd.length]? = some 32 := .inr (by rw [e, List.append_assoc, List.getElem?_append_right (Nat.le_refl _), Nat.sub_self]; rfl)
  have a := (dec_at h1 h2).mp ⟨hd, e, ht, hw, hf⟩
  have b := (dec_at h1 h2).mp h'
  refine ⟨Option.some.inj (a.2.2.1.symm.trans b.2.2.1), ?_, a.2.2.2.1.trans b.2.2.2.1.symm⟩
  have e := a.2.1.symm.trans b.2.1
  have e := List.append_cancel_right e
  exact pad_inj w a.1 w' b.1 (List.cons.inj e).2
/-! ### a text cut at its first blank, at its last -/
theorem cut_first : ∀ l : List Nat, 32 ∉ l ∨ ∃ a b, l = a ++ 32 :: b ∧ 32 ∉ a
  | [] => .inl List.not_mem_nil
  | c :: r => by
    by_cases h : c = 32
    · exact .inr ⟨[], r, by rw [h]; rfl, List.not_mem_nil⟩
    · rcases cut_first r with k | ⟨a, b, rfl, k⟩
      · exact .inl fun hm => (List.mem_cons.mp hm).elim (fun e => h e.symm) k
      · exact .inr ⟨c :: a, b, rfl, fun hm => (List.mem_cons.mp hm).elim (fun e => h e.symm) k⟩
theorem cut_last (l : List Nat) : 32 ∉ l ∨ ∃ a b, l = a ++ 32 :: b ∧ 32 ∉ b := by
  rcases cut_first l.reverse with h | ⟨a, b, e, h⟩
  · exact .inl fun hm => h (List.mem_reverse.mpr hm)
  · refine .inr ⟨b.reverse, a.reverse, ?_, fun hm => h (List.mem_reverse.mp hm)⟩
    rw [← List.reverse_reverse l, e]
    simp
theorem blank_tl : tl (" " : Str) = [32] := rfl
theorem part_spec (x : Str) : (32 ∉ tl x ∧ Txt.partition x " " = (x, Str.empty, Str.empty)) ∨ ∃ a b : Str, tl x = tl a ++ 32 :: tl b ∧ 32 ∉ tl a ∧ Txt.partition x " " = (a, (" " : Str), b) := by
  rcases cut_first (tl x) with h | ⟨a, b, e, h⟩
  · exact .inl ⟨h, partition_none blank_tl h⟩
  · refine .inr ⟨⟨a.toArray⟩, ⟨b.toArray⟩, e, h, ?_⟩
    have ex : x = (⟨a.toArray⟩ : Str) ++ " " ++ (⟨b.toArray⟩ : Str) := ext_tl (by rw [tl_append, tl_append, e]; simp [blank_tl])
    rw [ex]
    exact partition_app (a := ⟨a.toArray⟩) (b := ⟨b.toArray⟩) blank_tl h
theorem rpart_spec (x : Str) : (32 ∉ tl x ∧ Txt.rpartition x " " = (Str.empty, Str.empty, x)) ∨ ∃ a b : Str, tl x = tl a ++ 32 :: tl b ∧ 32 ∉ tl b ∧ Txt.rpartition x " " = (a, (" " : Str), b) := by
  have at_ : ∀ i, StrLaws.At x " " x.length i ↔ (tl x)[i]? = some 32 := fun i => StrLaws.subAt_one x 32 i
  have lx := len_tl x
  unfold Txt.rpartition
  rcases StrLaws.last_spec x " " with ⟨e, h⟩ | ⟨i, e, h1, h2⟩
  · rw [e]
    refine .inl ⟨fun hm => ?_, rfl⟩
    obtain ⟨i, hi⟩ := List.mem_iff_getElem?.mp hm
    exact h i ((at_ i).mpr hi)
  · rw [e]
    have h1 := (at_ i).mp h1
    obtain ⟨hi, g⟩ := List.getElem?_eq_some_iff.mp h1
    refine .inr ⟨strSub x 0 i, strSub x (i + 1) x.length, ?_, ?_, rfl⟩
    · rw [tl_strSub, tl_strSub_end, List.drop_zero, Nat.sub_zero]
      rw [← g, ← List.drop_eq_getElem_cons hi, List.take_append_drop]
    · rw [tl_strSub_end]
      intro hm
      obtain ⟨k, hk⟩ := List.mem_iff_getElem?.mp hm
      rw [List.getElem?_drop] at hk
      exact h2 (i + 1 + k) (by omega) ((at_ _).mpr hk)
theorem cut_uni {a b c d : List Nat} (h : a ++ 32 :: b = c ++ 32 :: d) (hb : 32 ∉ b) (hd : 32 ∉ d) : a = c ∧ b = d := by
  have key : ∀ {a c b d : List Nat}, a ++ 32 :: b = c ++ 32 :: d → 32 ∉ a → 32 ∉ c → a = c ∧ b = d := fun {a c b d} h ha hc => by
    have e := first_eq (m := []) (l := a ++ 32 :: b) rfl ha c.length (by rw [h, List.take_left]; exact hc) (.inr (by rw [h, List.getElem?_append_right (Nat.le_refl _), Nat.sub_self]; rfl))
    have := List.append_inj h e.symm
    exact ⟨this.1, (List.cons.inj this.2).2⟩
  have r := congrArg List.reverse h
  simp only [List.reverse_append, List.reverse_cons, List.append_assoc, List.singleton_append] at r
  have := key r (fun z => hb (List.mem_reverse.mp z)) (fun z => hd (List.mem_reverse.mp z))
  exact ⟨List.reverse_inj.mp this.2, List.reverse_inj.mp this.1⟩
/-! ### the turn: lstrip of noughts, then number_in -/
theorem tl_lstrip (x : Str) : tl (Txt.lstripChars x "0") = (tl x).dropWhile (fun c => decide (c = 48)) := by
  have h0 : ∀ c, ("0" : Str).cps.contains c = decide (c = 48) := fun c => by
    show (Array.contains #[48] c) = _
    rw [Bool.eq_iff_iff]
    simp [Array.contains_eq_mem]
  have e : ("0" : Str).cps.contains = fun c => decide (c = 48) := funext h0
  unfold Txt.lstripChars
  rw [stripBy_eq, tl_strSub, e]
  unfold stripLo stripHi
  rw [if_pos rfl, if_neg (by decide), len_tl x, List.take_of_length_le (by rw [List.length_drop]; exact Nat.le_refl _)]
  have : ∀ l : List Nat, l.drop (l.takeWhile (fun c => decide (c = 48))).length = l.dropWhile (fun c => decide (c = 48)) := fun l => by
    induction l with
    | nil => rfl
    | cons a r ih =>
      by_cases h : a = 48
      · rw [List.takeWhile_cons_of_pos (by simpa using h), List.dropWhile_cons_of_pos (by simpa using h)]
        exact ih
      · rw [List.takeWhile_cons_of_neg (by simpa using h), List.dropWhile_cons_of_neg (by simpa using h)]
        rfl
  exact this _
theorem figs_drop (l : List Nat) : figs (l.dropWhile (fun c => decide (c = 48))) = figs l := by
  induction l with
  | nil => rfl
  | cons a r ih =>
    by_cases h : a = 48
    · rw [List.dropWhile_cons_of_pos (by simpa using h), ih]
      subst h
      rfl
    · rw [List.dropWhile_cons_of_neg (by simpa using h)]
theorem figs_bare (l : List Nat) (h : l ≠ []) : figs (bareL l) = figs l := by
  unfold bareL
  split
  · rename_i e
    have := figs_drop l
    rw [e] at this
    rw [← this]
    rfl
  · exact figs_drop l
theorem bare_head (l : List Nat) : ¬ (1 < (bareL l).length ∧ (bareL l).head? = some 48) := by
  unfold bareL
  split
  · intro z
    have := z.1
    simp at this
  · rename_i e
    intro z
    have h := z.2
    have : ∀ l : List Nat, (l.dropWhile (fun c => decide (c = 48))).head? ≠ some 48 := fun l => by
      induction l with
      | nil => simp
      | cons a r ih =>
        by_cases h : a = 48
        · rw [List.dropWhile_cons_of_pos (by simpa using h)]
          exact ih
        · rw [List.dropWhile_cons_of_neg (by simpa using h)]
          intro z
          exact h (Option.some.inj z)
    exact this l h
theorem bare_ne (l : List Nat) : bareL l ≠ [] := by
  unfold bareL
  split
  · exact List.cons_ne_nil _ _
  · assumption
theorem numOk_bare (l : List Nat) (h : l ≠ []) : numOk (bareL l) = figs l := by
  unfold numOk
  rw [figs_bare l h, decide_eq_true (bare_ne l), Bool.true_and]
  have := bare_head l
  by_cases a : 1 < (bareL l).length
  · rw [decide_eq_true a, decide_eq_false (fun z => this ⟨a, z⟩)]
    simp
  · rw [decide_eq_false a]
    simp
theorem val_lt_aux : ∀ (l : List Nat) (a : Nat), NumText.AllDigits l → l.foldl (fun acc c => acc * 10 + (c - 48)) a < (a + 1) * 10 ^ l.length
  | [], a, _ => by
    show a < (a + 1) * 1
    omega
  | c :: r, a, h => by
    have h2 := h c List.mem_cons_self
    refine Nat.lt_of_lt_of_le (val_lt_aux r (a * 10 + (c - 48)) fun d hd => h d (List.mem_cons_of_mem _ hd)) ?_
    show _ ≤ (a + 1) * 10 ^ (r.length + 1)
    rw [Nat.pow_succ, Nat.mul_comm (10 ^ r.length) 10, ← Nat.mul_assoc]
    exact Nat.mul_le_mul_right _ (by omega)
theorem val_lt (l : List Nat) (h : NumText.AllDigits l) : NumText.digitsVal l < 10 ^ l.length := by
  have := val_lt_aux l 0 h
  rw [Nat.zero_add, Nat.one_mul] at this
  exact this
theorem numL_back {l : List Nat} (h : numOk l = true) : numL (NumText.digitsVal l) = l := by
  unfold numOk at h
  rw [Bool.and_eq_true, Bool.and_eq_true, decide_eq_true_eq, Bool.not_eq_true', Bool.and_eq_false_iff, decide_eq_false_iff_not, decide_eq_false_iff_not] at h
  obtain ⟨⟨h1, h2⟩, h3⟩ := h
  have hd := figs_iff.mp h2
  obtain ⟨c, r, rfl⟩ := List.exists_cons_of_ne_nil h1
  have hc := hd c List.mem_cons_self
  unfold numL
  rw [NumText.toDigits_digitsVal r.length (c :: r) rfl hd ?_]
  · rw [List.map_map]
    refine (List.map_congr_left fun a ha => ?_).trans (List.map_id _)
    have := hd a ha
    have : a < 55296 := by omega
    show (Char.ofNat a).toNat = a
    have e : (Char.ofNat a).toNat = a := by
      unfold Char.ofNat
      rw [dif_pos (.inl this)]
      rfl
    exact e
  · by_cases hr : r.length = 0
    · exact .inl hr
    · refine .inr ⟨c, r, rfl, ?_⟩
      rcases h3 with h3 | h3
      · exact absurd (by rw [List.length_cons]; omega) h3
      · have : c ≠ 48 := fun e => h3 (by rw [e]; rfl)
        omega
theorem len60 {l : List Nat} (h : numOk l = true) : l.length ≤ 60 ↔ NumText.digitsVal l < 10 ^ 60 := by
  have hf : figs l = true := by
    unfold numOk at h
    rw [Bool.and_eq_true, Bool.and_eq_true] at h
    exact h.1.2
  constructor
  · intro hl
    exact Nat.lt_of_lt_of_le (val_lt l (figs_iff.mp hf)) (Nat.pow_le_pow_right (by decide) hl)
  · intro hv
    have := numL_len (k := 60) (by decide) hv
    rw [numL_back h] at this
    exact this
/-- what number_in says of the head's bare figures is the turn -/
theorem turn_num {hd bare : Str} (h : tl hd ≠ []) (e : tl bare = bareL (tl hd)) : (∀ n, turnL (tl hd) = some n → numOf bare = some (n : Int) ∧ (n : Int) ≤ 10 ^ 60 - 1) ∧ (turnL (tl hd) = none → ∀ v, numOf bare = some v → ¬ v ≤ 10 ^ 60 - 1) := by
  have ok := numOk_bare (tl hd) h
  have p60 : ((10 ^ 60 : Nat) : Int) = (10 : Int) ^ 60 := by decide +kernel
  constructor
  · intro n hn
    obtain ⟨f, _, l60, rfl⟩ := turn_figs hn
    rw [f] at ok
    refine ⟨?_, ?_⟩
    · unfold numOf
      rw [e, if_pos ok]
    · have := (len60 ok).mp l60
      omega
  · intro hn v hv
    unfold numOf at hv
    rw [e] at hv
    split at hv
    · rename_i c
      have hv := Option.some.inj hv
      subst hv
      intro hle
      have f : figs (tl hd) = true := ok.symm.trans c
      have := (len60 c).mpr (by omega)
      rw [turn_of f h this] at hn
      cases hn
    · cases hv
end Mn

namespace Mn
open PySem PySem.Spec PyProof.Rows L2 TL
open PySem.Builtin PySem.Builtin.Str
theorem len_stripBy (g : Nat → Bool) (l r : Bool) (x : Str) : (Txt.stripBy g l r x).length ≤ x.length := by
  rw [stripBy_eq, len_tl, tl_strSub, len_tl x, List.length_take, List.length_drop]
  omega
section
variable {P : Program} {w : World} {K : PySem.W.Frag} {mg : Str → Option Value} {base : Heap}
/-- what the text x shows -/
def Ans (x : Str) (v : V) (H : Hp) : Prop := (v = .non ∧ ∀ n w nm, ¬ Dec (tl x) n w nm) ∨ ∃ (t : Addr) (n : Nat) (w nm : Str), v = .ref t ∧ H t = some (.tup [.int (n : Int), .str w, .str nm]) ∧ Dec (tl x) n (tl w) (tl nm)
def spSeen : Sp := fun vs H Q _ => ∃ x : Str, vs = [.str x] ∧ x.length ≤ 300 ∧ ∀ v H', Same H H' → Ans x v H' → Q v H'
theorem in_words {wd : Str} : inV (.str wd) (words9.map V.str) = decide (wd ∈ words9) := by
  rw [Bool.eq_iff_iff, decide_eq_true_eq]
  unfold inV
  rw [List.any_map, List.any_eq_true]
  constructor
  · rintro ⟨y, hy, e⟩
    have e : decide (y = wd) = true := e
    rw [← of_decide_eq_true e]
    exact hy
  · exact fun h => ⟨wd, h, decide_eq_true rfl⟩
theorem ok_seen {CN f t : Addr} {fd : FuncData} (F : Fun K "seen" "seen" s_seen f fd) (T : Bt mg) (e_NoNumber : ErrK K mg "NoNumber" CN) (eN : PySem.W.exmOne K (.ref CN) (.ref CN) = some true) (hW : mg "WORDS" = some (.ref t)) (sW : ∀ H : Hp, SqT K H t (words9.map V.str))
    (CF : Cal P w K mg base CX0 "fit_name" 1 ["text"] [] spFit) (CM : Cal P w K mg base (CXN P w) "number_in" 1 ["text", "most"] [] (spNum CN)) : FnOk P w K mg base CX0 2 f fd ["text"] spSeen := by
  refine F.ok sc_seen (fun vs H Q E h => ?_) (fun cdv A outer s H vs Q E hr h => ?_)
  · obtain ⟨x, rfl, _⟩ := h
    rfl
  obtain ⟨x, rfl, hl, q⟩ := h
  have hz := PySem.sizeLine_eq
  have lx := len_tl x
  refine ⟨_, (pss_cons (ps_asg (pe_partition (pv 0) pe_str) (kTup (K := K) rfl rfl (pgs_cons (pg_name (i := 1) sc_seen.nd rfl (Or.inl rfl)) (pgs_cons (pg_name (i := 2) sc_seen.nd rfl (Or.inl rfl)) (pgs_cons (pg_name (i := 3) sc_seen.nd rfl (Or.inl rfl)) pgs_nil)))))
    (pss_cons (ps_asg (kBm (K := K) rfl PySem.F.plainAttrs_str PySem.F.slot_str_rpartition PySem.F.type_str_rpartition mt_rpartition (pv 3) (pa_cons pe_str pa_nil)) (kTup (K := K) rfl rfl (pgs_cons (pg_name (i := 4) sc_seen.nd rfl (Or.inl rfl)) (pgs_cons (pg_name (i := 5) sc_seen.nd rfl (Or.inl rfl)) (pgs_cons (pg_name (i := 6) sc_seen.nd rfl (Or.inl rfl)) pgs_nil)))))
    (pss_cons (ps_set (i := 7) sc_seen.nd rfl (Or.inl rfl) (kBm (K := K) rfl PySem.F.plainAttrs_str PySem.F.slot_str_strip PySem.F.type_str_strip mt_stripChars (pv 4) (pa_cons pe_str pa_nil)))
    (pss_cons (ps_if (PW.pt (pw_or (pt_cmpR op_eq (pv 2) pe_str (nomark _)) (pw_or (pt_cmpR op_eq (pv 5) pe_str (nomark _)) (pw_or (pt_cmpR (kNotIn (K := K) rfl) (pv 7) (pe_gv (mg := mg) rfl rfl) rfl) (pw_or1 (pt_not (pt_val (pe_ca (P := P) (w := w) (K := K) (mg := mg) (base := base) ⟨rfl, rfl, rfl, rfl, rfl⟩ hr rfl (pa_cons (pv 6) pa_nil))))))))) (pss_one (ps_ret pe_non)) pss_nil)
    (pss_cons (ps_set (i := 8) sc_seen.nd rfl (Or.inl rfl) (kBm (K := K) rfl PySem.F.plainAttrs_str PySem.F.slot_str_lstrip PySem.F.type_str_lstrip mt_lstripChars (pv 1) (pa_cons pe_str pa_nil)))
    (C8.pss_cut (ps_if (PW.pt (pw_and (pt_cmpR op_eq (pv 8) pe_str (nomark _)) (pw_and1 (pt_cmpR op_ne (pv 1) pe_str (nomark _))))) (pss_one (ps_set (i := 8) sc_seen.nd rfl (Or.inl rfl) pe_str)) pss_nil)
    (pss_cons (ps_try_onlyE (Wout := fun _ _ _ _ => False) (by exact (pss_one (ps_set (i := 10) sc_seen.nd rfl (Or.inl rfl) (pe_tup (pa_cons (pv 9) (pa_cons (pv 7) (pa_cons (pv 6) pa_nil))))))) rfl rfl ⟨rfl, by decide, Or.inl e_NoNumber.g⟩ takes0 (fun W pn xe tk _ => by exact (pss_one (ps_set (i := 9) sc_seen.nd rfl (Or.inl rfl) (pe_cae (P := P) (w := w) (K := K) (mg := mg) (base := base) ⟨rfl, rfl, rfl, rfl, rfl⟩ hr rfl (tk_weak tk) (pa_cons (pv 8) (pa_cons (pe_op op_sub (pe_op op_pow pe_int pe_int) pe_int) pa_nil)))))) (fun a oe cls d pn hz hv => by exact (pss_one (ps_ret pe_non))))
    (pss_cons (ps_if (pt_cmpR op_ne (pv 4) (kBm (K := K) rfl PySem.F.plainAttrs_str PySem.F.slot_str_rjust PySem.F.type_str_rjust mt_rjust (pv 7) (pa_cons pe_int pa_nil)) (nomark _)) (pss_one (ps_ret pe_non)) pss_nil)
    (pss_one (ps_ret (pv 10))))))))))), ?_⟩
  have nn : (∀ n w nm, ¬ Dec (tl x) n w nm) → ∀ H', Same H H' → Q .non H' := fun h H' s => q _ _ s (.inl ⟨rfl, h⟩)
  walk_at "rd"
  refine ⟨x, _, rfl, rfl, rfl, by omega, fun p1 hp1 => ?_⟩
  obtain ⟨hd, gap, rest, e1, g0, g1, lh, lr⟩ : ∃ hd gap rest, Txt.partition x " " = (hd, gap, rest) ∧ (gap = "" → ∀ n w nm, ¬ Dec (tl x) n w nm) ∧ (gap ≠ "" → tl x = tl hd ++ 32 :: tl rest ∧ 32 ∉ tl hd) ∧ hd.length ≤ 300 ∧ rest.length ≤ 300 := by
    have fp := fact_partition x " "
    rcases part_spec x with ⟨h, e⟩ | ⟨a, b, ex, h, e⟩
    · rw [e] at fp; dsimp only at fp
      refine ⟨_, _, _, e, fun _ n w nm => ?_, fun z => absurd rfl z, by omega, by have := fp.2.2; omega⟩
      rintro ⟨hd, ex, _⟩
      refine h ?_
      rw [ex, List.append_assoc]
      exact List.mem_append_right _ List.mem_cons_self
    · rw [e] at fp; dsimp only at fp
      exact ⟨_, _, _, e, fun z => absurd (congrArg tl z) (by decide), fun _ => ⟨ex, h⟩, by have := fp.1; omega, by have := fp.2.2; omega⟩
  rw [e1] at *
  show gTup _ _ _ _ _ _ _
  dsimp only
  have s1 := same_new hp1 (.tup [V.str hd, V.str gap, V.str rest])
  walk_at "rd"
  refine ⟨rest, _, rfl, rfl, rfl, by omega, fun p2 hp2 => ?_⟩
  obtain ⟨mid, space, nm, e2, b0, b1, lm, ln⟩ : ∃ mid space nm, Txt.rpartition rest " " = (mid, space, nm) ∧ (space = "" → 32 ∉ tl rest) ∧ (space ≠ "" → tl rest = tl mid ++ 32 :: tl nm ∧ 32 ∉ tl nm) ∧ mid.length ≤ 300 ∧ nm.length ≤ 300 := by
    have fp := fact_rpartition rest " "
    rcases rpart_spec rest with ⟨h, e⟩ | ⟨a, b, ex, h, e⟩
    · rw [e] at fp; dsimp only at fp
      exact ⟨_, _, _, e, fun _ => h, fun z => absurd rfl z, by have := fp.1; omega, by have := fp.2.2; omega⟩
    · rw [e] at fp; dsimp only at fp
      exact ⟨_, _, _, e, fun z => absurd (congrArg tl z) (by decide), fun _ => ⟨ex, h⟩, by have := fp.1; omega, by have := fp.2.2; omega⟩
  rw [e2] at *
  show gTup _ _ _ _ _ _ _
  dsimp only
  have s2 := same_upd (o := .tup [V.str mid, V.str space, V.str nm]) s1 hp2
  walk_at "rd"
  refine ⟨mid, _, rfl, rfl, by omega, ?_⟩
  have lw : (Txt.stripChars mid " ").length ≤ mid.length := len_stripBy _ _ _ _
  obtain ⟨wd, ew⟩ : ∃ wd, Txt.stripChars mid " " = wd := ⟨_, rfl⟩
  rw [ew]
  rw [ew] at lw
  generalize upd (upd H p1 (.tup [V.str hd, V.str gap, V.str rest])) p2 (.tup [V.str mid, V.str space, V.str nm]) = H2 at s2 ⊢
  walk_at "rd"
  walk_at "if"
  · rename_i c
    walk_at "rd"
    exact nn (g0 (V.str.inj c)) _ s2
  rename_i c1
  have c1 : gap ≠ "" := fun z => c1 (congrArg V.str z)
  obtain ⟨ex, hf⟩ := g1 c1
  -- what is shown, told by rest
  have red : ∀ n w nm', Dec (tl x) n w nm' → tl rest = padL w 8 32 ++ 32 :: nm' ∧ turnL (tl hd) = some n ∧ w ∈ words9.map tl ∧ fitL nm' = true := fun n w nm' hD => by
    obtain ⟨hd', e, ht, hw, hfit⟩ := hD
    have e := ex.symm.trans e
    rw [List.append_assoc] at e
    have e3 := first_eq (l := tl hd ++ 32 :: tl rest) (m := []) rfl hf hd'.length (by rw [e, List.take_left]; exact figs_free (turn_figs ht).1) (.inr (by rw [e, List.getElem?_append_right (Nat.le_refl _), Nat.sub_self]; rfl))
    have e4 := List.append_inj e e3.symm
    exact ⟨(List.cons.inj e4.2).2, by rw [e4.1]; exact ht, hw, hfit⟩
  walk_at "rd"
  walk_at "if"
  · rename_i c
    walk_at "rd"
    refine nn (fun n w nm' hD => b0 (V.str.inj c) ?_) _ s2
    rw [(red n w nm' hD).1]
    exact List.mem_append_right _ List.mem_cons_self
  rename_i c2
  obtain ⟨er, hf2⟩ := b1 fun z => c2 (congrArg V.str z)
  have red2 : ∀ n w nm', Dec (tl x) n w nm' → tl mid = padL w 8 32 ∧ tl nm = nm' ∧ turnL (tl hd) = some n ∧ w ∈ words9.map tl ∧ fitL nm' = true := fun n w nm' hD => by
    obtain ⟨h1, h2, h3, h4⟩ := red n w nm' hD
    have := cut_uni (er.symm.trans h1) hf2 (fit_free h4)
    exact ⟨this.1, this.2, h2, h3, h4⟩
  -- the word
  have wordIs : ∀ w ∈ words9.map tl, tl mid = padL w 8 32 → w = tl wd ∧ wd ∈ words9 := fun w hw e => by
    obtain ⟨u, hu, rfl⟩ := List.mem_map.mp hw
    have e3 : mid = Txt.rjust u 8 := ext_tl (by rw [e, tl_rjust]; rfl)
    have e4 := strip_pad u hu
    rw [← e3, ew] at e4
    rw [e4]
    exact ⟨rfl, hu⟩
  walk_at "rd"
  refine w_gv (v := .ref t) hW rfl ?_
  walk_at "rd"
  refine w_ninT (sW _) rfl rfl ?_
  rw [in_words]
  walk_at "rd"
  by_cases cw : wd ∈ words9
  case neg =>
    rw [decide_eq_false cw, Bool.not_false]
    walk_at "rd"
    refine nn (fun n w nm' hD => ?_) _ s2
    obtain ⟨h1, _, _, h4, _⟩ := red2 n w nm' hD
    exact cw (wordIs w h4 h1).2
  rw [decide_eq_true cw, Bool.not_true]
  walk_at "rd"
  refine w_ca CF (by decide) ?_
  walk_at "rd"
  refine ⟨nm, rfl, by omega, ?_⟩
  walk_at "rd"
  by_cases cf : fitL (tl nm) = true
  case neg =>
    rw [Bool.eq_false_iff.mpr cf, Bool.not_false]
    walk_at "rd"
    refine nn (fun n w nm' hD => ?_) _ s2
    obtain ⟨_, h2, _, _, h5⟩ := red2 n w nm' hD
    exact cf (by rw [h2]; exact h5)
  rw [cf, Bool.not_true]
  walk_at "rd"
  refine ⟨hd, _, rfl, rfl, by omega, ?_⟩
  have et := tl_lstrip hd
  have lb : (Txt.lstripChars hd "0").length ≤ hd.length := len_stripBy _ _ _ _
  generalize Txt.lstripChars hd "0" = bare at et lb ⊢
  walk_at "rd"
  refine w_cut (fun σ H' => ∃ bare2 : Str, σ = [some (.str x), some (.str hd), some (.str gap), some (.str rest), some (.str mid), some (.str space), some (.str nm), some (.str wd), some (.str bare2), none, none] ∧ H2 = H' ∧ bare2.length ≤ 640 ∧ (tl hd ≠ [] → tl bare2 = bareL (tl hd)) ∧ (tl hd = [] → bare2 = "")) ?_ (fun σ H' hm => ?_)
  · walk_at "rd"
    walk_at "if"
    all_goals rename_i c3
    all_goals walk_at "rd"
    · have c3 := eq_nil_tl.mp (V.str.inj c3)
      by_cases c4 : hd = ""
      · rw [decide_eq_true (congrArg V.str c4), Bool.not_true]
        walk_at "rd"
        refine ⟨_, rfl, rfl, by omega, fun z => absurd (eq_nil_tl.mp c4) z, fun _ => eq_nil_tl.mpr c3⟩
      · rw [decide_eq_false (fun z => c4 (V.str.inj z)), Bool.not_false]
        walk_at "rd"
        refine ⟨_, rfl, rfl, by decide, fun _ => ?_, fun z => absurd (eq_nil_tl.mpr z) c4⟩
        unfold bareL
        rw [if_pos (et.symm.trans c3)]
        rfl
    · have c3 : ¬ tl bare = [] := fun z => c3 (congrArg V.str (eq_nil_tl.mpr z))
      refine ⟨_, rfl, rfl, by omega, fun _ => ?_, fun z => absurd (et.trans (by rw [z]; rfl)) c3⟩
      unfold bareL
      rw [if_neg (fun z => c3 (et.trans z)), et]
  obtain ⟨bare2, rfl, rfl, lb2, eb, eb0⟩ := hm
  walk_at "rd"
  have p60 : (10 : Int) ^ (60 : Int).toNat - 1 = 10 ^ 60 - 1 := rfl
  refine w_cae CM (by decide) ?_
  walk_at "rd"
  rw [p60]
  have he : (∀ n, turnL (tl hd) = some n → numOf bare2 = some (n : Int) ∧ (n : Int) ≤ 10 ^ 60 - 1) ∧ (turnL (tl hd) = none → ∀ v, numOf bare2 = some v → ¬ v ≤ 10 ^ 60 - 1) := by
    by_cases h0 : tl hd = []
    · rw [h0, eb0 h0]
      refine ⟨fun n z => ?_, fun _ v z => ?_⟩
      · have z : (none : Option Nat) = some n := z
        cases z
      · have z : (none : Option Int) = some v := z
        cases z
    · exact turn_num h0 (eb h0)
  refine ⟨bare2, _, rfl, lb2, fun v hv le => ?_, fun no => ?_⟩
  · obtain ⟨n, hn, rfl⟩ : ∃ n, turnL (tl hd) = some n ∧ v = (n : Int) := by
      cases ht : turnL (tl hd) with
      | none => exact absurd le (he.2 ht v hv)
      | some n => exact ⟨n, rfl, Option.some.inj (hv.symm.trans (he.1 n ht).1)⟩
    show gName 9 (V.int n) _ _ _
    walk_at "rd"
    refine ⟨by walk_at "sz", fun p3 hp3 => ?_⟩
    walk_at "rd"
    refine ⟨wd, 8, rfl, rfl, by decide, ?_⟩
    walk_at "rd"
    have s3 := same_upd (o := .tup [V.int n, V.str wd, V.str nm]) s2 hp3
    walk_at "if"
    · rename_i c
      walk_at "rd"
      refine nn (fun n w nm' hD => c ?_) _ s3
      obtain ⟨h1, _, _, h4, _⟩ := red2 n w nm' hD
      obtain ⟨rfl, _⟩ := wordIs w h4 h1
      exact congrArg V.str (ext_tl (by rw [h1, tl_rjust]; rfl))
    · rename_i c
      have c := V.str.inj c
      walk_at "rd"
      refine q _ _ s3 (.inr ⟨p3, n, wd, nm, rfl, upd_same, tl hd, ?_, hn, List.mem_map_of_mem cw, cf⟩)
      rw [ex, er, c, tl_rjust, List.append_assoc]
      rfl
  · refine ⟨true, eN, fun _ a0 ha => ?_, fun z => nomatch z⟩
    walk_at "rd"
    refine nn (fun n w nm' hD => ?_) _ s2
    obtain ⟨_, _, h3, _, _⟩ := red2 n w nm' hD
    obtain ⟨h5, h6⟩ := he.1 n h3
    exact no _ h5 h6
end
end Mn

namespace Mn
open PySem PySem.Spec PyProof.Rows L2 TL
open PySem.Builtin PySem.Builtin.Str
section
variable {P : Program} {w : World} {K : PySem.W.Frag} {mg : Str → Option Value} {base : Heap}
theorem sign_at : ∀ i : Nat, i < 36 → ∃ c, (tl signs36)[i]? = some c ∧ alnum c = true := by decide +kernel
theorem joinL_ones : ∀ l : List Nat, joinL [] (l.map fun c => [c]) = l
  | [] => rfl
  | [c] => rfl
  | c :: d :: r => by
    have := joinL_ones (d :: r)
    show [c] ++ ([] ++ joinL [] ((d :: r).map fun c => [c])) = _
    rw [this]
    rfl
def spName : Sp := fun vs H Q _ => ∃ cell : Int, vs = [.int cell] ∧ ∀ x H', Same H H' → fitL (tl x) = true → Q (.str x) H'
theorem ok_name {f : Addr} {fd : FuncData} (F : Fun K "_law_name" "_law_name" s_law_name f fd) (T : Bt mg) : FnOk P w K mg base CX0 1 f fd ["_law_cell"] spName := by
  refine F.ok sc_law_name (fun vs H Q E h => ?_) (fun cdv A outer s H vs Q E hr h => ?_)
  · obtain ⟨cell, rfl, _⟩ := h
    rfl
  obtain ⟨cell, rfl, q⟩ := h
  have hz := PySem.sizeLine_eq
  refine ⟨_, (pss_cons (ps_set (i := 1) sc_law_name.nd rfl (Or.inr rfl) pe_str)
    (pss_cons (ps_set (i := 2) sc_law_name.nd rfl (Or.inl rfl) (pe_op op_add pe_int (pe_op op_mod (pv 0) pe_int)))
    (pss_one (ps_ret (pe_join pe_str (pe_lc (own := [("_law_k", 3)]) (g := gName 3) (by rfl) sc_law_name.nd (pi_range1 rfl T.range (pa_cons (pv 2) pa_nil)) (blkOk_by (own := [("_law_k", 3)]) (N := ["_law_cell", "_law_signs", "_law_size", "_law_k"]) (sc := defScope s_law_name) (by decide +kernel)) (fun _ _ _ _ _ => pg_name (i := 3) sc_law_name.nd rfl (Or.inl rfl)) (fun _ _ _ _ _ => pts_nil) (fun _ _ _ _ _ => by exact (pe_ix ix_str (pv 1) (pe_op op_mod (pe_op op_add (pe_op op_fdiv (pv 0) pe_int) (pe_op op_mul (pe_op op_mul pe_int (pv 3)) (pe_op op_mod (pe_op op_fdiv (pv 0) pe_int) pe_int))) pe_int) (fun _ _ => rfl))))))))), ?_⟩
  walk_at "rd"
  have n0 := Int.emod_nonneg cell (show (12 : Int) ≠ 0 by decide)
  have n1 := Int.emod_lt_of_pos cell (show (0 : Int) < 12 by decide)
  refine w_lcR (fun C i H' => Same H H' ∧ ∃ l : List Nat, l.length = i ∧ l.all alnum = true ∧ H' C = some (.lst (l.map fun c => V.str ⟨#[c]⟩))) (by omega) (by omega) (fun C hC => ⟨same_new hC _, [], rfl, rfl, upd_same⟩) (fun C i H' hC hi hm => ?_) (fun C H' hC hm => ?_)
  · obtain ⟨s1, l, ll, la, hl⟩ := hm
    walk_at "rd"
    refine ⟨_, _, rfl, rfl, .inl ⟨by decide, by decide⟩, ?_⟩
    walk_at "rd"
    have m0 := Int.emod_nonneg (cell / 7) (show (8 : Int) ≠ 0 by decide)
    have m1 := Int.emod_lt_of_pos (cell / 7) (show (0 : Int) < 8 by decide)
    refine ⟨_, _, rfl, rfl, .inr ⟨by omega, by omega⟩, ?_⟩
    walk_at "rd"
    generalize cell / 12 + 5 * (0 + (i : Int)) * (cell / 7 % 8) = z
    have k0 := Int.emod_nonneg z (show (36 : Int) ≠ 0 by decide)
    have k1 := Int.emod_lt_of_pos z (show (0 : Int) < 36 by decide)
    obtain ⟨k, ek⟩ : ∃ k : Nat, z % 36 = (k : Int) := ⟨(z % 36).toNat, by omega⟩
    rw [ek]
    obtain ⟨c, hc, ha⟩ := sign_at k (by omega)
    refine w_ixS (c := c) (by decide) (atI_nat hc) ?_
    refine ⟨_, hl, by rw [List.length_map]; omega, same_mut s1 hC, l ++ [c], ?_, ?_, ?_⟩
    · rw [List.length_append, ll]
      rfl
    · rw [List.all_append, la, List.all_cons, ha]
      rfl
    · rw [upd_same, List.map_append]
      rfl
  · obtain ⟨s1, l, ll, la, hl⟩ := hm
    have hl : H' C = some (.lst ((l.map fun c => (⟨#[c]⟩ : Str)).map V.str)) := by rw [hl, List.map_map]; rfl
    refine ⟨_, C, _, rfl, rfl, .inl (SqL.of hl), ?_, ?_⟩
    · have e1 : ∀ l : List Nat, (((l.map fun c => (⟨#[c]⟩ : Str)).map fun x => x.length).sum) = l.length := fun l => by
        induction l with
        | nil => rfl
        | cons a r ih =>
          rw [List.map_cons, List.map_cons, List.sum_cons, ih, List.length_cons]
          show 1 + _ = _
          omega
      show _ + _ * 0 ≤ _
      rw [Nat.mul_zero]
      have := e1 l
      simp only [Str.length] at this ⊢
      omega
    · refine q _ _ s1 ?_
      have e : tl (Txt.join "" (l.map fun c => (⟨#[c]⟩ : Str))) = l := by
        rw [join_eq, tl_join, List.map_map]
        exact joinL_ones l
      rw [e]
      unfold fitL
      rw [la, ll, decide_eq_true (by omega), decide_eq_true (by omega)]
      rfl
def spDue : Sp := fun vs H Q _ => ∃ x : Str, vs = [.str x] ∧ x.length ≤ 300 ∧ ∀ v H', Same H H' → Ans x v H' → Q v H'
theorem in_signs (c : Nat) : (!(occurrences signs36 ⟨#[c]⟩ 0 signs36.length 1).isEmpty) = alnum c := by
  rw [StrLaws.found_one]
  have e := sign_has c
  rw [Array.contains_eq_mem] at e
  rw [← e]
  exact decide_eq_decide.mpr Array.mem_toList_iff
theorem ok_due {f : Addr} {fd : FuncData} (F : Fun K "_law_due" "_law_due" s_law_due f fd) (T : Bt mg) (CW : Cal P w K mg base CX0 "_law_words" 1 [] [] spW9) (CP : Cal P w K mg base CX0 "_law_padded" 1 ["_law_text", "_law_width", "_law_sign"] [] spPad)
    (CG : Cal P w K mg base CX0 "_law_figures" 1 ["_law_text"] [] spFigures) : FnOk P w K mg base CX0 2 f fd ["_law_text"] spDue := by
  refine F.ok sc_law_due (fun vs H Q E h => ?_) (fun cdv A outer s H vs Q E hr h => ?_)
  · obtain ⟨x, rfl, _⟩ := h
    rfl
  obtain ⟨x, rfl, hl, q⟩ := h
  have hz := PySem.sizeLine_eq
  have lx := len_tl x
  refine ⟨_, (pss_cons (ps_set (i := 1) sc_law_due.nd rfl (Or.inl rfl) pe_int)
    (C8.pss_cut (ps_while PassesOwn.never (PW.pt (pw_and (pt_cmpR op_lt (pv 1) (pe_callB call_lenS (by rfl) T.len (by decide +kernel) (pa_cons (pv 0) pa_nil)) (nomark _)) (pw_and1 (pt_cmpR op_ne (pe_ix ix_str (pv 0) (pv 1) (fun _ _ => rfl)) pe_str (nomark _))))) (pss_one (ps_set (i := 1) sc_law_due.nd rfl (Or.inl rfl) (pe_op op_add (pv 1) pe_int))))
    (pss_cons (ps_set (i := 2) sc_law_due.nd rfl (Or.inl rfl) (pe_ca (P := P) (w := w) (K := K) (mg := mg) (base := base) ⟨rfl, rfl, rfl, rfl, rfl⟩ hr rfl (pa_cons (pe_slice sl_str (pv 0) po_none (po_some (pv 1))) pa_nil)))
    (pss_cons (ps_for PassesOwn.never rfl (kPiL (K := K) rfl (pe_ca0 (P := P) (w := w) (K := K) (mg := mg) (base := base) ⟨rfl, rfl, rfl, rfl, rfl⟩ hr rfl)) (pg_name (i := 3) sc_law_due.nd rfl (Or.inl rfl)) (pss_cons (ps_set (i := 4) sc_law_due.nd rfl (Or.inl rfl) (pe_op op_addS (pe_op op_addS pe_str (pe_ca (P := P) (w := w) (K := K) (mg := mg) (base := base) ⟨rfl, rfl, rfl, rfl, rfl⟩ hr rfl (pa_cons (pv 3) (pa_cons pe_int (pa_cons pe_str pa_nil))))) pe_str))
    (pss_cons (ps_set (i := 5) sc_law_due.nd rfl (Or.inl rfl) (pe_slice sl_str (pv 0) (po_some (pe_op op_add (pv 1) pe_int)) po_none))
    (pss_one (ps_if (PW.pt (pw_and (pt_cmpR op_eq (pe_slice sl_str (pv 0) (po_some (pv 1)) (po_some (pe_op op_add (pv 1) pe_int))) (pv 4) (nomark _)) (pw_and (pt_cmpR op_notNn (pv 2) pe_non (nomark _)) (pw_and1 (pt_chain op_le op_le pe_int (pe_callB call_lenS (by rfl) T.len (by decide +kernel) (pa_cons (pv 5) pa_nil)) pe_int))))) (pss_cons (ps_for PassesOwn.never rfl (pi_str (pv 5)) (pg_name (i := 6) sc_law_due.nd rfl (Or.inl rfl)) (pss_one (ps_if (pt_cmpR op_ninS (pv 6) pe_str rfl) (pss_one (ps_ret pe_non)) pss_nil)))
    (pss_one (ps_ret (pe_tup (pa_cons (pv 2) (pa_cons (pv 3) (pa_cons (pv 5) pa_nil))))))) pss_nil)))))
    (pss_one (ps_ret pe_non)))))), ?_⟩
  walk_at "rd"
  refine w_cut (fun σ H' => ∃ i : Nat, σ = [some (.str x), some (.int (i : Int)), none, none, none, none, none] ∧ H = H' ∧ i ≤ x.length ∧ 32 ∉ (tl x).take i ∧ (i = (tl x).length ∨ (tl x)[i]? = some 32)) ?_ (fun σ H' hm => ?_)
  · refine ⟨fun m σ H' => ∃ i : Nat, σ = [some (.str x), some (.int (i : Int)), none, none, none, none, none] ∧ H = H' ∧ i ≤ x.length ∧ 32 ∉ (tl x).take i ∧ m = x.length - i, ⟨_, 0, rfl, rfl, Nat.zero_le _, List.not_mem_nil, rfl⟩, fun m σ H' hm => ?_⟩
    obtain ⟨i, rfl, rfl, li, hi, em⟩ := hm
    walk_at "rd"
    walk_at "if"
    all_goals rename_i c1
    all_goals walk_at "rd"
    · obtain ⟨c, hc⟩ : ∃ c, (tl x)[i]? = some c := ⟨_, List.getElem?_eq_getElem (by omega)⟩
      refine w_ixS (c := c) (by omega) (atI_nat hc) ?_
      walk_at "rd"
      walk_at "if"
      · rename_i c2
        refine ⟨fun σ H' => ∃ m' : Nat, m' < m ∧ ∃ i : Nat, σ = [some (.str x), some (.int (i : Int)), none, none, none, none, none] ∧ H = H' ∧ i ≤ x.length ∧ 32 ∉ (tl x).take i ∧ m' = x.length - i, fun σ' H' h => h, ?_⟩
        walk_at "rd"
        refine ⟨x.length - (i + 1), by omega, i + 1, by congr, rfl, by omega, ?_, rfl⟩
        rw [List.take_add_one, hc]
        intro hm
        rcases List.mem_append.mp hm with hm | hm
        · exact hi hm
        · have : 32 = c := by simpa using hm
          exact c2 (congrArg V.str (ext_tl (by rw [← this]; rfl)))
      · rename_i c2
        walk_at "rd"
        refine ⟨i, rfl, rfl, li, hi, .inr ?_⟩
        rw [hc]
        have := congrArg tl (V.str.inj c2)
        exact congrArg some (List.cons.inj this).1
    · exact ⟨i, rfl, rfl, li, hi, .inl (by omega)⟩
  obtain ⟨i, rfl, rfl, li, hi, hstop⟩ := hm
  have dat := fun n w nm => dec_at (l := tl x) (n := n) (w := w) (nm := nm) hi hstop
  have no : (∀ n w nm, ¬ (w ∈ words9.map tl ∧ ((tl x).drop i).take 10 = 32 :: padL w 8 32 ++ [32] ∧ turnL ((tl x).take i) = some n ∧ nm = (tl x).drop (i + 10) ∧ fitL nm = true)) → ∀ H', Same H H' → Q .non H' := fun h H' s => q _ _ s (.inl ⟨rfl, fun n w nm hD => h n w nm ((dat n w nm).mp hD)⟩)
  walk_at "rd"
  refine w_ca CG (by decide) ?_
  walk_at "rd"
  refine w_slS (by omega) ?_
  walk_at "rd"
  have et := tl_cut_to x i
  have lt : (cutS x none (some (i : Int))).length ≤ 300 := Nat.le_trans (cutS_length _ _ _) hl
  refine ⟨_, rfl, by omega, ?_⟩
  rw [et]
  generalize hT : turnL ((tl x).take i) = T0
  have tvS : ∀ n, T0 = some n → turnV ((tl x).take i) = .int (n : Int) := fun n e => turnV_some (hT.trans e)
  have tvN : T0 = none → turnV ((tl x).take i) = .non := fun e => turnV_none (hT.trans e)
  generalize turnV ((tl x).take i) = tv at tvS tvN
  walk_at "rd"
  refine w_ca CW (by decide) ?_
  walk_at "rd"
  refine ⟨rfl, fun r hr2 => ?_⟩
  have s0 := same_new hr2 (.lst (words9.map V.str))
  refine w_forL (xs := words9.map V.str) (fun j σ H' => ∃ v3 v4 v5 v6, σ = [some (.str x), some (.int (i : Int)), some tv, v3, v4, v5, v6] ∧ Same H H' ∧ H' r = some (.lst (words9.map V.str)) ∧
      ∀ k w, k < j → words9[k]? = some w → ∀ n nm, ¬ (((tl x).drop i).take 10 = 32 :: padL (tl w) 8 32 ++ [32] ∧ T0 = some n ∧ nm = (tl x).drop (i + 10) ∧ fitL nm = true)) (SqL.of upd_same) ⟨_, _, _, _, rfl, s0, upd_same, fun k w hk => absurd hk (Nat.not_lt_zero k)⟩ (fun j σ H' _ hm => ?_) (fun j v σ H' hj hm => ?_) (fun σ H' hm => ?_)
  · obtain ⟨_, _, _, _, _, _, h, _⟩ := hm
    exact SqL.of h
  · obtain ⟨v3, v4, v5, v6, rfl, s1, hr1, hn⟩ := hm
    rw [List.getElem?_map] at hj
    obtain ⟨w0, hw0, rfl⟩ := Option.map_eq_some_iff.mp hj
    have mw : w0 ∈ words9 := List.mem_of_getElem? hw0
    have lw : (padL (tl w0) 8 32).length = 8 := pad_len _ (List.mem_map_of_mem mw)
    have l8 : w0.length ≤ 8 := by
      have := len_pad (tl w0) 8 32
      rw [len_tl]
      omega
    walk_at "rd"
    refine w_ca CP (by decide) ?_
    walk_at "rd"
    refine ⟨w0, 8, 32, rfl, by omega, by decide, fun y ey => ?_⟩
    have ly : y.length = 8 := by rw [len_tl, ey]; exact lw
    refine w_addS (by show 1 + y.length ≤ _; omega) ?_
    have l1 : ((" " : Str) ++ y).length = 9 := by rw [len_tl, tl_append, List.length_append, ← len_tl y, ly]; rfl
    walk_at "rd"
    refine w_addS (by show _ + 1 ≤ _; omega) ?_
    have e2 : tl ((" " : Str) ++ y ++ " ") = 32 :: padL (tl w0) 8 32 ++ [32] := by
      rw [tl_append, tl_append, ey]
      rfl
    generalize (" " : Str) ++ y ++ " " = mid at e2
    walk_at "rd"
    refine w_slS (by omega) ?_
    have c10 : (i : Int) + 10 = ((i + 10 : Nat) : Int) := rfl
    rw [c10]
    have e3 := tl_cut_from x (i + 10)
    have l3 : (cutS x (some ((i + 10 : Nat) : Int)) none).length ≤ 300 := Nat.le_trans (cutS_length _ _ _) hl
    generalize cutS x (some ((i + 10 : Nat) : Int)) none = nm at e3 l3
    walk_at "rd"
    refine w_slS (by omega) ?_
    rw [c10]
    have e4 := tl_cut_mid x i 10
    generalize cutS x (some (i : Int)) (some ((i + 10 : Nat) : Int)) = cut at e4
    walk_at "rd"
    -- this word is none
    have fin : (∀ n, ¬ (((tl x).drop i).take 10 = 32 :: padL (tl w0) 8 32 ++ [32] ∧ T0 = some n ∧ fitL (tl nm) = true)) → ∀ v3 v4 v5 v6, ∃ a3 a4 a5 a6, [some (V.str x), some (.int (i : Int)), some tv, v3, v4, v5, v6] = [some (V.str x), some (.int (i : Int)), some tv, a3, a4, a5, a6] ∧ Same H H' ∧ H' r = some (.lst (words9.map V.str)) ∧
      ∀ k w, k < j + 1 → words9[k]? = some w → ∀ n nm, ¬ (((tl x).drop i).take 10 = 32 :: padL (tl w) 8 32 ++ [32] ∧ T0 = some n ∧ nm = (tl x).drop (i + 10) ∧ fitL nm = true) := fun h v3 v4 v5 v6 => ⟨_, _, _, _, rfl, s1, hr1, fun k w hk hw n nm' => by
        by_cases e : k = j
        · subst e
          rw [hw0] at hw
          obtain rfl := Option.some.inj hw
          rintro ⟨h1, h2, rfl, h4⟩
          exact h n ⟨h1, h2, by rw [e3]; exact h4⟩
        · exact hn k w (by omega) hw n nm'⟩
    walk_at "if"
    · rename_i c1
      have c1 : ((tl x).drop i).take 10 = 32 :: padL (tl w0) 8 32 ++ [32] := by rw [← e4, ← e2, V.str.inj c1]
      walk_at "rd"
      cases T0 with
      | none =>
        rw [tvN rfl, decide_eq_true rfl, Bool.not_true]
        walk_at "rd"
        rw [← tvN rfl]
        exact fin (fun n z => by cases z.2.1) _ _ _ _
      | some n =>
        rw [tvS n rfl, decide_eq_false (fun z => by cases z), Bool.not_false]
        have ln := len_tl nm
        walk_at "rd"
        by_cases c2 : 1 ≤ nm.length
        case neg =>
          rw [decide_eq_false (show ¬ (1 : Int) ≤ (nm.length : Int) by omega)]
          walk_at "rd"
          rw [← tvS n rfl]
          exact fin (fun n z => c2 (by have := fit_len z.2.2; omega)) _ _ _ _
        rw [decide_eq_true (show (1 : Int) ≤ (nm.length : Int) by omega)]
        walk_at "rd"
        by_cases c3 : nm.length ≤ 12
        case neg =>
          rw [decide_eq_false (show ¬ (nm.length : Int) ≤ 12 by omega)]
          walk_at "rd"
          rw [← tvS n rfl]
          exact fin (fun n z => c3 (by have := fit_len z.2.2; omega)) _ _ _ _
        rw [decide_eq_true (show (nm.length : Int) ≤ 12 by omega)]
        walk_at "rd"
        refine w_iStr ?_
        walk_at "rd"
        refine w_forS (fun k σ H2 => ∃ v6, σ = [some (.str x), some (.int (i : Int)), some (.int (n : Int)), some (.str w0), some (.str mid), some (.str nm), v6] ∧ H' = H2 ∧ ((tl nm).take k).all alnum = true) ⟨_, rfl, rfl, rfl⟩ (fun k c σ H2 hc hm2 => ?_) (fun σ H2 hm2 => ?_)
        · obtain ⟨v6, rfl, rfl, hf⟩ := hm2
          walk_at "rd"
          rw [in_signs]
          by_cases hd : alnum c = true
          · rw [hd, Bool.not_true]
            walk_at "rd"
            refine ⟨_, rfl, rfl, ?_⟩
            rw [List.take_add_one, hc, List.all_append, hf]
            show (true && (alnum c && true)) = true
            rw [hd]
            rfl
          · rw [Bool.eq_false_iff.mpr hd, Bool.not_false]
            walk_at "rd"
            refine no (fun n w nm' hD => ?_) _ s1
            obtain ⟨_, _, _, h4, h5⟩ := hD
            rw [h4, ← e3] at h5
            unfold fitL at h5
            rw [Bool.and_eq_true, List.all_eq_true] at h5
            exact hd (h5.2 c (List.mem_of_getElem? hc))
        · obtain ⟨v6, rfl, rfl, hf⟩ := hm2
          rw [List.take_length] at hf
          walk_at "rd"
          refine ⟨by walk_at "sz", fun p hp => ?_⟩
          refine q _ _ (same_upd s1 hp) (.inr ⟨p, n, w0, nm, rfl, upd_same, (dat _ _ _).mpr ⟨List.mem_map_of_mem mw, c1, hT, e3, ?_⟩⟩)
          unfold fitL
          rw [hf, decide_eq_true (by omega), decide_eq_true (by omega)]
          rfl
    rename_i c1
    walk_at "rd"
    refine fin (fun n z => c1 ?_) _ _ _ _
    exact congrArg V.str (ext_tl (by rw [e4, e2]; exact z.1))
  · obtain ⟨v3, v4, v5, v6, rfl, s1, hr1, hn⟩ := hm
    walk_at "rd"
    refine no (fun n w nm hD => ?_) _ s1
    obtain ⟨h1, h2, h3, h4, h5⟩ := hD
    obtain ⟨u, hu, rfl⟩ := List.mem_map.mp h1
    obtain ⟨k, hk, e⟩ := List.getElem_of_mem hu
    exact hn k u (by rw [List.length_map]; exact hk) (by rw [List.getElem?_eq_getElem hk, e]) n nm ⟨h2, hT.symm.trans h3, h4, h5⟩
end
end Mn

namespace Mn
open PySem PySem.Spec PyProof.Rows L2 TL
open PySem.Builtin PySem.Builtin.Str
section
variable {P : Program} {w : World} {K : PySem.W.Frag} {mg : Str → Option Value} {base : Heap}
def Shw (e : Option (Nat × Str × Str)) (v : V) (H : Hp) : Prop := match e with
  | none => v = .non
  | some (n, w, nm) => PyData.strOk w = true ∧ PyData.strOk nm = true ∧ ∃ t : Addr, v = .ref t ∧ H t = some (.tup [.int (n : Int), .str w, .str nm])
def spSame : Sp := fun vs H Q _ => ∃ e v u, vs = [v, u] ∧ Shw e v H ∧ Shw e u H ∧ Q (.bl true) H
theorem shaped3 {n : Int} {w nm : Str} (h1 : PyData.strOk w = true) (h2 : PyData.strOk nm = true) : SeqAt.shaped (.tuple [.int n, .str w, .str nm]) = true := by
  show (PyData.canLay0 (.tuple [.int n, .str w, .str nm]) && decide (PyData.depth (.tuple [.int n, .str w, .str nm]) ≤ 64)) = true
  rw [Bool.and_eq_true]
  refine ⟨?_, decide_eq_true ?_⟩
  · simp [PyData.canLay0, PyData.canLayAll0, h1, h2]
  · simp [PyData.depth, PyData.depthAll]
theorem ok_same {f : Addr} {fd : FuncData} (F : Fun K "_law_same" "_law_same" s_law_same f fd) (T : Bt mg) : FnOk P w K mg base CX0 1 f fd ["_law_found", "_law_due_here"] spSame := by
  refine F.ok sc_law_same (fun vs H Q E h => ?_) (fun cdv A outer s H vs Q E hr h => ?_)
  · obtain ⟨e, v, u, rfl, _⟩ := h
    rfl
  obtain ⟨e, v, u, rfl, h1, h2, q⟩ := h
  refine ⟨_, (pss_cons (ps_if (pt_cmpR op_isNn (pv 1) pe_non (nomark _)) (pss_one (ps_ret (pe_cmpR op_isNn (pv 0) pe_non (nomark _)))) pss_nil)
    (pss_cons (ps_if (PW.pt (pw_or (pt_not (pt_val (pe_callB (kIsi (K := K) rfl) (by rfl) T.isinstance (by decide +kernel) (pa_cons (pv 0) (pa_cons (pe_bltn (v := .ty "tuple") (u := .type "tuple") rfl T.tuple (by decide +kernel) rfl) pa_nil))))) (pw_or (pt_cmpR op_ne (pe_callB (kLenT (K := K) rfl) (by rfl) T.len (by decide +kernel) (pa_cons (pv 0) pa_nil)) pe_int (nomark _)) (pw_or1 (pt_val (pe_callB (kIsi (K := K) rfl) (by rfl) T.isinstance (by decide +kernel) (pa_cons (pe_ix (kIxT (K := K) rfl) (pv 0) pe_int (fun _ _ => rfl)) (pa_cons (pe_bltn (v := .ty "bool") (u := .type "bool") rfl T.bool (by decide +kernel) rfl) pa_nil)))))))) (pss_one (ps_ret pe_bl)) pss_nil)
    (pss_cons (ps_if (PW.pt (pw_or (pt_not (pt_val (pe_callB (kIsi (K := K) rfl) (by rfl) T.isinstance (by decide +kernel) (pa_cons (pe_ix (kIxT (K := K) rfl) (pv 0) pe_int (fun _ _ => rfl)) (pa_cons (pe_bltn (v := .ty "int") (u := .type "int") rfl T.int (by decide +kernel) rfl) pa_nil))))) (pw_or (pt_not (pt_val (pe_callB (kIsi (K := K) rfl) (by rfl) T.isinstance (by decide +kernel) (pa_cons (pe_ix (kIxT (K := K) rfl) (pv 0) pe_int (fun _ _ => rfl)) (pa_cons (pe_bltn (v := .ty "str") (u := .type "str") rfl T.str (by decide +kernel) rfl) pa_nil))))) (pw_or1 (pt_not (pt_val (pe_callB (kIsi (K := K) rfl) (by rfl) T.isinstance (by decide +kernel) (pa_cons (pe_ix (kIxT (K := K) rfl) (pv 0) pe_int (fun _ _ => rfl)) (pa_cons (pe_bltn (v := .ty "str") (u := .type "str") rfl T.str (by decide +kernel) rfl) pa_nil))))))))) (pss_one (ps_ret pe_bl)) pss_nil)
    (pss_one (ps_ret (pe_cmpR (kEqD (K := K) rfl hr.units) (pv 0) (pv 1) (nomark _))))))), ?_⟩
  walk_at "rd"
  cases e with
  | none =>
    obtain rfl : v = .non := h1
    obtain rfl : u = .non := h2
    rw [decide_eq_true rfl]
    walk_at "rd"
    rw [decide_eq_true rfl]
    exact q
  | some e =>
    obtain ⟨n, wd, nm⟩ := e
    obtain ⟨o1, o2, t, rfl, ht⟩ := h1
    obtain ⟨_, _, t2, rfl, ht2⟩ := h2
    rw [decide_eq_false (fun z => by cases z)]
    walk_at "rd"
    refine w_isi (TyX.base (TyOf.tup ht)) kit_tt ?_
    walk_at "rd"
    rw [Bool.not_true]
    walk_at "rd"
    rw [decide_eq_true (show V.int (([V.int (n : Int), V.str wd, V.str nm] : List V).length : Int) = V.int 3 from rfl), Bool.not_true]
    walk_at "rd"
    refine w_ixT (SqT.of ht) (at_nat (k := 0) rfl rfl) ?_
    walk_at "rd"
    refine w_isi (TyX.base (TyOf.int _)) kit_ib ?_
    walk_at "rd"
    refine w_ixT (SqT.of ht) (at_nat (k := 0) rfl rfl) ?_
    walk_at "rd"
    refine w_isi (TyX.base (TyOf.int _)) kit_ii ?_
    walk_at "rd"
    rw [Bool.not_true]
    walk_at "rd"
    refine w_ixT (SqT.of ht) (at_nat (k := 1) rfl rfl) ?_
    walk_at "rd"
    refine w_isi (TyX.base (TyOf.str _)) kit_ss ?_
    walk_at "rd"
    rw [Bool.not_true]
    walk_at "rd"
    refine w_ixT (SqT.of ht) (at_nat (k := 2) rfl rfl) ?_
    walk_at "rd"
    refine w_isi (TyX.base (TyOf.str _)) kit_ss ?_
    walk_at "rd"
    rw [Bool.not_true]
    walk_at "rd"
    refine ⟨_, _, .tup (SqT.of ht) (.cons (.int _) (.cons (.str _) (.cons (.str _) .nil))), .tup (SqT.of ht2) (.cons (.int _) (.cons (.str _) (.cons (.str _) .nil))), shaped3 o1 o2, shaped3 o1 o2, ?_⟩
    rw [SeqAt.eqv_refl _ (by simp [PyData.canLay0, PyData.canLayAll0, o1, o2])]
    exact q
end
end Mn

namespace Mn
open PySem L2
section
variable {P : Program} {w : World} {K : PySem.W.Frag} {mg : Str → Option Value} {base : Heap}
def cellAt (ns : List Int) (k : Nat) : Int := ns.getD k 0
def spCell (K : PySem.W.Frag) : Sp := fun vs H Q _ => ∃ (a : Addr) (ns : List Int) (k : Nat), vs = [.ref a, .int (k : Int)] ∧ SqL K H a (ns.map V.int) ∧ ns.length ≤ 1000 ∧ Q (.int (cellAt ns k)) H
theorem ok_cell {f : Addr} {fd : FuncData} (F : Fun K "_law_cell_at" "_law_cell_at" s_law_cell_at f fd) (T : Bt mg) : FnOk P w K mg base CX0 1 f fd ["_law_script", "_law_k"] (spCell K) := by
  refine F.ok sc_law_cell_at (fun vs H Q E h => ?_) (fun cdv A outer s H vs Q E hr h => ?_)
  · obtain ⟨a, ns, k, rfl, _⟩ := h
    rfl
  obtain ⟨a, ns, k, rfl, hS, h1, q⟩ := h
  unfold cellAt at q
  refine ⟨_, (pss_cons (ps_if (pt_cmpR op_lt (pv 1) (pe_callB (kLenL (K := K) rfl) (by rfl) T.len (by decide +kernel) (pa_cons (pv 0) pa_nil)) (nomark _)) (pss_one (ps_ret (pe_ix (kIxL (K := K) rfl) (pv 0) (pv 1) (fun _ _ => rfl)))) pss_nil)
    (pss_one (ps_ret pe_int))), ?_⟩
  walk_at "rd"
  walk_at "if"
  all_goals rename_i c
  all_goals rw [List.length_map] at c
  all_goals walk_at "rd"
  · have e := at_ints (ns := ns) (k := (k : Int)) (by omega) c
    rw [Int.toNat_natCast] at e
    exact w_ixL hS e q
  · have e : ns.getD k 0 = 0 := by simp [List.getD, List.getElem?_eq_none (show ns.length ≤ k by omega)]
    rw [e] at q
    exact q
end
end Mn

namespace Mn
open PySem PySem.Spec PyProof.Rows L2 TL
open PySem.Builtin PySem.Builtin.Str
theorem bare_zeros : ∀ (k : Nat) (l : List Nat), l ≠ [] → bareL (List.replicate k 48 ++ l) = bareL l
  | 0, l, h => rfl
  | k + 1, l, h => by
    rw [List.replicate_succ, List.cons_append, bareL_cons0 _ (by simp [h])]
    exact bare_zeros k l h
theorem bare_num (n : Nat) : bareL (numL n) = numL n := by
  refine bareL_done _ (numL_ne n) fun z => ?_
  by_cases h : n = 0
  · subst h
    rw [numL_lt (by decide)] at z
    have := z.1
    simp at this
  · exact numL_head n (by omega) z.2
theorem turn_pad {n k : Nat} (h : n < 10 ^ 60) : turnL (padL (numL n) k 48) = some n := by
  unfold padL
  generalize k - (numL n).length = m
  have hf : figs (List.replicate m 48 ++ numL n) = true := by
    rw [figs_iff]
    intro c hc
    rcases List.mem_append.mp hc with hc | hc
    · obtain ⟨_, rfl⟩ := List.mem_replicate.mp hc
      decide
    · exact numL_digits n c hc
  have hb := bare_zeros m (numL n) (numL_ne n)
  rw [bare_num] at hb
  have := turn_of hf (by simp [numL_ne n]) (by rw [hb]; exact numL_len (by decide) h)
  rw [hb, numL_val] at this
  exact this
theorem alnum_small {c : Nat} (h : alnum c = true) : c < 0x110000 := by
  unfold alnum at h
  simp only [Bool.or_eq_true, Bool.and_eq_true, decide_eq_true_eq] at h
  omega
theorem strOk_fit {x : Str} (h : fitL (tl x) = true) : PyData.strOk x = true := by
  unfold fitL at h
  rw [Bool.and_eq_true, List.all_eq_true] at h
  show x.cps.all (fun n => decide (n < 0x110000)) = true
  rw [← Array.all_toList, List.all_eq_true]
  exact fun c hc => decide_eq_true (alnum_small (h.2 c hc))
theorem strOk_w9 : ∀ w ∈ words9, PyData.strOk w = true := by decide +kernel
theorem len_w9 : ∀ w ∈ words9, w.length ≤ 8 := by decide +kernel
/-- what two that answer for the same text show is the same -/
theorem ans_two {x : Str} {v u : V} {H H' : Hp} (s : Same H H') (h : Ans x v H) (h' : Ans x u H') : ∃ e, Shw e v H' ∧ Shw e u H' := by
  rcases h with ⟨rfl, h⟩ | ⟨t, n, w, nm, rfl, ht, hD⟩
  · rcases h' with ⟨rfl, _⟩ | ⟨t', n', w', nm', rfl, ht', hD'⟩
    · exact ⟨none, rfl, rfl⟩
    · exact absurd hD' (h _ _ _)
  · rcases h' with ⟨rfl, h'⟩ | ⟨t', n', w', nm', rfl, ht', hD'⟩
    · exact absurd hD (h' _ _ _)
    · obtain ⟨rfl, e1, e2⟩ := dec_uni hD hD'
      obtain rfl := ext_tl e1
      obtain rfl := ext_tl e2
      obtain ⟨_, _, _, hw, hf⟩ := hD
      obtain ⟨u, hu, eu⟩ := List.mem_map.mp hw
      obtain rfl := ext_tl eu
      exact ⟨some (n, u, nm), ⟨strOk_w9 u hu, strOk_fit hf, t, rfl, s _ _ ht⟩, ⟨strOk_w9 u hu, strOk_fit hf, t', rfl, ht'⟩⟩
section
variable {P : Program} {w : World} {K : PySem.W.Frag} {mg : Str → Option Value} {base : Heap}
def spLaw (K : PySem.W.Frag) : Sp := fun vs H Q _ => ∃ (a : Addr) (ns : List Int), vs = [.ref a] ∧ SqL K H a (ns.map V.int) ∧ ns.length ≤ 63 ∧ ∀ H', Q (.bl true) H'
theorem word_at (i : Int) (h0 : 0 ≤ i) (h9 : i < 9) : ∃ w, atI (words9.map V.str) i = some (.str w) ∧ w ∈ words9 := by
  obtain ⟨k, rfl⟩ : ∃ k : Nat, i = (k : Int) := ⟨i.toNat, by omega⟩
  have hk : k < words9.length := by show k < 9; omega
  exact ⟨words9[k], atI_nat (by rw [List.getElem?_map, List.getElem?_eq_getElem hk]; rfl), List.getElem_mem hk⟩
theorem signs8 (i : Int) (h0 : 0 ≤ i) (h8 : i < 8) : ∃ c, atI (" 0a9zA-_" : Str).cps.toList i = some c := by
  obtain ⟨k, rfl⟩ : ∃ k : Nat, i = (k : Int) := ⟨i.toNat, by omega⟩
  have hk : k < (" 0a9zA-_" : Str).cps.toList.length := by show k < 8; omega
  exact ⟨_, atI_nat (List.getElem?_eq_getElem hk)⟩
theorem ok_law {f : Addr} {fd : FuncData} (F : Fun K "law" "law" s_law f fd) (T : Bt mg) (C0 : Cal P w K mg base CX0 "_law_cell_at" 1 ["_law_script", "_law_k"] [] (spCell K)) (CN : Cal P w K mg base CX0 "_law_name" 1 ["_law_cell"] [] spName)
    (CW : Cal P w K mg base CX0 "_law_words" 1 [] [] spW9) (CP : Cal P w K mg base CX0 "_law_padded" 1 ["_law_text", "_law_width", "_law_sign"] [] spPad) (CS1 : Cal P w K mg base CX0 "shown" 1 ["entry", "width"] [.int 4] spShown) (CS2 : Cal P w K mg base CX0 "shown" 1 ["entry", "width"] [] spShown)
    (CE : Cal P w K mg base CX0 "seen" 2 ["text"] [] spSeen) (CD : Cal P w K mg base CX0 "_law_due" 2 ["_law_text"] [] spDue) (CQ : Cal P w K mg base CX0 "_law_same" 1 ["_law_found", "_law_due_here"] [] spSame) :
    FnOk P w K mg base CX0 3 f fd ["_law_script"] (spLaw K) := by
  refine F.ok sc_law (fun vs H Q E h => ?_) (fun cdv A outer s H vs Q E hr h => ?_)
  · obtain ⟨a, ns, rfl, _⟩ := h
    rfl
  obtain ⟨a, ns, rfl, hS, hz, q⟩ := h
  have hzl := PySem.sizeLine_eq
  refine ⟨_, (pss_cons (ps_set (i := 1) sc_law.nd rfl (Or.inl rfl) (pe_ca (P := P) (w := w) (K := K) (mg := mg) (base := base) ⟨rfl, rfl, rfl, rfl, rfl⟩ hr rfl (pa_cons (pv 0) (pa_cons pe_int pa_nil))))
    (pss_cons (ps_set (i := 2) sc_law.nd rfl (Or.inl rfl) (pe_op op_mod (pe_ca (P := P) (w := w) (K := K) (mg := mg) (base := base) ⟨rfl, rfl, rfl, rfl, rfl⟩ hr rfl (pa_cons (pv 0) (pa_cons pe_int pa_nil))) (pe_op op_pow pe_int pe_int)))
    (C8.pss_cut (ps_if (pt_cmpR op_eq (pe_op op_mod (pe_op op_fdiv (pv 1) pe_int) pe_int) pe_int (nomark _)) (pss_one (ps_set (i := 2) sc_law.nd rfl (Or.inl rfl) (pe_op op_mod (pe_ca (P := P) (w := w) (K := K) (mg := mg) (base := base) ⟨rfl, rfl, rfl, rfl, rfl⟩ hr rfl (pa_cons (pv 0) (pa_cons pe_int pa_nil))) pe_int))) pss_nil)
    (pss_cons (ps_set (i := 3) sc_law.nd rfl (Or.inl rfl) (pe_ca (P := P) (w := w) (K := K) (mg := mg) (base := base) ⟨rfl, rfl, rfl, rfl, rfl⟩ hr rfl (pa_cons (pe_ca (P := P) (w := w) (K := K) (mg := mg) (base := base) ⟨rfl, rfl, rfl, rfl, rfl⟩ hr rfl (pa_cons (pv 0) (pa_cons pe_int pa_nil))) pa_nil)))
    (pss_cons (ps_set (i := 4) sc_law.nd rfl (Or.inl rfl) (pe_tup (pa_cons (pv 2) (pa_cons (pe_ix (kIxL (K := K) rfl) (pe_ca0 (P := P) (w := w) (K := K) (mg := mg) (base := base) ⟨rfl, rfl, rfl, rfl, rfl⟩ hr rfl) (pe_op op_mod (pv 1) pe_int) (fun _ _ => rfl)) (pa_cons (pv 3) pa_nil)))))
    (pss_cons (ps_set (i := 5) sc_law.nd rfl (Or.inl rfl) (pe_op op_sub (pe_op op_mod (pe_ca (P := P) (w := w) (K := K) (mg := mg) (base := base) ⟨rfl, rfl, rfl, rfl, rfl⟩ hr rfl (pa_cons (pv 0) (pa_cons pe_int pa_nil))) pe_int) pe_int))
    (C8.pss_cut (ps_if (pt_cmpR op_lt (pv 5) pe_int (nomark _)) (pss_cons (ps_set (i := 6) sc_law.nd rfl (Or.inl rfl) (pe_ca (P := P) (w := w) (K := K) (mg := mg) (base := base) ⟨rfl, rfl, rfl, rfl, rfl⟩ hr rfl (pa_cons (pv 4) pa_nil)))
    (pss_one (ps_set (i := 5) sc_law.nd rfl (Or.inl rfl) pe_int))) (pss_one (ps_set (i := 6) sc_law.nd rfl (Or.inl rfl) (pe_ca (P := P) (w := w) (K := K) (mg := mg) (base := base) ⟨rfl, rfl, rfl, rfl, rfl⟩ hr rfl (pa_cons (pv 4) (pa_cons (pv 5) pa_nil))))))
    (pss_cons (ps_set (i := 7) sc_law.nd rfl (Or.inl rfl) (pe_op op_addS (pe_op op_addS (pe_op op_addS (pe_op op_addS (pe_ca (P := P) (w := w) (K := K) (mg := mg) (base := base) ⟨rfl, rfl, rfl, rfl, rfl⟩ hr rfl (pa_cons (pe_callTy call_strI (by rfl) T.str (by decide +kernel) (pa_cons (pv 2) pa_nil)) (pa_cons (pv 5) (pa_cons pe_str pa_nil)))) pe_str) (pe_ca (P := P) (w := w) (K := K) (mg := mg) (base := base) ⟨rfl, rfl, rfl, rfl, rfl⟩ hr rfl (pa_cons (pe_ix (kIxT (K := K) rfl) (pv 4) pe_int (fun _ _ => rfl)) (pa_cons pe_int (pa_cons pe_str pa_nil))))) pe_str) (pv 3)))
    (pss_cons (ps_if (PW.pt (pw_or (pt_not (pt_val (pe_callB (kIsi (K := K) rfl) (by rfl) T.isinstance (by decide +kernel) (pa_cons (pv 6) (pa_cons (pe_bltn (v := .ty "str") (u := .type "str") rfl T.str (by decide +kernel) rfl) pa_nil))))) (pw_or (pt_cmpR op_ne (pv 6) (pv 7) (nomark _)) (pw_or1 (pt_not (pt_val (pe_ca (P := P) (w := w) (K := K) (mg := mg) (base := base) ⟨rfl, rfl, rfl, rfl, rfl⟩ hr rfl (pa_cons (pe_ca (P := P) (w := w) (K := K) (mg := mg) (base := base) ⟨rfl, rfl, rfl, rfl, rfl⟩ hr rfl (pa_cons (pv 6) pa_nil)) (pa_cons (pv 4) pa_nil))))))))) (pss_one (ps_ret pe_bl)) pss_nil)
    (pss_cons (ps_set (i := 8) sc_law.nd rfl (Or.inl rfl) (pe_op op_mod (pe_op op_fdiv (pv 1) pe_int) pe_int))
    (pss_cons (ps_set (i := 9) sc_law.nd rfl (Or.inl rfl) (pe_op op_mod (pe_ca (P := P) (w := w) (K := K) (mg := mg) (base := base) ⟨rfl, rfl, rfl, rfl, rfl⟩ hr rfl (pa_cons (pv 0) (pa_cons pe_int pa_nil))) (pe_op op_add (pe_callB call_lenS (by rfl) T.len (by decide +kernel) (pa_cons (pv 6) pa_nil)) pe_int)))
    (pss_cons (ps_set (i := 10) sc_law.nd rfl (Or.inl rfl) (pe_ix ix_str pe_str (pe_op op_mod (pe_ca (P := P) (w := w) (K := K) (mg := mg) (base := base) ⟨rfl, rfl, rfl, rfl, rfl⟩ hr rfl (pa_cons (pv 0) (pa_cons pe_int pa_nil))) pe_int) (fun _ _ => rfl)))
    (C8.pss_cut (ps_if (pt_cmpR op_eq (pv 8) pe_int (nomark _)) (pss_one (ps_set (i := 6) sc_law.nd rfl (Or.inl rfl) (pe_op op_addS (pe_slice sl_str (pv 6) po_none (po_some (pv 9))) (pe_slice sl_str (pv 6) (po_some (pe_op op_add (pv 9) pe_int)) po_none)))) pss_nil)
    (C8.pss_cut (ps_if (pt_cmpR op_eq (pv 8) pe_int (nomark _)) (pss_one (ps_set (i := 6) sc_law.nd rfl (Or.inl rfl) (pe_op op_addS (pe_op op_addS (pe_slice sl_str (pv 6) po_none (po_some (pv 9))) (pv 10)) (pe_slice sl_str (pv 6) (po_some (pv 9)) po_none)))) pss_nil)
    (C8.pss_cut (ps_if (pt_cmpR op_eq (pv 8) pe_int (nomark _)) (pss_one (ps_set (i := 6) sc_law.nd rfl (Or.inl rfl) (pe_op op_addS (pe_op op_addS (pe_slice sl_str (pv 6) po_none (po_some (pv 9))) (pv 10)) (pe_slice sl_str (pv 6) (po_some (pe_op op_add (pv 9) pe_int)) po_none)))) pss_nil)
    (pss_one (ps_ret (pe_ca (P := P) (w := w) (K := K) (mg := mg) (base := base) ⟨rfl, rfl, rfl, rfl, rfl⟩ hr rfl (pa_cons (pe_ca (P := P) (w := w) (K := K) (mg := mg) (base := base) ⟨rfl, rfl, rfl, rfl, rfl⟩ hr rfl (pa_cons (pv 6) pa_nil)) (pa_cons (pe_ca (P := P) (w := w) (K := K) (mg := mg) (base := base) ⟨rfl, rfl, rfl, rfl, rfl⟩ hr rfl (pa_cons (pv 6) pa_nil)) pa_nil)))))))))))))))))))), ?_⟩
  have hz2 : ns.length ≤ 1000 := by omega
  have p60 : (10 : Int) ^ (60 : Int).toNat = ((10 ^ 60 : Nat) : Int) := by decide +kernel
  walk_at "rd"
  refine w_ca C0 (by decide) ?_
  walk_at "rd"
  refine ⟨a, ns, 0, rfl, hS, hz2, ?_⟩
  walk_at "rd"
  refine w_ca C0 (by decide) ?_
  walk_at "rd"
  refine ⟨a, ns, 1, rfl, hS, hz2, ?_⟩
  walk_at "rd"
  have nat_of : ∀ (i m : Int), 0 < m → m ≤ 10 ^ 60 → ∃ n : Nat, i % m = (n : Int) ∧ n < 10 ^ 60 := fun i m h1 h2 => by
    have a1 := Int.emod_nonneg i (show m ≠ 0 by omega)
    have a2 := Int.emod_lt_of_pos i h1
    have e : ((10 ^ 60 : Nat) : Int) = (10 : Int) ^ 60 := by decide +kernel
    exact ⟨(i % m).toNat, by omega, by omega⟩
  obtain ⟨n1, e1, hn1⟩ := nat_of (cellAt ns 1) (10 ^ 60) (by decide +kernel) (Int.le_refl _)
  have e2 : cellAt ns 1 % 10 ^ Int.toNat 60 = (n1 : Int) := e1
  rw [e2]
  clear e1 e2
  generalize cellAt ns 0 = first
  refine w_cut (fun σ H' => ∃ n : Nat, σ = [some (.ref a), some (.int first), some (.int (n : Int)), none, none, none, none, none, none, none, none] ∧ H = H' ∧ n < 10 ^ 60) ?_ (fun σ H' hm => ?_)
  · walk_at "rd"
    walk_at "if"
    all_goals walk_at "rd"
    · refine w_ca C0 (by decide) ?_
      walk_at "rd"
      refine ⟨a, ns, 1, rfl, hS, hz2, ?_⟩
      walk_at "rd"
      obtain ⟨n1, e1, hn1⟩ := nat_of (cellAt ns 1) 20000 (by decide +kernel) (by decide +kernel)
      rw [e1]
      exact ⟨n1, rfl, rfl, hn1⟩
    · exact ⟨n1, rfl, rfl, hn1⟩
  obtain ⟨n, rfl, rfl, hn⟩ := hm
  clear hn1 n1
  walk_at "rd"
  refine w_ca CN (by decide) ?_
  walk_at "rd"
  refine w_ca C0 (by decide) ?_
  walk_at "rd"
  refine ⟨a, ns, 2, rfl, hS, hz2, ?_⟩
  walk_at "rd"
  refine ⟨_, rfl, fun nm H1 s1 hnm => ?_⟩
  have lnm : nm.length ≤ 12 := by rw [len_tl]; exact (fit_len hnm).2
  walk_at "rd"
  refine w_ca CW (by decide) ?_
  walk_at "rd"
  refine ⟨rfl, fun r hr2 => ?_⟩
  have s2 := same_upd (o := .lst (words9.map V.str)) s1 hr2
  walk_at "rd"
  obtain ⟨wd, ew, hw⟩ := word_at (first % 9) (Int.emod_nonneg _ (by decide)) (Int.emod_lt_of_pos _ (by decide))
  have lwd := len_w9 wd hw
  refine w_ixL (SqL.of upd_same) ew ?_
  walk_at "rd"
  refine ⟨by walk_at "sz", fun p hp => ?_⟩
  have s3 := same_upd (o := .tup [V.int n, V.str wd, V.str nm]) s2 hp
  have hpe : upd (upd H1 r (.lst (words9.map V.str))) p (.tup [V.int n, V.str wd, V.str nm]) p = some (.tup [V.int n, V.str wd, V.str nm]) := upd_same
  generalize upd (upd H1 r (.lst (words9.map V.str))) p (.tup [V.int n, V.str wd, V.str nm]) = H2 at s3 hpe ⊢
  have hS3 := s3.seq hS
  walk_at "rd"
  refine w_ca C0 (by decide) ?_
  walk_at "rd"
  refine ⟨a, ns, 3, rfl, hS3, hz2, ?_⟩
  walk_at "rd"
  have b0 := Int.emod_nonneg (cellAt ns 3) (show (72 : Int) ≠ 0 by decide)
  have b1 := Int.emod_lt_of_pos (cellAt ns 3) (show (0 : Int) < 72 by decide)
  generalize cellAt ns 3 % 72 = wi at b0 b1
  refine w_cut (fun σ H' => ∃ (i : Int) (y : Str), σ = [some (.ref a), some (.int first), some (.int (n : Int)), some (.str nm), some (.ref p), some (.int i), some (.str y), none, none, none, none] ∧ H2 = H' ∧ 0 ≤ i ∧ i ≤ 71 ∧ tl y = shownL n i.toNat (tl wd) (tl nm)) ?_ (fun σ H' hm => ?_)
  · walk_at "rd"
    walk_at "if"
    all_goals walk_at "rd"
    · refine w_ca CS1 (by decide) ?_
      walk_at "rd"
      refine ⟨p, n, wd, nm, 4, rfl, hpe, hn, by omega, by omega, by decide, by decide, fun y ey => ?_⟩
      walk_at "rd"
      exact ⟨4, y, rfl, rfl, by decide, by decide, ey⟩
    · rename_i c
      refine w_ca CS2 (by decide) ?_
      walk_at "rd"
      refine ⟨p, n, wd, nm, wi - 1, rfl, hpe, hn, by omega, by omega, by omega, by omega, fun y ey => ?_⟩
      walk_at "rd"
      exact ⟨wi - 1, y, rfl, rfl, by omega, by omega, ey⟩
  obtain ⟨i, y, rfl, rfl, i0, i1, ey⟩ := hm
  clear b0 b1 wi
  walk_at "rd"
  refine w_ca CP (by decide) ?_
  walk_at "rd"
  refine w_strI (smol_big (by show n < _; exact Nat.lt_trans hn (by decide +kernel))) ?_
  have ts : tl (Str.ofString (toString ((n : Nat) : Int))) = numL n := tl_num n
  have ln6 : (numL n).length ≤ 60 := numL_len (by decide) hn
  generalize Str.ofString (toString ((n : Nat) : Int)) = x0 at ts
  have lx0 : x0.length ≤ 60 := by rw [len_tl, ts]; exact ln6
  walk_at "rd"
  refine ⟨x0, i, 48, rfl, by omega, by omega, fun y1 e1 => ?_⟩
  rw [ts] at e1
  have l1 : y1.length ≤ 71 := by rw [len_tl, e1, len_pad]; omega
  walk_at "rd"
  refine w_addS (by show y1.length + 1 ≤ _; omega) ?_
  have e2 : tl (y1 ++ (" " : Str)) = tl y1 ++ [32] := tl_append _ _
  have l2 : (y1 ++ (" " : Str)).length ≤ 72 := by rw [len_tl, e2, List.length_append, ← len_tl y1]; show _ + 1 ≤ _; omega
  generalize y1 ++ (" " : Str) = y2 at e2 l2
  walk_at "rd"
  refine w_ca CP (by decide) ?_
  walk_at "rd"
  refine w_ixT (SqT.of hpe) (at_nat (k := 1) rfl rfl) ?_
  walk_at "rd"
  refine ⟨wd, 8, 32, rfl, by omega, by decide, fun y3 e3 => ?_⟩
  have l3 : y3.length ≤ 8 := by rw [len_tl, e3, len_pad, ← len_tl]; show max 8 _ ≤ _; omega
  refine w_addS (by omega) ?_
  have e4 : tl (y2 ++ y3) = tl y2 ++ tl y3 := tl_append _ _
  have l4 : (y2 ++ y3).length ≤ 80 := by rw [len_tl, e4, List.length_append, ← len_tl y2, ← len_tl y3]; omega
  generalize y2 ++ y3 = y4 at e4 l4
  walk_at "rd"
  refine w_addS (by show y4.length + 1 ≤ _; omega) ?_
  have e5 : tl (y4 ++ (" " : Str)) = tl y4 ++ [32] := tl_append _ _
  have l5 : (y4 ++ (" " : Str)).length ≤ 81 := by rw [len_tl, e5, List.length_append, ← len_tl y4]; show _ + 1 ≤ _; omega
  generalize y4 ++ (" " : Str) = y5 at e5 l5
  walk_at "rd"
  have e6 : tl (y5 ++ nm) = tl y5 ++ tl nm := tl_append _ _
  have l6 : (y5 ++ nm).length ≤ 93 := by rw [len_tl, e6, List.length_append, ← len_tl y5, ← len_tl nm]; omega
  have eyy : y5 ++ nm = y := ext_tl (by
    rw [e6, e5, e4, e3, e2, e1, ey]
    unfold shownL
    simp)
  rw [eyy] at l6 ⊢
  refine w_isi (TyX.base (TyOf.str _)) kit_ss ?_
  walk_at "rd"
  rw [Bool.not_true]
  walk_at "rd"
  rw [decide_eq_true rfl, Bool.not_true]
  walk_at "rd"
  refine w_ca CQ (by decide) ?_
  walk_at "rd"
  refine w_ca CE (by decide) ?_
  walk_at "rd"
  have hDec : Dec (tl y) n (tl wd) (tl nm) := ⟨_, by rw [ey]; unfold shownL; rw [List.append_assoc], turn_pad hn, List.mem_map_of_mem hw, hnm⟩
  refine ⟨y, rfl, by omega, fun v H3 s4 hA => ?_⟩
  walk_at "rd"
  obtain ⟨e, sh1, sh2⟩ := ans_two s4 (.inr ⟨p, n, wd, nm, rfl, hpe, hDec⟩) hA
  refine ⟨e, _, _, rfl, sh2, sh1, ?_⟩
  walk_at "rd"
  rw [Bool.not_true]
  walk_at "rd"
  have hS4 := (s3.trans s4).seq hS
  refine w_ca C0 (by decide) ?_
  walk_at "rd"
  refine ⟨a, ns, 4, rfl, hS4, hz2, ?_⟩
  walk_at "rd"
  refine w_I (show (0 : Int) < (y.length : Int) + 1 by omega) ?_
  walk_at "rd"
  obtain ⟨at_, ea⟩ : ∃ k : Nat, cellAt ns 4 % ((y.length : Int) + 1) = (k : Int) := ⟨(cellAt ns 4 % ((y.length : Int) + 1)).toNat, by have := Int.emod_nonneg (cellAt ns 4) (show (y.length : Int) + 1 ≠ 0 by omega); omega⟩
  rw [ea]
  refine w_ca C0 (by decide) ?_
  walk_at "rd"
  refine ⟨a, ns, 5, rfl, hS4, hz2, ?_⟩
  walk_at "rd"
  obtain ⟨c, ec⟩ := signs8 (cellAt ns 5 % 8) (Int.emod_nonneg _ (by decide)) (Int.emod_lt_of_pos _ (by decide))
  refine w_ixS (c := c) (by decide) ec ?_
  walk_at "rd"
  generalize first / 18 % 6 = way
  refine w_cut (fun σ H' => ∃ y' : Str, σ = [some (.ref a), some (.int first), some (.int (n : Int)), some (.str nm), some (.ref p), some (.int i), some (.str y'), some (.str y), some (.int way), some (.int (at_ : Int)), some (.str ⟨#[c]⟩)] ∧ H3 = H' ∧ y'.length ≤ 93) ?_ (fun σ H' hm => ?_)
  · walk_at "rd"
    walk_at "if"
    all_goals walk_at "rd"
    · refine w_slS (by omega) ?_
      walk_at "rd"
      refine w_slS (by omega) ?_
      rw [show (at_ : Int) + 1 = ((at_ + 1 : Nat) : Int) from rfl]
      have t1 := tl_cut_to y at_
      have t2 := tl_cut_from y (at_ + 1)
      generalize cutS y none (some (at_ : Int)) = z1 at t1
      generalize cutS y (some ((at_ + 1 : Nat) : Int)) none = z2 at t2
      have lz1 : z1.length = min at_ y.length := by rw [len_tl, t1, List.length_take, ← len_tl]
      have lz2 : z2.length = y.length - (at_ + 1) := by rw [len_tl, t2, List.length_drop, ← len_tl]
      refine w_addS (by omega) ?_
      refine ⟨_, rfl, rfl, ?_⟩
      rw [len_tl, tl_append, List.length_append, ← len_tl, ← len_tl]
      omega
    · exact ⟨_, rfl, rfl, by omega⟩
  obtain ⟨ya, rfl, rfl, la⟩ := hm
  refine w_cut (fun σ H' => ∃ y' : Str, σ = [some (.ref a), some (.int first), some (.int (n : Int)), some (.str nm), some (.ref p), some (.int i), some (.str y'), some (.str y), some (.int way), some (.int (at_ : Int)), some (.str ⟨#[c]⟩)] ∧ H3 = H' ∧ y'.length ≤ 94) ?_ (fun σ H' hm => ?_)
  · walk_at "rd"
    walk_at "if"
    all_goals walk_at "rd"
    · refine w_slS (by omega) ?_
      walk_at "rd"
      have t1 := tl_cut_to ya at_
      generalize cutS ya none (some (at_ : Int)) = z1 at t1
      have lz1 : z1.length = min at_ ya.length := by rw [len_tl, t1, List.length_take, ← len_tl]
      refine w_addS (by show z1.length + 1 ≤ _; omega) ?_
      walk_at "rd"
      refine w_slS (by omega) ?_
      skip
      have t2 := tl_cut_from ya (at_)
      generalize cutS ya (some ((at_ : Nat) : Int)) none = z2 at t2
      have lz2 : z2.length = ya.length - (at_) := by rw [len_tl, t2, List.length_drop, ← len_tl]
      have l3 : (z1 ++ (⟨#[c]⟩ : Str)).length = z1.length + 1 := by rw [len_tl, tl_append, List.length_append, ← len_tl]; rfl
      refine w_addS (by omega) ?_
      refine ⟨_, rfl, rfl, ?_⟩
      rw [len_tl, tl_append, List.length_append, ← len_tl, ← len_tl]
      omega
    · exact ⟨_, rfl, rfl, by omega⟩
  obtain ⟨yb, rfl, rfl, lb⟩ := hm
  refine w_cut (fun σ H' => ∃ y' : Str, σ = [some (.ref a), some (.int first), some (.int (n : Int)), some (.str nm), some (.ref p), some (.int i), some (.str y'), some (.str y), some (.int way), some (.int (at_ : Int)), some (.str ⟨#[c]⟩)] ∧ H3 = H' ∧ y'.length ≤ 95) ?_ (fun σ H' hm => ?_)
  · walk_at "rd"
    walk_at "if"
    all_goals walk_at "rd"
    · refine w_slS (by omega) ?_
      walk_at "rd"
      have t1 := tl_cut_to yb at_
      generalize cutS yb none (some (at_ : Int)) = z1 at t1
      have lz1 : z1.length = min at_ yb.length := by rw [len_tl, t1, List.length_take, ← len_tl]
      refine w_addS (by show z1.length + 1 ≤ _; omega) ?_
      walk_at "rd"
      refine w_slS (by omega) ?_
      rw [show (at_ : Int) + 1 = ((at_ + 1 : Nat) : Int) from rfl]
      have t2 := tl_cut_from yb (at_ + 1)
      generalize cutS yb (some ((at_ + 1 : Nat) : Int)) none = z2 at t2
      have lz2 : z2.length = yb.length - (at_ + 1) := by rw [len_tl, t2, List.length_drop, ← len_tl]
      have l3 : (z1 ++ (⟨#[c]⟩ : Str)).length = z1.length + 1 := by rw [len_tl, tl_append, List.length_append, ← len_tl]; rfl
      refine w_addS (by omega) ?_
      refine ⟨_, rfl, rfl, ?_⟩
      rw [len_tl, tl_append, List.length_append, ← len_tl, ← len_tl]
      omega
    · exact ⟨_, rfl, rfl, by omega⟩
  obtain ⟨yc, rfl, rfl, lc⟩ := hm
  walk_at "rd"
  refine w_ca CQ (by decide) ?_
  walk_at "rd"
  refine w_ca CE (by decide) ?_
  walk_at "rd"
  refine ⟨yc, rfl, by omega, fun v H4 s5 hA => ?_⟩
  walk_at "rd"
  refine w_ca CD (by decide) ?_
  walk_at "rd"
  refine ⟨yc, rfl, by omega, fun u H5 s6 hB => ?_⟩
  obtain ⟨e, sh1, sh2⟩ := ans_two s6 hA hB
  walk_at "rd"
  exact ⟨e, _, _, rfl, sh1, sh2, q _⟩
end
end Mn

namespace Mn
open PySem L2
theorem clsF_nil {K : PySem.W.Frag} {C : Addr} : ∀ f ∈ ([] : List Str), NoAttr K C f := fun _ h => absurd h List.not_mem_nil
theorem clsF_cons {K : PySem.W.Frag} {C : Addr} {g : Str} {r : List Str} (a : PySem.W.findIn K (.ref C) g = some none) (b : ∀ f ∈ r, NoAttr K C f) : ∀ f ∈ g :: r, NoAttr K C f := fun f h => by
  rcases List.mem_cons.mp h with e | e
  · subst e
    exact a
  · exact b f e
theorem all_mk {l : PySem.W.OpenLaw} {w : World} {K : PySem.W.Frag} {h : Heap} {mg : Str → Option Value} {fa t_WORDS f_number_in T_number_in f_fit_name f_shown T_shown f_seen f_law_cell_at f_law_words f_law_name f_law_padded f_law_figures f_law_due f_law_same f_law c_NoNumber : Addr} (X : K.In h) (G : h.Ns mainGlobals mg) (hfa : mg "law" = some (.ref fa))
    {odt_WORDS od_number_in an_number_in odT_number_in od_fit_name an_fit_name od_shown an_shown odT_shown od_seen an_seen od_law_cell_at an_law_cell_at od_law_words an_law_words od_law_name an_law_name od_law_padded an_law_padded od_law_figures an_law_figures od_law_due an_law_due od_law_same an_law_same od_law an_law : Option Addr} {slt_WORDS sl_number_in slT_number_in sl_fit_name sl_shown slT_shown sl_seen sl_law_cell_at sl_law_words sl_law_name sl_law_padded sl_law_figures sl_law_due sl_law_same sl_law : Array (Option Value)} {oc_number_in kV_number_in dc_number_in pm_number_in cd_number_in ct_number_in ocT_number_in oc_fit_name kV_fit_name dc_fit_name pm_fit_name cd_fit_name ct_fit_name oc_shown kV_shown dc_shown pm_shown cd_shown ct_shown ocT_shown oc_seen kV_seen dc_seen pm_seen cd_seen ct_seen oc_law_cell_at kV_law_cell_at dc_law_cell_at pm_law_cell_at cd_law_cell_at ct_law_cell_at oc_law_words kV_law_words dc_law_words pm_law_words cd_law_words ct_law_words oc_law_name kV_law_name dc_law_name pm_law_name cd_law_name ct_law_name oc_law_padded kV_law_padded dc_law_padded pm_law_padded cd_law_padded ct_law_padded oc_law_figures kV_law_figures dc_law_figures pm_law_figures cd_law_figures ct_law_figures oc_law_due kV_law_due dc_law_due pm_law_due cd_law_due ct_law_due oc_law_same kV_law_same dc_law_same pm_law_same cd_law_same ct_law_same oc_law kV_law dc_law pm_law cd_law ct_law : Value} {tk_SIGNS nt_WORDS tk_WORDS_0 tk_WORDS_1 tk_WORDS_2 tk_WORDS_3 tk_WORDS_4 tk_WORDS_5 tk_WORDS_6 tk_WORDS_7 tk_WORDS_8 nT_number_in tk_number_in_0 nT_shown tk_shown_0 : Nat}
    (z_len : PySem.W.nsIn K mainGlobals "len" = some none)
    (z_int : PySem.W.nsIn K mainGlobals "int" = some none)
    (z_bool : PySem.W.nsIn K mainGlobals "bool" = some none)
    (z_ValueError : PySem.W.nsIn K mainGlobals "ValueError" = some none)
    (z_tuple : PySem.W.nsIn K mainGlobals "tuple" = some none)
    (z_str : PySem.W.nsIn K mainGlobals "str" = some none)
    (z_range : PySem.W.nsIn K mainGlobals "range" = some none)
    (z_isinstance : PySem.W.nsIn K mainGlobals "isinstance" = some none)
    (a_SIGNS : PySem.W.nsIn K mainGlobals "SIGNS" = some (some (.str "abcdefghijklmnopqrstuvwxyz0123456789" tk_SIGNS)))
    (a_WORDS : PySem.W.nsIn K mainGlobals "WORDS" = some (some (.ref t_WORDS)))
    (l_WORDS : K.lookup t_WORDS = some ⟨.type "tuple", odt_WORDS, .seq #[(.str "begun" tk_WORDS_0 : Value), (.str "told" tk_WORDS_1 : Value), (.str "done" tk_WORDS_2 : Value), (.str "fallen" tk_WORDS_3 : Value), (.str "ended" tk_WORDS_4 : Value), (.str "cut" tk_WORDS_5 : Value), (.str "answers" tk_WORDS_6 : Value), (.str "gives up" tk_WORDS_7 : Value), (.str "gave up" tk_WORDS_8 : Value)] nt_WORDS, slt_WORDS⟩)
    (a_number_in : PySem.W.nsIn K mainGlobals "number_in" = some (some (.ref f_number_in)))
    (l_number_in : K.lookup f_number_in = some ⟨oc_number_in, od_number_in, .func (PySem.W.fnOf "number_in" "number_in" (defArgs s_number_in) (defBody s_number_in) (defScope s_number_in) (.ref T_number_in) kV_number_in dc_number_in pm_number_in an_number_in cd_number_in ct_number_in), sl_number_in⟩)
    (co_number_in : PySem.W.codeIn K cd_number_in "number_in" = true)
    (k_number_in : PySem.W.keepIn K (.ref f_number_in) = true)
    (lT_number_in : K.lookup T_number_in = some ⟨ocT_number_in, odT_number_in, .seq #[(.int 1000000 tk_number_in_0 : Value)] nT_number_in, slT_number_in⟩)
    (a_fit_name : PySem.W.nsIn K mainGlobals "fit_name" = some (some (.ref f_fit_name)))
    (l_fit_name : K.lookup f_fit_name = some ⟨oc_fit_name, od_fit_name, .func (PySem.W.fnOf "fit_name" "fit_name" (defArgs s_fit_name) (defBody s_fit_name) (defScope s_fit_name) .none kV_fit_name dc_fit_name pm_fit_name an_fit_name cd_fit_name ct_fit_name), sl_fit_name⟩)
    (co_fit_name : PySem.W.codeIn K cd_fit_name "fit_name" = true)
    (k_fit_name : PySem.W.keepIn K (.ref f_fit_name) = true)
    (a_shown : PySem.W.nsIn K mainGlobals "shown" = some (some (.ref f_shown)))
    (l_shown : K.lookup f_shown = some ⟨oc_shown, od_shown, .func (PySem.W.fnOf "shown" "shown" (defArgs s_shown) (defBody s_shown) (defScope s_shown) (.ref T_shown) kV_shown dc_shown pm_shown an_shown cd_shown ct_shown), sl_shown⟩)
    (co_shown : PySem.W.codeIn K cd_shown "shown" = true)
    (k_shown : PySem.W.keepIn K (.ref f_shown) = true)
    (lT_shown : K.lookup T_shown = some ⟨ocT_shown, odT_shown, .seq #[(.int 4 tk_shown_0 : Value)] nT_shown, slT_shown⟩)
    (a_seen : PySem.W.nsIn K mainGlobals "seen" = some (some (.ref f_seen)))
    (l_seen : K.lookup f_seen = some ⟨oc_seen, od_seen, .func (PySem.W.fnOf "seen" "seen" (defArgs s_seen) (defBody s_seen) (defScope s_seen) .none kV_seen dc_seen pm_seen an_seen cd_seen ct_seen), sl_seen⟩)
    (co_seen : PySem.W.codeIn K cd_seen "seen" = true)
    (k_seen : PySem.W.keepIn K (.ref f_seen) = true)
    (a_law_cell_at : PySem.W.nsIn K mainGlobals "_law_cell_at" = some (some (.ref f_law_cell_at)))
    (l_law_cell_at : K.lookup f_law_cell_at = some ⟨oc_law_cell_at, od_law_cell_at, .func (PySem.W.fnOf "_law_cell_at" "_law_cell_at" (defArgs s_law_cell_at) (defBody s_law_cell_at) (defScope s_law_cell_at) .none kV_law_cell_at dc_law_cell_at pm_law_cell_at an_law_cell_at cd_law_cell_at ct_law_cell_at), sl_law_cell_at⟩)
    (co_law_cell_at : PySem.W.codeIn K cd_law_cell_at "_law_cell_at" = true)
    (k_law_cell_at : PySem.W.keepIn K (.ref f_law_cell_at) = true)
    (a_law_words : PySem.W.nsIn K mainGlobals "_law_words" = some (some (.ref f_law_words)))
    (l_law_words : K.lookup f_law_words = some ⟨oc_law_words, od_law_words, .func (PySem.W.fnOf "_law_words" "_law_words" (defArgs s_law_words) (defBody s_law_words) (defScope s_law_words) .none kV_law_words dc_law_words pm_law_words an_law_words cd_law_words ct_law_words), sl_law_words⟩)
    (co_law_words : PySem.W.codeIn K cd_law_words "_law_words" = true)
    (k_law_words : PySem.W.keepIn K (.ref f_law_words) = true)
    (a_law_name : PySem.W.nsIn K mainGlobals "_law_name" = some (some (.ref f_law_name)))
    (l_law_name : K.lookup f_law_name = some ⟨oc_law_name, od_law_name, .func (PySem.W.fnOf "_law_name" "_law_name" (defArgs s_law_name) (defBody s_law_name) (defScope s_law_name) .none kV_law_name dc_law_name pm_law_name an_law_name cd_law_name ct_law_name), sl_law_name⟩)
    (co_law_name : PySem.W.codeIn K cd_law_name "_law_name" = true)
    (k_law_name : PySem.W.keepIn K (.ref f_law_name) = true)
    (a_law_padded : PySem.W.nsIn K mainGlobals "_law_padded" = some (some (.ref f_law_padded)))
    (l_law_padded : K.lookup f_law_padded = some ⟨oc_law_padded, od_law_padded, .func (PySem.W.fnOf "_law_padded" "_law_padded" (defArgs s_law_padded) (defBody s_law_padded) (defScope s_law_padded) .none kV_law_padded dc_law_padded pm_law_padded an_law_padded cd_law_padded ct_law_padded), sl_law_padded⟩)
    (co_law_padded : PySem.W.codeIn K cd_law_padded "_law_padded" = true)
    (k_law_padded : PySem.W.keepIn K (.ref f_law_padded) = true)
    (a_law_figures : PySem.W.nsIn K mainGlobals "_law_figures" = some (some (.ref f_law_figures)))
    (l_law_figures : K.lookup f_law_figures = some ⟨oc_law_figures, od_law_figures, .func (PySem.W.fnOf "_law_figures" "_law_figures" (defArgs s_law_figures) (defBody s_law_figures) (defScope s_law_figures) .none kV_law_figures dc_law_figures pm_law_figures an_law_figures cd_law_figures ct_law_figures), sl_law_figures⟩)
    (co_law_figures : PySem.W.codeIn K cd_law_figures "_law_figures" = true)
    (k_law_figures : PySem.W.keepIn K (.ref f_law_figures) = true)
    (a_law_due : PySem.W.nsIn K mainGlobals "_law_due" = some (some (.ref f_law_due)))
    (l_law_due : K.lookup f_law_due = some ⟨oc_law_due, od_law_due, .func (PySem.W.fnOf "_law_due" "_law_due" (defArgs s_law_due) (defBody s_law_due) (defScope s_law_due) .none kV_law_due dc_law_due pm_law_due an_law_due cd_law_due ct_law_due), sl_law_due⟩)
    (co_law_due : PySem.W.codeIn K cd_law_due "_law_due" = true)
    (k_law_due : PySem.W.keepIn K (.ref f_law_due) = true)
    (a_law_same : PySem.W.nsIn K mainGlobals "_law_same" = some (some (.ref f_law_same)))
    (l_law_same : K.lookup f_law_same = some ⟨oc_law_same, od_law_same, .func (PySem.W.fnOf "_law_same" "_law_same" (defArgs s_law_same) (defBody s_law_same) (defScope s_law_same) .none kV_law_same dc_law_same pm_law_same an_law_same cd_law_same ct_law_same), sl_law_same⟩)
    (co_law_same : PySem.W.codeIn K cd_law_same "_law_same" = true)
    (k_law_same : PySem.W.keepIn K (.ref f_law_same) = true)
    (a_law : PySem.W.nsIn K mainGlobals "law" = some (some (.ref f_law)))
    (l_law : K.lookup f_law = some ⟨oc_law, od_law, .func (PySem.W.fnOf "law" "law" (defArgs s_law) (defBody s_law) (defScope s_law) .none kV_law dc_law pm_law an_law cd_law ct_law), sl_law⟩)
    (co_law : PySem.W.codeIn K cd_law "law" = true)
    (k_law : PySem.W.keepIn K (.ref f_law) = true)
    (a_NoNumber : PySem.W.nsIn K mainGlobals "NoNumber" = some (some (.ref c_NoNumber)))
    (xf_NoNumber : PySem.W.excIn K c_NoNumber [.type "ValueError", .type "Exception", .type "BaseException", .type "object"] "ValueError.__new__" = true)
    (kc_NoNumber : PySem.W.keepIn K (.ref c_NoNumber) = true)
    (eb_NoNumber : PySem.W.subIn K (.ref c_NoNumber) (.type "BaseException") = some true)
    (et_NoNumber : PySem.W.typeIn K (.ref c_NoNumber) = some (.type "type"))
    (cb_NoNumber : PySem.W.subIn K (.ref c_NoNumber) (.type "BaseException") = some true)
    (cd_NoNumber : PySem.W.hasDictIn K c_NoNumber = true)
    (ct_NoNumber : PySem.W.typeIn K (.ref c_NoNumber) = some (.type "type"))
    (cs_NoNumber_NoNumber : PySem.W.subIn K (.ref c_NoNumber) (.ref c_NoNumber) = some true) :
    ∃ fd : FuncData, (∀ (s : Shared) (v : Value), BindsTo s fd ⟨[v], []⟩ [("_law_script", v)]) ∧ ∀ base : Heap, K.In base → base.Ns mainGlobals mg → FnOk l.prog w K mg base CX0 3 fa fd ["_law_script"] (spLaw K) := by
  have e := hfa.symm.trans (PySem.W.mg_of X G a_law)
  cases e
  have T : Bt mg := ⟨PySem.W.mg_none_of X G z_len, PySem.W.mg_none_of X G z_int, PySem.W.mg_none_of X G z_bool, PySem.W.mg_none_of X G z_ValueError, PySem.W.mg_none_of X G z_tuple, PySem.W.mg_none_of X G z_str, PySem.W.mg_none_of X G z_range, PySem.W.mg_none_of X G z_isinstance⟩
  have mg_SIGNS := PySem.W.mg_of X G a_SIGNS
  have mg_WORDS := PySem.W.mg_of X G a_WORDS
  have sq_WORDS : ∀ H : Hp, SqT K H t_WORDS [.str "begun", .str "told", .str "done", .str "fallen", .str "ended", .str "cut", .str "answers", .str "gives up", .str "gave up"] := fun H => .inr ⟨_, _, _, l_WORDS, rfl, rfl, (by show 9 ≤ sizeLine; rw [sizeLine_eq]; decide), .cons ⟨_, rfl⟩ (.cons ⟨_, rfl⟩ (.cons ⟨_, rfl⟩ (.cons ⟨_, rfl⟩ (.cons ⟨_, rfl⟩ (.cons ⟨_, rfl⟩ (.cons ⟨_, rfl⟩ (.cons ⟨_, rfl⟩ (.cons ⟨_, rfl⟩ (.nil)))))))))⟩
  have F_number_in : FunS K "number_in" "number_in" s_number_in [.int 1000000] f_number_in _ := ⟨⟨_, _, _, _, _, _, _, _, _, _, rfl, l_number_in, co_number_in, .inr ⟨List.cons_ne_nil _ _, _, _, _, _, rfl, lT_number_in, rfl, .cons ⟨_, rfl⟩ (.nil)⟩, .inl rfl⟩, k_number_in⟩
  have F_fit_name := fun_mk (st := s_fit_name) l_fit_name co_fit_name k_fit_name
  have b_fit_name := F_fit_name.binds (ps := ["text"]) fun _ _ _ _ _ _ us hl => match us, hl with | [_], _ => rfl
  have F_shown : FunS K "shown" "shown" s_shown [.int 4] f_shown _ := ⟨⟨_, _, _, _, _, _, _, _, _, _, rfl, l_shown, co_shown, .inr ⟨List.cons_ne_nil _ _, _, _, _, _, rfl, lT_shown, rfl, .cons ⟨_, rfl⟩ (.nil)⟩, .inl rfl⟩, k_shown⟩
  have F_seen := fun_mk (st := s_seen) l_seen co_seen k_seen
  have b_seen := F_seen.binds (ps := ["text"]) fun _ _ _ _ _ _ us hl => match us, hl with | [_], _ => rfl
  have F_law_cell_at := fun_mk (st := s_law_cell_at) l_law_cell_at co_law_cell_at k_law_cell_at
  have b_law_cell_at := F_law_cell_at.binds (ps := ["_law_script", "_law_k"]) fun _ _ _ _ _ _ us hl => match us, hl with | [_, _], _ => rfl
  have F_law_words := fun_mk (st := s_law_words) l_law_words co_law_words k_law_words
  have b_law_words := F_law_words.binds (ps := []) fun _ _ _ _ _ _ us hl => match us, hl with | [], _ => rfl
  have F_law_name := fun_mk (st := s_law_name) l_law_name co_law_name k_law_name
  have b_law_name := F_law_name.binds (ps := ["_law_cell"]) fun _ _ _ _ _ _ us hl => match us, hl with | [_], _ => rfl
  have F_law_padded := fun_mk (st := s_law_padded) l_law_padded co_law_padded k_law_padded
  have b_law_padded := F_law_padded.binds (ps := ["_law_text", "_law_width", "_law_sign"]) fun _ _ _ _ _ _ us hl => match us, hl with | [_, _, _], _ => rfl
  have F_law_figures := fun_mk (st := s_law_figures) l_law_figures co_law_figures k_law_figures
  have b_law_figures := F_law_figures.binds (ps := ["_law_text"]) fun _ _ _ _ _ _ us hl => match us, hl with | [_], _ => rfl
  have F_law_due := fun_mk (st := s_law_due) l_law_due co_law_due k_law_due
  have b_law_due := F_law_due.binds (ps := ["_law_text"]) fun _ _ _ _ _ _ us hl => match us, hl with | [_], _ => rfl
  have F_law_same := fun_mk (st := s_law_same) l_law_same co_law_same k_law_same
  have b_law_same := F_law_same.binds (ps := ["_law_found", "_law_due_here"]) fun _ _ _ _ _ _ us hl => match us, hl with | [_, _], _ => rfl
  have F_law := fun_mk (st := s_law) l_law co_law k_law
  have b_law := F_law.binds (ps := ["_law_script"]) fun _ _ _ _ _ _ us hl => match us, hl with | [_], _ => rfl
  have mg_NoNumber := PySem.W.mg_of X G a_NoNumber
  have e_NoNumber : ErrK K mg "NoNumber" c_NoNumber := ⟨xf_NoNumber, mg_NoNumber, kc_NoNumber, eb_NoNumber, et_NoNumber⟩
  have nm_NoNumber : NamK K mg "NoNumber" c_NoNumber := ⟨mg_NoNumber⟩
  have ex_NoNumber_NoNumber := PySem.W.exm_ref cb_NoNumber cd_NoNumber ct_NoNumber cs_NoNumber_NoNumber
  refine ⟨PySem.W.fnOf "law" "law" (defArgs s_law) (defBody s_law) (defScope s_law) .none kV_law dc_law pm_law an_law cd_law ct_law, fun s v => .of_eq rfl, fun base _ _ => ?_⟩
  have C_law_cell_at : Cal l.prog w K mg base CX0 "_law_cell_at" 1 ["_law_script", "_law_k"] [] (spCell K) := ⟨⟨_, _, [], (ok_cell F_law_cell_at T), PySem.W.mg_of X G a_law_cell_at, k_law_cell_at, b_law_cell_at, .nil⟩⟩
  have C_law_words : Cal l.prog w K mg base CX0 "_law_words" 1 [] [] spW9 := ⟨⟨_, _, [], (ok_words9 F_law_words), PySem.W.mg_of X G a_law_words, k_law_words, b_law_words, .nil⟩⟩
  have C_law_name : Cal l.prog w K mg base CX0 "_law_name" 1 ["_law_cell"] [] spName := ⟨⟨_, _, [], (ok_name F_law_name T), PySem.W.mg_of X G a_law_name, k_law_name, b_law_name, .nil⟩⟩
  have C_law_padded : Cal l.prog w K mg base CX0 "_law_padded" 1 ["_law_text", "_law_width", "_law_sign"] [] spPad := ⟨⟨_, _, [], (ok_pad F_law_padded T), PySem.W.mg_of X G a_law_padded, k_law_padded, b_law_padded, .nil⟩⟩
  have C_law_figures : Cal l.prog w K mg base CX0 "_law_figures" 1 ["_law_text"] [] spFigures := ⟨⟨_, _, [], (ok_figures F_law_figures T), PySem.W.mg_of X G a_law_figures, k_law_figures, b_law_figures, .nil⟩⟩
  have C_law_same : Cal l.prog w K mg base CX0 "_law_same" 1 ["_law_found", "_law_due_here"] [] spSame := ⟨⟨_, _, [], (ok_same F_law_same T), PySem.W.mg_of X G a_law_same, k_law_same, b_law_same, .nil⟩⟩
  have C_fit_name : Cal l.prog w K mg base CX0 "fit_name" 1 ["text"] [] spFit := ⟨⟨_, _, [], (ok_fit F_fit_name T mg_SIGNS), PySem.W.mg_of X G a_fit_name, k_fit_name, b_fit_name, .nil⟩⟩
  obtain ⟨dc_shown_1, hc_shown_1, bc_shown_1⟩ := F_shown.binds1 (ps := ["entry", "width"]) 1 0 (List.cons_ne_nil _ _) rfl fun _ _ _ _ _ _ _ us its hu hi => match us, hu, its, hi with | [_], _, [_], _ => ⟨_, rfl, rfl⟩
  have C_shown_1 : Cal l.prog w K mg base CX0 "shown" 1 ["entry", "width"] [.int 4] spShown := ⟨⟨_, _, dc_shown_1, (ok_shown F_shown T), PySem.W.mg_of X G a_shown, k_shown, bc_shown_1, hc_shown_1⟩⟩
  obtain ⟨dc_shown_2, hc_shown_2, bc_shown_2⟩ := F_shown.binds1 (ps := ["entry", "width"]) 2 1 (List.cons_ne_nil _ _) rfl fun _ _ _ _ _ _ _ us its hu hi => match us, hu, its, hi with | [_, _], _, [_], _ => ⟨_, rfl, rfl⟩
  have C_shown_2 : Cal l.prog w K mg base CX0 "shown" 1 ["entry", "width"] [] spShown := ⟨⟨_, _, dc_shown_2, (ok_shown F_shown T), PySem.W.mg_of X G a_shown, k_shown, bc_shown_2, hc_shown_2⟩⟩
  obtain ⟨dc_number_in_2, hc_number_in_2, bc_number_in_2⟩ := F_number_in.binds1 (ps := ["text", "most"]) 2 1 (List.cons_ne_nil _ _) rfl fun _ _ _ _ _ _ _ us its hu hi => match us, hu, its, hi with | [_, _], _, [_], _ => ⟨_, rfl, rfl⟩
  have C_number_in_2 : Cal l.prog w K mg base (CXN l.prog w) "number_in" 1 ["text", "most"] [] (spNum c_NoNumber) := ⟨⟨_, _, dc_number_in_2, (ok_number F_number_in T e_NoNumber), PySem.W.mg_of X G a_number_in, k_number_in, bc_number_in_2, hc_number_in_2⟩⟩
  have C_seen : Cal l.prog w K mg base CX0 "seen" 2 ["text"] [] spSeen := ⟨⟨_, _, [], (ok_seen F_seen T e_NoNumber ex_NoNumber_NoNumber mg_WORDS sq_WORDS C_fit_name C_number_in_2), PySem.W.mg_of X G a_seen, k_seen, b_seen, .nil⟩⟩
  have C_law_due : Cal l.prog w K mg base CX0 "_law_due" 2 ["_law_text"] [] spDue := ⟨⟨_, _, [], (ok_due F_law_due T C_law_words C_law_padded C_law_figures), PySem.W.mg_of X G a_law_due, k_law_due, b_law_due, .nil⟩⟩
  exact (ok_law F_law T C_law_cell_at C_law_name C_law_words C_law_padded C_shown_1 C_shown_2 C_seen C_law_due C_law_same)
theorem walk {l : PySem.W.OpenLaw} {q : Program} {loose : List Str} {XP : (Str → Option Value) → Heap → Prop} {YP : World → Heap → Prop} {d : DefRec} {K : Params → PySem.W.Frag} (hn : l.most = some 63) (hdf : d.params.defaults = [])
    (hY : ∀ (w : World) (h : Heap), YP w h → (K w.params).In h)
    (F : ∀ (w : World) (mg : Str → Option Value) (fa : Addr) (h : Heap), (K w.params).In h → h.Ns mainGlobals mg → mg d.name = some (.ref fa) →
      ∃ fd : FuncData, (∀ (s : Shared) (u : Value), BindsTo s fd ⟨[u], []⟩ [("_law_script", u)]) ∧ ∀ base : Heap, (K w.params).In base → base.Ns mainGlobals mg → FnOk l.prog w (K w.params) mg base CX0 3 fa fd ["_law_script"] (spLaw (K w.params))) :
    PySem.W.WalkO q loose XP YP l.row.toRowW d [] (fun f vs => PySem.call f vs) :=
  L2.walk_of (n := 63) (k := 3) (x := "_law_script") (CX := fun _ => CX0) (sp := fun w => spLaw (K w.params)) hn (by decide) hdf ⟨rfl, by decide, by decide⟩ hY F (fun _ _ a ns hl _ hS => ⟨a, ns, rfl, hS, hl, fun _ => rfl⟩) fun _ _ _ _ _ z => z
end Mn
open PySem PySem.W PyProof.Rows
set_option maxRecDepth 100000 in
set_option maxHeartbeats 0 in
theorem PySem.Challenge.cw_minders_k07_entries_shown_and_seen_holds : PySem.Challenge.rw_minders_k07_entries_shown_and_seen.Holds := by
  w_on; o_law; k_head; (case hw => w_witness2)
  k_fill
  refine Mn.walk (l := PySem.Challenge.rw_minders_k07_entries_shown_and_seen) rfl rfl (fun w h Y => PySem.W.kIn_of Y) ?F
  case F =>
    intro w mg fa h KX G hmg
    refine' Mn.all_mk KX G hmg ?z_len ?z_int ?z_bool ?z_ValueError ?z_tuple ?z_str ?z_range ?z_isinstance ?a_SIGNS ?a_WORDS ?l_WORDS ?a_number_in ?l_number_in ?co_number_in ?k_number_in ?lT_number_in ?a_fit_name ?l_fit_name ?co_fit_name ?k_fit_name ?a_shown ?l_shown ?co_shown ?k_shown ?lT_shown ?a_seen ?l_seen ?co_seen ?k_seen ?a_law_cell_at ?l_law_cell_at ?co_law_cell_at ?k_law_cell_at ?a_law_words ?l_law_words ?co_law_words ?k_law_words ?a_law_name ?l_law_name ?co_law_name ?k_law_name ?a_law_padded ?l_law_padded ?co_law_padded ?k_law_padded ?a_law_figures ?l_law_figures ?co_law_figures ?k_law_figures ?a_law_due ?l_law_due ?co_law_due ?k_law_due ?a_law_same ?l_law_same ?co_law_same ?k_law_same ?a_law ?l_law ?co_law ?k_law ?a_NoNumber ?xf_NoNumber ?kc_NoNumber ?eb_NoNumber ?et_NoNumber ?cb_NoNumber ?cd_NoNumber ?ct_NoNumber ?cs_NoNumber_NoNumber
    (case z_len => k_is)
    (case z_int => k_is)
    (case z_bool => k_is)
    (case z_ValueError => k_is)
    (case z_tuple => k_is)
    (case z_str => k_is)
    (case z_range => k_is)
    (case z_isinstance => k_is)
    (case a_SIGNS => k_is)
    (case a_WORDS => k_is)
    (case l_WORDS => k_is)
    (case a_number_in => k_is)
    (case l_number_in => k_is)
    (case co_number_in => k_is)
    (case k_number_in => k_is)
    (case lT_number_in => k_is)
    (case a_fit_name => k_is)
    (case l_fit_name => k_is)
    (case co_fit_name => k_is)
    (case k_fit_name => k_is)
    (case a_shown => k_is)
    (case l_shown => k_is)
    (case co_shown => k_is)
    (case k_shown => k_is)
    (case lT_shown => k_is)
    (case a_seen => k_is)
    (case l_seen => k_is)
    (case co_seen => k_is)
    (case k_seen => k_is)
    (case a_law_cell_at => k_is)
    (case l_law_cell_at => k_is)
    (case co_law_cell_at => k_is)
    (case k_law_cell_at => k_is)
    (case a_law_words => k_is)
    (case l_law_words => k_is)
    (case co_law_words => k_is)
    (case k_law_words => k_is)
    (case a_law_name => k_is)
    (case l_law_name => k_is)
    (case co_law_name => k_is)
    (case k_law_name => k_is)
    (case a_law_padded => k_is)
    (case l_law_padded => k_is)
    (case co_law_padded => k_is)
    (case k_law_padded => k_is)
    (case a_law_figures => k_is)
    (case l_law_figures => k_is)
    (case co_law_figures => k_is)
    (case k_law_figures => k_is)
    (case a_law_due => k_is)
    (case l_law_due => k_is)
    (case co_law_due => k_is)
    (case k_law_due => k_is)
    (case a_law_same => k_is)
    (case l_law_same => k_is)
    (case co_law_same => k_is)
    (case k_law_same => k_is)
    (case a_law => k_is)
    (case l_law => k_is)
    (case co_law => k_is)
    (case k_law => k_is)
    (case a_NoNumber => k_is)
    (case xf_NoNumber => k_exc)
    (case kc_NoNumber => k_is)
    (case eb_NoNumber => k_is)
    (case et_NoNumber => k_is)
    (case cb_NoNumber => k_is)
    (case cd_NoNumber => k_is)
    (case ct_NoNumber => k_is)
    (case cs_NoNumber_NoNumber => k_is)
#print axioms PySem.Challenge.cw_minders_k07_entries_shown_and_seen_holds
