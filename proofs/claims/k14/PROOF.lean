import PyProof.Rows.All
import Wide.All
import OpenK.AllK
import Wide.FinOn
import KE.KStateDown
import Lean
import HandS.Base
import HandS.Call
import HandS.List
import HandS.Comp
import HandS.Ends
import HandS.More
import HandS.Words
import HandS.WordsList
import HandS.WordsDict
import HandS.WordsExc
import HandS.Exc
import HandS.ExcOwn
import HandS.ExcIs
import HandS.TryOnly
import HandS.Dict
import HandS.Iter
import HandS.Text
import HandS.Flow
import HandS.Evl
import HandS.Wide
import HandS.WideBits
import HandS.Style
import HandS.IsInst
import HandS.TupAny
import HandS.Deep
import HandS.Zip
import HandS.Rev
import HandS.FStr
import HandS.SortInts
import HandS.Small
import HandS.StrMore
import HandS.StrSplit
import HandS.DictTup
import HandS.TupLe
import HandS.Defaults
import HandS.Head0
import HandS.Head1
import HandS.Head2
import HandS.HeadEnd
import HandS.HeadHook1
import HandS.HeadHook2
import PySem.Challenge.RW_skeinwood_k14_most_heights
set_option Elab.async false
set_option linter.all false
set_option maxRecDepth 100000
set_option maxHeartbeats 0
namespace Sk
open PySem PySem.Spec PyProof.Rows L2

/-! ### callees by names -/
/-- the function object at f -/
def IsF (K : PySem.W.Frag) (f : Addr) (fd : FuncData) : Prop := ∃ oc od osl, K.lookup f = some ⟨oc, od, .func fd, osl⟩
theorem IsF.one {K : PySem.W.Frag} {f : Addr} {fd fd' : FuncData} (h : IsF K f fd) (h' : IsF K f fd') : fd = fd' := by
  obtain ⟨_, _, _, e⟩ := h
  obtain ⟨_, _, _, e'⟩ := h'
  rw [e] at e'
  injection e' with e1
  injection e1 with _ _ e2
  injection e2
theorem IsF.of {K : PySem.W.Frag} {x qual : Str} {params : Arguments} {body : List Stmt} {scope : Scope} {f : Addr} {fd : FuncData} {dvs : List V} {kws : List (Str × V)} (h : FunD K x qual params body scope dvs kws f fd) : IsF K f fd := by
  obtain ⟨⟨oc, od, _, _, _, _, _, _, _, osl, _, e, _⟩, _⟩ := h
  exact ⟨oc, od, osl, e⟩
/-- a def of the module keeps its promise -/
structure Cal (P : Program) (w : World) (K : PySem.W.Frag) (mg : Str → Option Value) (base : Heap) (k : Nat) (x : Str) (ps : List Str) (sp : Sp) : Prop where
  ex : ∃ fd, FnOk P w K mg base (L2.CX P w) k (He.ga K x) fd ps sp ∧ Binds K fd ps [] ∧ IsF K (He.ga K x) fd
  g : mg x = some (.ref (He.ga K x))
  kp : PySem.W.keepIn K (.ref (He.ga K x)) = true
/-- a method -/
structure CalM (P : Program) (w : World) (K : PySem.W.Frag) (mg : Str → Option Value) (base : Heap) (k : Nat) (c m : Str) (ps : List Str) (sp : Sp) : Prop where
  ex : ∃ fd, FnOk P w K mg base (L2.CX P w) k (He.ma K (He.ga K c) m) fd ps sp ∧ Binds K fd ps []
  cl : Cls K (He.ga K c)
  me : Meth K (He.ga K c) m (He.ma K (He.ga K c) m)
/-- a class, by its maker -/
structure CalK (P : Program) (w : World) (K : PySem.W.Frag) (mg : Str → Option Value) (base : Heap) (k : Nat) (c : Str) (ps : List Str) (sp : Sp) : Prop where
  ex : ∃ fd, FnOk P w K mg base (L2.CX P w) k (He.ma K (He.ga K c) "__init__") fd ps sp ∧ Binds K fd ps []
  g : mg c = some (.ref (He.ga K c))
  mkr : Mk K (He.ga K c) (He.ma K (He.ga K c) "__init__")
section
variable {P : Program} {w : World} {K : PySem.W.Frag} {mg : Str → Option Value} {base : Heap} {k j : Nat} {x c m : Str} {ps : List Str} {sp sp' : Sp}
theorem Cal.mono (h : Cal P w K mg base j x ps sp) (l : j ≤ k) : Cal P w K mg base k x ps sp := let ⟨⟨fd, F, b, i⟩, g, kp⟩ := h; ⟨⟨fd, F.mono l, b, i⟩, g, kp⟩
theorem CalM.mono (h : CalM P w K mg base j c m ps sp) (l : j ≤ k) : CalM P w K mg base k c m ps sp := let ⟨⟨fd, F, b⟩, g, kp⟩ := h; ⟨⟨fd, F.mono l, b⟩, g, kp⟩
theorem Cal.imp (h : Cal P w K mg base k x ps sp) (l : ∀ vs H Q E, sp' vs H Q E → sp vs H Q E) : Cal P w K mg base k x ps sp' := let ⟨⟨fd, F, b, i⟩, g, kp⟩ := h; ⟨⟨fd, F.imp l, b, i⟩, g, kp⟩
theorem CalM.imp (h : CalM P w K mg base k c m ps sp) (l : ∀ vs H Q E, sp' vs H Q E → sp vs H Q E) : CalM P w K mg base k c m ps sp' := let ⟨⟨fd, F, b⟩, g, kp⟩ := h; ⟨⟨fd, F.imp l, b⟩, g, kp⟩
end
section
variable {X : Cx} {k : Nat} {x c m : Str} {ps : List Str} {sp : Sp} {W : WX} {p pos apos : Pos} {e o : Expr} {es : List Expr} {ta : TE} {t : TA}
theorem pf (c : Cal X.prog X.w X.K X.mg X.base k x ps sp) (hr : Room k X.A) (tk : Takes X W) (ha : PA X (e :: es) t) (hg : Gl X x := by rfl) (hdb : (x == ("__debug__" : Str)) = false := by decide)
    (he : starEach (e :: es) X.env = (false, eval e X.env) :: starEach es X.env := by rfl) (hpl : (backTo pos (starEach es X.env)).any (·.1) = false := by rfl) : PE X (.Call (.Name x p) (e :: es) [] pos) (tCallS sp (WE W) t) := by
  obtain ⟨⟨fd, F, hb, _⟩, g, kp⟩ := c
  exact pe_callS F hr hg g kp hb (fun σ => passAt tk σ) ha hdb he hpl
theorem pf0 (c : Cal X.prog X.w X.K X.mg X.base k x ps sp) (hr : Room k X.A) (tk : Takes X W) (hg : Gl X x := by rfl) (hdb : (x == ("__debug__" : Str)) = false := by decide) : PE X (.Call (.Name x p) [] [] pos) (tCallS sp (WE W) tNil) := by
  obtain ⟨⟨fd, F, hb, _⟩, g, kp⟩ := c
  refine ⟨fun pins s σ H Q I h => ?_⟩
  refine wpAny_Call_Name_kw (ld_glob I hg g ?_ hdb)
  exact PySem.W.callWith_K0 I.kIn kp (run_fnS (us := []) F hr hb (passAt tk σ) I .nil h)
/-- o.m(..) of an instance, the wish of what is raised at the slots as they stand -/
def tMethS (C : Addr) (m : Str) (sp : Sp) (E : L2.St → XK) (ta : TE) (t : TA) : TE := fun σ H Q => ta σ H fun x H1 => ∃ a dx fs, x = .ref a ∧ H1 a = some (.ins C dx fs) ∧ fs.lookup m = none ∧
  t σ H1 fun vs H2 => sp (x :: vs) H2 Q (E σ)
theorem pm {pl : Sem Bool} (M : CalM X.prog X.w X.K X.mg X.base k c m ps sp) (he : PE X o ta) (hr : Room k X.A) (tk : Takes X W) (ha : PA X (e :: es) t)
    (hst : starEach (e :: es) X.env = (false, eval e X.env) :: starEach es X.env := by rfl) (hpl : (backTo pos (starEach es X.env)).any (·.1) = false := by rfl)
    (ht : eval (.Call (.Attribute o m apos) (e :: es) [] pos) X.env = (do
      let ov ← eval o X.env
      standAt apos.atName
      let (f, first) ← holding [ov] (getMethod ov m pl)
      callWith pos f first (backTo pos (starEach (e :: es) X.env)) (backToKw pos (keywordEach [] X.env))) := by rfl) :
    PE X (.Call (.Attribute o m apos) (e :: es) [] pos) (tMethS (He.ga X.K c) m sp (WE W) ta t) := by
  obtain ⟨⟨fd, F, hb⟩, cl, hm⟩ := M
  refine ⟨fun pins s σ H Q I h => ?_⟩
  refine PySem.W.methodCall_KW (pl := pl) (thn (he.run pins s σ H _ I h) fun u s1 ⟨x, H1, I1, rx, a, dx, fs, ex, ea, l, q⟩ => ?_) ht
  subst ex
  obtain rfl : u = Value.ref a := rx
  refine getmeth_ok I1 ea cl hm l ?_
  refine PySem.W.callWith_K (first := [.ref a]) (h₀ := X.base) I.ok.mod.kin hm.kp (thn (ha.run pos pins s1 σ H1 _ I1 q) fun us s2 ⟨vs, H2, I2, r, q2⟩ => ⟨I2.kIn, ?_⟩) hst hpl
  exact run_fnS (us := .ref a :: us) (vs := .ref a :: vs) F hr hb (passAt tk σ) I2 (.cons rfl r) q2
theorem pm0 {pl : Sem Bool} (M : CalM X.prog X.w X.K X.mg X.base k c m ps sp) (he : PE X o ta) (hr : Room k X.A) (tk : Takes X W)
    (ht : eval (.Call (.Attribute o m apos) [] [] pos) X.env = (do
      let ov ← eval o X.env
      standAt apos.atName
      let (f, first) ← holding [ov] (getMethod ov m pl)
      callWith pos f first (backTo pos (starEach [] X.env)) (backToKw pos (keywordEach [] X.env))) := by rfl) :
    PE X (.Call (.Attribute o m apos) [] [] pos) (tMethS (He.ga X.K c) m sp (WE W) ta tNil) := by
  obtain ⟨⟨fd, F, hb⟩, cl, hm⟩ := M
  refine ⟨fun pins s σ H Q I h => ?_⟩
  refine PySem.W.methodCall_KW (pl := pl) (thn (he.run pins s σ H _ I h) fun u s1 ⟨x, H1, I1, rx, a, dx, fs, ex, ea, l, q⟩ => ?_) ht
  subst ex
  obtain rfl : u = Value.ref a := rx
  refine getmeth_ok I1 ea cl hm l ?_
  exact PySem.W.callWith_K0 (first := [.ref a]) I1.kIn hm.kp (run_fnS (us := [.ref a]) (vs := [.ref a]) F hr hb (passAt tk σ) I1 (.cons rfl .nil) q)
theorem pass0X {X : Cx} : Passes (L2.CX X.prog X.w) X E0 := passL
theorem pk0 (M : CalK X.prog X.w X.K X.mg X.base k c ps sp) (hr : Room (k + 1) X.A) (tk : Takes X W) (hg : Gl X c := by rfl) (hdb : (c == ("__debug__" : Str)) = false := by decide) : PE X (.Call (.Name c p) [] [] pos) (tMake (He.ga X.K c) sp [] E0 tNil) := by
  obtain ⟨⟨fd, F, hb⟩, g, mk⟩ := M
  exact pe_make0 mk F hr hg g hb .nil passL hdb
theorem pk (M : CalK X.prog X.w X.K X.mg X.base k c ps sp) (hr : Room (k + 1) X.A) (tk : Takes X W) (ha : PA X (e :: es) t) (hg : Gl X c := by rfl) (hdb : (c == ("__debug__" : Str)) = false := by decide)
    (he : starEach (e :: es) X.env = (false, eval e X.env) :: starEach es X.env := by rfl) (hpl : (backTo pos (starEach es X.env)).any (·.1) = false := by rfl) : PE X (.Call (.Name c p) (e :: es) [] pos) (tMake (He.ga X.K c) sp [] E0 t) := by
  obtain ⟨⟨fd, F, hb⟩, g, mk⟩ := M
  exact pe_make mk F hr hg g hb .nil passL ha hdb he hpl
/-- X(), an own error without values -/
theorem pmk_own0 {x : Str} {C : Addr} (q : PySem.W.excIn X.K C He.veBase "ValueError.__new__" = true ∧ PySem.W.keepIn X.K (.ref C) = true ∧ PySem.W.subIn X.K (.ref C) (.type "BaseException") = some true ∧ PySem.W.typeIn X.K (.ref C) = some (.type "type"))
    (gC : X.mg x = some (.ref C)) (hg : Gl X x := by rfl) (hdb : (x == ("__debug__" : Str)) = false := by decide) : PMk X (.Call (.Name x p) [] [] pos) (fun _ H Q => Q (.ref C) none H) := by
  obtain ⟨q1, q2, q3, q4⟩ := q
  intro pins s σ H Q I h
  refine wpAny_Call_Name_kw (ld_glob I hg gC ?_ hdb)
  refine PySem.W.callWith_K0 I.kIn q2 ?_
  obtain ⟨bm, N, nm, qn, bs, hdct, sn, sub, ab, col, dd, k0, k1, k2, k3, k5, mN, hC, hN, hni, T⟩ := exc_obj I.kIn q1
  refine wpAny_call_exc_subT PySem.F.excBase_ValueError T hC hN hni (fun h' e hm => ?_) (Nat.zero_le _)
  exact mk_of I hm (raises_own q3 q4) h (I.hok.gone hm.new)
end

/-! ### a def's promise from its body -/
section
variable {P : Program} {w : World} {K : PySem.W.Frag} {mg : Str → Option Value} {base : Heap} {k : Nat} {x c m qual : Str} {N ps : List Str} {sp : Sp} {args : Arguments} {body : List Stmt} {sc : Scope}
abbrev Body (P : Program) (w : World) (K : PySem.W.Frag) (mg : Str → Option Value) (base : Heap) (k : Nat) (N : List Str) (qual : Str) (sc : Scope) (body : List Stmt) (f : Addr) (sp : Sp) : Prop :=
  ∀ (cdv : Value) (A : Around) (outer : List Env) (s : Shared) (H : Hp) (vs : List V) (Q : VK) (E : XK), Room k (A.deeper (envOfC qual sc s.heap.objs.size f cdv)) → sp vs H Q E →
      ∃ t, PSs (cxOf (L2.CX P w) P w K mg base N qual sc f cdv A outer s H E) body t ∧ t { nx := fun _ H' => Q .non H', rt := Q } (start N vs) H
theorem Cal.of (F : ∃ fd, FunD K x qual args body sc [] [] (He.fAd K (x, none)) fd) (g : mg x = some (.ref (He.ga K x))) (S : FnScope N ps sc)
    (b : ∀ (kV doc pm : Value) (an : Option Addr) (cdv ct : Value) (us : List Value), us.length = ps.length → bindArgs (PySem.W.fnOf x qual args body sc .none kV doc pm an cdv ct) ⟨us, []⟩ = pure (ps.zip us))
    (len : ∀ vs H Q E, sp vs H Q E → vs.length = ps.length) (h : Body P w K mg base k N qual sc body (He.ga K x) sp) : Cal P w K mg base (k + 1) x ps sp := by
  obtain ⟨fd, F⟩ := F
  exact ⟨⟨fd, F.ok S len h, F.bindsN b, .of F⟩, g, F.kp⟩
theorem CalM.of (F : ∃ fd, FunD K m qual args body sc [] [] (He.fAd K (c, some m)) fd) (cl : Cls K (He.ga K c)) (me : Meth K (He.ga K c) m (He.ma K (He.ga K c) m)) (S : FnScope N ps sc)
    (b : ∀ (kV doc pm : Value) (an : Option Addr) (cdv ct : Value) (us : List Value), us.length = ps.length → bindArgs (PySem.W.fnOf m qual args body sc .none kV doc pm an cdv ct) ⟨us, []⟩ = pure (ps.zip us))
    (len : ∀ vs H Q E, sp vs H Q E → vs.length = ps.length) (h : Body P w K mg base k N qual sc body (He.ma K (He.ga K c) m) sp) : CalM P w K mg base (k + 1) c m ps sp := by
  obtain ⟨fd, F⟩ := F
  exact ⟨⟨fd, F.ok S len h, F.bindsN b⟩, cl, me⟩
theorem CalK.of (F : ∃ fd, FunD K "__init__" qual args body sc [] [] (He.fAd K (c, some "__init__")) fd) (g : mg c = some (.ref (He.ga K c))) (mk : Mk K (He.ga K c) (He.ma K (He.ga K c) "__init__")) (S : FnScope N ps sc)
    (b : ∀ (kV doc pm : Value) (an : Option Addr) (cdv ct : Value) (us : List Value), us.length = ps.length → bindArgs (PySem.W.fnOf "__init__" qual args body sc .none kV doc pm an cdv ct) ⟨us, []⟩ = pure (ps.zip us))
    (len : ∀ vs H Q E, sp vs H Q E → vs.length = ps.length) (h : Body P w K mg base k N qual sc body (He.ma K (He.ga K c) "__init__") sp) : CalK P w K mg base (k + 1) c ps sp := by
  obtain ⟨fd, F⟩ := F
  exact ⟨⟨fd, F.ok S len h, F.bindsN b⟩, g, mk⟩
end

/-- a def from which no error leaves, told so -/
theorem to0 {P : Program} {w : World} {K : PySem.W.Frag} {mg : Str → Option Value} {base : Heap} {k : Nat} {f : Addr} {fd : FuncData} {ps : List Str} {sp : Sp} (F : FnOk P w K mg base (L2.CX P w) k f fd ps sp) (h : ∀ vs H Q E, sp vs H Q E → sp vs H Q E0) : FnOk P w K mg base CX0 k f fd ps sp := by
  refine ⟨F.len, fun A outer s H args us vs Q E hr he hb hv hs => codeAny_mono (F.run A outer s H args us vs Q E0 hr he hb hv (h _ _ _ _ hs)) fun r s' hq => ?_⟩
  cases r with
  | error e =>
    obtain ⟨_, _, _, _, _, _, _, _, _, _, _, _, z⟩ := hq
    exact z.elim
  | ok fl => cases fl <;> exact hq

/-! ### built-in names -/
theorem bt_range : bootBuiltins "range" = some (.type "range") := by decide +kernel
theorem bt_isinstance : bootBuiltins "isinstance" = some (.builtin "isinstance") := by decide +kernel
theorem bt_all : bootBuiltins "all" = some (.builtin "all") := by decide +kernel
theorem bt_any : bootBuiltins "any" = some (.builtin "any") := by decide +kernel
theorem bt_sum : bootBuiltins "sum" = some (.builtin "sum") := by decide +kernel
theorem bt_max : bootBuiltins "max" = some (.builtin "max") := by decide +kernel
theorem bt_min : bootBuiltins "min" = some (.builtin "min") := by decide +kernel
theorem bt_abs : bootBuiltins "abs" = some (.builtin "abs") := by decide +kernel
theorem bt_sorted : bootBuiltins "sorted" = some (.builtin "sorted") := by decide +kernel
theorem bt_int : bootBuiltins "int" = some (.type "int") := by decide +kernel
theorem bt_bool : bootBuiltins "bool" = some (.type "bool") := by decide +kernel
theorem bt_str : bootBuiltins "str" = some (.type "str") := by decide +kernel
theorem bt_list : bootBuiltins "list" = some (.type "list") := by decide +kernel
theorem bt_tuple : bootBuiltins "tuple" = some (.type "tuple") := by decide +kernel
theorem bt_dict : bootBuiltins "dict" = some (.type "dict") := by decide +kernel

/-! ### more operators -/
/-- list + list, whatever the lists are -/
def rCatL (K : PySem.W.Frag) : R2 := fun x y H Q => ∃ l b xs zs, x = .ref l ∧ y = .ref b ∧ SqL K H l xs ∧ SqL K H b zs ∧ xs.length + zs.length ≤ sizeLine ∧ ∀ p, H p = none → Q (.ref p) (upd H p (.lst (xs ++ zs)))
theorem op_catL {X : Cx} : OpR X (binaryOp .Add) (rCatL X.K) := by
  intro pins s σ H x y v u Q I rx ry h
  obtain ⟨l, b, xs, zs, rfl, rfl, hH, hB, hz, q⟩ := h
  cases rx
  cases ry
  obtain ⟨its, r, pl, _⟩ := I.list hH
  obtain ⟨its2, r2, pl2, _⟩ := I.list hB
  obtain ⟨⟨cls, dd, data, sl⟩, ho, hc, n, hd⟩ := pl.isList
  obtain ⟨⟨cls2, dd2, data2, sl2⟩, ho2, hc2, n2, hd2⟩ := pl2.isList
  simp only at hc hd hc2 hd2
  subst hc hd hc2 hd2
  have l1 := r.length
  have l2 := r2.length
  refine concat_meets ⟨_, ho, rfl⟩ ⟨_, ho2, rfl⟩ noFill_list_add seq_list_add PySem.F.slot_list_add PySem.F.entry_list_add (PySem.F.args_list_add_2 _ _) (list_addW l b its.toArray its2.toArray n n2 dd dd2 sl sl2 (by simp only [List.size_toArray]; omega)) ⟨ho, ho2, ?_⟩
  have ea : its.toArray ++ its2.toArray = (its ++ its2).toArray := by simp
  rw [ea]
  exact ⟨.ref _, _, I.lnew (t' := s.toks) (r.append r2) (by rw [List.length_append]; omega), rfl, q _ I.fresh⟩
/-- isinstance of one class -/
theorem r_isi {K : PySem.W.Frag} {H : Hp} {Q : VK} {x : V} {t u : String} {b : Bool} (ht : TyX K H x (.type t)) (hk : kitB t u = some b) (k : Q (.bl b) H) : rIsi K [x, .ty u] H Q := ⟨x, .ty u, _, _, b, rfl, .ty u, ht, kit_ty hk, k⟩

/-! ### readings, a step at a time -/
/-- a slot is stored -/
def sset : L2.St → Nat → V → L2.St
  | [], _, _ => []
  | _ :: r, 0, v => some v :: r
  | a :: r, i + 1, v => a :: sset r i v
theorem sset_eq : ∀ {σ : L2.St} {i : Nat} {v : V}, sset σ i v = σ.set i (some v)
  | [], _, _ => rfl
  | _ :: _, 0, _ => rfl
  | a :: r, i + 1, v => by
    show a :: sset r i v = a :: r.set i (some v)
    rw [sset_eq]
section
variable {K : PySem.W.Frag} {D : Ends} {σ σ' : L2.St} {H H' : Hp} {Q : VK} {t u : TS} {te ta tb tc : TE} {tt tu : TT} {tr : TA} {i j : Nat} {v x y z : V} {r r' : R2} {g : TG} {b : Bool} {A B : Prop}
theorem r_seq (h : t { D with nx := u D } σ H) : tSeq t u D σ H := h
theorem r_next (h : D.nx σ H) : tNext D σ H := h
theorem r_asg (h : te σ H fun x H1 => g x σ H1 D.nx) : tAsg te g D σ H := h
theorem r_name {v : V} {Q : L2.St → Hp → Prop} (e : σ.set i (some v) = σ') (h : Q σ' H) : gName i v σ H Q := by
  unfold gName
  rw [e]
  exact h
theorem r_nm {v : V} {Q : L2.St → Hp → Prop} (h : Q (sset σ i v) H) : gName i v σ H Q := by
  unfold gName
  rw [← sset_eq]
  exact h
theorem r_par (h : tr σ H fun vs H1 => ∃ v w, vs = [v, w] ∧ D.nx (sset (sset σ i v) j w) H1) : tPar i j tr D σ H := by
  unfold tPar
  simp only [← sset_eq]
  exact h
theorem r_par2 {Q : V → V → Prop} (h : Q x y) : ∃ v w, [x, y] = [v, w] ∧ Q v w := ⟨x, y, rfl, h⟩
theorem r_start {N : List Str} {vs : List V} (e : start N vs = σ) (h : t D σ H) : t D (start N vs) H := by
  rw [e]
  exact h
theorem r_for {wi : TI} (h : wi σ H fun Jt H1 => ∃ W : Nat → Nat → L2.St → Hp → Prop, (∃ m, W 0 m σ H1) ∧ ∀ i m σ H, W i m σ H →
    (Jt.stop i H ∧ D.nx σ H) ∨ (Jt.go i H ∧ ∃ Nx : L2.St → Hp → Prop, (∀ σ' H', Nx σ' H' → ∃ m', m' < m ∧ W (i + 1) m' σ' H') ∧ ∀ x H', Jt.yld i H x H' → g x σ H' fun σ2 H2 => t { D with nx := Nx, ct := Nx, bk := D.nx } σ2 H2)) : tFor wi g t D σ H := h
theorem r_rng1 {R : It → Hp → Prop} (h : tr σ H fun vs H1 => ∃ j : Int, vs = [.int j] ∧ -(2 ^ 62) ≤ j ∧ j < 2 ^ 62 ∧ R (Itr 0 j.toNat) H1) : iRng1 tr σ H R := h
theorem r_rng1' {R : Int → Prop} {j : Int} (h : -(2 ^ 62) ≤ j ∧ j < 2 ^ 62 ∧ R j) : ∃ i : Int, [V.int j] = [.int i] ∧ -(2 ^ 62) ≤ i ∧ i < 2 ^ 62 ∧ R i := ⟨j, rfl, h⟩
theorem r_rng2 {R : It → Hp → Prop} (h : tr σ H fun vs H1 => ∃ i j : Int, vs = [.int i, .int j] ∧ (-(2 ^ 62) ≤ i ∧ i < 2 ^ 62 ∧ -(2 ^ 62) ≤ j ∧ j < 2 ^ 62) ∧ R (Itr i (j - i).toNat) H1) : iRng2 tr σ H R := h
theorem r_rng2' {R : Int → Int → Prop} {i j : Int} (h : (-(2 ^ 62) ≤ i ∧ i < 2 ^ 62 ∧ -(2 ^ 62) ≤ j ∧ j < 2 ^ 62) ∧ R i j) : ∃ a b : Int, [V.int i, V.int j] = [.int a, .int b] ∧ (-(2 ^ 62) ≤ a ∧ a < 2 ^ 62 ∧ -(2 ^ 62) ≤ b ∧ b < 2 ^ 62) ∧ R a b := ⟨i, j, rfl, h⟩
theorem r_iL {R : It → Hp → Prop} (h : te σ H fun x H1 => ∃ a, x = .ref a ∧ (∃ xs, SqL K H1 a xs) ∧ R (Itl K a) H1) : iList K te σ H R := h
theorem r_iT {R : It → Hp → Prop} (h : te σ H fun x H1 => ∃ a, x = .ref a ∧ (∃ xs, SqT K H1 a xs) ∧ R (Itt K a) H1) : iTup K te σ H R := h
theorem r_iS {R : It → Hp → Prop} (h : te σ H fun v H1 => ∃ x, v = .str x ∧ R (Its x) H1) : iStr te σ H R := h
theorem r_iE {R : It → Hp → Prop} (h : tr σ H fun vs H1 => ∃ a xs, vs = [.ref a] ∧ SqL K H1 a xs ∧ R (Ite K a) H1) : iEnum K tr σ H R := h
theorem r_ref1 {R : Addr → Prop} {p : Addr} (h : R p) : ∃ a, V.ref p = .ref a ∧ R a := ⟨p, rfl, h⟩
theorem r_lc {wi : TI} {vs : List Nat} (h : wi σ H fun J H1 => ∀ D, H1 D = none → ∃ W : Nat → Nat → Hp → Prop, (∃ m, W 0 m (upd H1 D (.lst []))) ∧ ∀ i m H, W i m H →
  (J.stop i H ∧ Q (.ref D) H) ∨ (J.go i H ∧ ∃ Nx : Hp → Prop, (∀ H', Nx H' → ∃ m', m' < m ∧ W (i + 1) m' H') ∧ ∀ x H', J.yld i H x H' → g x (wipe σ vs) H' fun σ2 H2 => wipe σ2 vs = wipe σ vs ∧ tt σ2 H2 fun b H3 =>
    if b = true then te σ2 H3 fun y H4 => ∃ acc, H4 D = some (.lst acc) ∧ acc.length < sizeLine ∧ Nx (upd H4 D (.lst (acc ++ [y]))) else Nx H3)) : tLc wi g tt te vs σ H Q := h
theorem r_meth {C : Addr} {m : Str} {sp : Sp} {E : L2.St → XK} (h : ta σ H fun x H1 => ∃ a dx fs, x = .ref a ∧ H1 a = some (.ins C dx fs) ∧ fs.lookup m = none ∧ tr σ H1 fun vs H2 => sp (x :: vs) H2 Q (E σ)) : tMethS C m sp E ta tr σ H Q := h
theorem r_bm {T : String} {r : V → List V → Hp → VK → Prop} (h : ta σ H fun x H1 => tyV K T x H1 ∧ tr σ H1 fun xs H2 => r x xs H2 Q) : tBM K T r ta tr σ H Q := h
theorem r_bm0 {T : String} {r : V → List V → Hp → VK → Prop} (h : ta σ H fun x H1 => tyV K T x H1 ∧ r x [] H1 Q) : tBM0 K T r ta σ H Q := h
theorem r_m1 {r : V → List V → Hp → VK → Prop} (h : ta σ H fun x H1 => (∃ z, x = .str z) ∧ tb σ H1 fun y H2 => r x [y] H2 Q) : tM1 r ta tb σ H Q := h
theorem r_sl {r : V → Option Int → Option Int → Hp → VK → Prop} {tl th : TO} (h : te σ H fun x H1 => tl σ H1 fun lo H2 => th σ H2 fun hi H3 => r x lo hi H3 Q) : tSl r te tl th σ H Q := h
theorem r_part {Q : Option Int → Hp → Prop} (h : te σ H fun x H1 => ∃ i, x = .int i ∧ Q (some i) H1) : tPart te σ H Q := h
theorem r_part' {R : Int → Prop} {i : Int} (h : R i) : ∃ a, V.int i = .int a ∧ R a := ⟨i, rfl, h⟩
theorem r_nopart {Q : Option Int → Hp → Prop} (h : Q none H) : tNoPart σ H Q := h
theorem r_gSub {t : TSet} {Q : L2.St → Hp → Prop} (h : ta σ H fun o H1 => tb σ H1 fun i H2 => t o i v H2 fun H3 => Q σ H3) : gSub ta tb t v σ H Q := h
theorem r_mod {i j : Int} (c : 0 < j) (h : Q (.int (i % j)) H) : rI (fun _ j => 0 < j) (fun i j => .int (i % j)) (.int i) (.int j) H Q := ⟨i, j, rfl, rfl, c, h⟩
theorem r_div {i j : Int} (c : 0 < j) (c2 : j < 1073741824) (h : Q (.int (i / j)) H) : rI CDiv (fun i j => .int (i / j)) (.int i) (.int j) H Q := ⟨i, j, rfl, rfl, ⟨c, c2⟩, h⟩
theorem r_catL {p p2 : Addr} {xs zs : List V} (h1 : SqL K H p xs) (h2 : SqL K H p2 zs) (hl : xs.length + zs.length ≤ sizeLine) (k : ∀ q, H q = none → Q (.ref q) (upd H q (.lst (xs ++ zs)))) : rCatL K (.ref p) (.ref p2) H Q := ⟨p, p2, xs, zs, rfl, rfl, h1, h2, hl, k⟩
theorem r_ixLn {p : Addr} {xs : List V} {i : Int} (h : SqL K H p xs) (h0 : 0 ≤ i) (e : xs[i.toNat]? = some v) (k : Q v H) : rIxL K (.ref p) (.int i) H Q := ⟨p, xs, i, v, rfl, rfl, h, by
  have h1 := atI_nat e
  rw [Int.toNat_of_nonneg h0] at h1
  exact h1, k⟩
theorem r_ixTn {p : Addr} {xs : List V} {i : Int} (h : SqT K H p xs) (h0 : 0 ≤ i) (e : xs[i.toNat]? = some v) (k : Q v H) : rIxT K (.ref p) (.int i) H Q := ⟨p, xs, i, v, rfl, rfl, h, by
  have h1 := atI_nat e
  rw [Int.toNat_of_nonneg h0] at h1
  exact h1, k⟩
theorem tyL {l : Addr} {xs : List V} (h : H l = some (.lst xs)) : tyV K "list" (.ref l) H := .inl ⟨rfl, _, SqL.of h⟩
theorem r_append {l : Addr} {xs : List V} {y : V} (h : H l = some (.lst xs)) (hz : xs.length < sizeLine) (k : Q .non (upd H l (.lst (xs ++ [y])))) : rAppend (.ref l) [y] H Q := ⟨l, xs, y, rfl, rfl, h, hz, k⟩
theorem r_yes {Q : Bool → Hp → Prop} (h : Q true H) : tYes σ H Q := h
theorem r_all {p : Addr} {bs : List Bool} (h : SqL K H p (bs.map V.bl)) (k : Q (.bl (bs.all id)) H) : rAll K [.ref p] H Q := ⟨p, bs, rfl, h, k⟩
theorem r_pow {i j : Int} (c : CPow i j) (h : Q (.int (i ^ j.toNat)) H) : rI CPow (fun i j => .int (i ^ j.toNat)) (.int i) (.int j) H Q := ⟨i, j, rfl, rfl, c, h⟩
theorem r_mul {i j : Int} (c : CMul i j) (h : Q (.int (i * j)) H) : rI CMul (fun i j => .int (i * j)) (.int i) (.int j) H Q := ⟨i, j, rfl, rfl, c, h⟩
theorem r_ii {i j : Int} {R : Int → Int → Prop} (h : R i j) : ∃ a b, [V.int i, V.int j] = [.int a, .int b] ∧ R a b := ⟨i, j, rfl, h⟩
theorem r_i1 {i : Int} {R : Int → Prop} (h : R i) : ∃ a, [V.int i] = [.int a] ∧ R a := ⟨i, rfl, h⟩
theorem r_while (W : Nat → L2.St → Hp → Prop) (m0 : Nat) (h0 : W m0 σ H) (hs : ∀ m σ H, W m σ H → tt σ H fun b H1 => if b = true then ∃ Nx : L2.St → Hp → Prop, (∀ σ' H', Nx σ' H' → ∃ m', m' < m ∧ W m' σ' H') ∧ t { D with nx := Nx, ct := Nx, bk := D.nx } σ H1 else D.nx σ H1) : tWhile tt t D σ H := ⟨W, ⟨m0, h0⟩, hs⟩
theorem r_ret (h : te σ H D.rt) : tRet te D σ H := h
theorem r_drop (h : te σ H fun _ H1 => D.nx σ H1) : tDrop te D σ H := h
theorem r_ifs (h : tt σ H fun b H1 => if b = true then t D σ H1 else u D σ H1) : tIfS tt t u D σ H := h
theorem r_var (e : σ[i]? = some (some v)) (h : Q v H) : tVar i σ H Q := ⟨v, e, h⟩
theorem r_c (h : Q v H) : tC v σ H Q := h
theorem r_op (h : ta σ H fun x H1 => tb σ H1 fun y H2 => r x y H2 Q) : tOp r ta tb σ H Q := h
theorem r_un {r : V → Hp → VK → Prop} (h : ta σ H fun x H1 => r x H1 Q) : tUn r ta σ H Q := h
theorem r_test {Q : Bool → Hp → Prop} (h : te σ H fun x H' => ∃ k, x = .bl k ∧ Q k H') : tTest te σ H Q := h
theorem r_B {Q : Bool → Hp → Prop} (h : te σ H fun x H' => ∃ k, x = .bl k ∧ Q k H') : tB te σ H Q := h
theorem r_bl {R : Bool → Prop} (h : R b) : ∃ k, V.bl b = .bl k ∧ R k := ⟨b, rfl, h⟩
theorem r_chain (h : ta σ H fun x H1 => tb σ H1 fun y H2 => r x y H2 fun z H3 => ∃ k, z = .bl k ∧ (if k = true then tc σ H3 fun w' H4 => r' y w' H4 Q else Q (.bl false) H3)) : tChain r r' ta tb tc σ H Q := h
theorem r_and {Q : Bool → Hp → Prop} (h : tt σ H fun c H1 => if c = true then tu σ H1 Q else Q false H1) : tAnd tt tu σ H Q := h
theorem r_or {Q : Bool → Hp → Prop} (h : tt σ H fun c H1 => if c = true then Q true H1 else tu σ H1 Q) : tOr tt tu σ H Q := h
theorem r_not {Q : Bool → Hp → Prop} (h : tt σ H fun c H1 => Q (!c) H1) : tNot tt σ H Q := h
theorem r_andV (h : ta σ H fun x H1 => ∃ c, x = .bl c ∧ if c = true then tb σ H1 Q else Q (.bl false) H1) : tAndV ta tb σ H Q := h
theorem r_orV (h : ta σ H fun x H1 => ∃ c, x = .bl c ∧ if c = true then Q (.bl true) H1 else tb σ H1 Q) : tOrV ta tb σ H Q := h
theorem r_notV (h : ta σ H fun x H1 => ∃ c, x = .bl c ∧ Q (.bl (!c)) H1) : tNotV ta σ H Q := h
theorem r_if (h : tt σ H fun c H1 => if c = true then ta σ H1 Q else tb σ H1 Q) : tIf tt ta tb σ H Q := h
theorem r_nil {Q : List V → Hp → Prop} (h : Q [] H) : tNil σ H Q := h
theorem r_cons {Q : List V → Hp → Prop} (h : ta σ H fun x H1 => tr σ H1 fun xs H2 => Q (x :: xs) H2) : tCons ta tr σ H Q := h
theorem r_tup (h : tr σ H fun xs H1 => xs.length ≤ sizeLine ∧ ∀ p, H1 p = none → Q (.ref p) (upd H1 p (.tup xs))) : tTup tr σ H Q := h
theorem r_lst (h : tr σ H fun xs H1 => xs.length ≤ sizeLine ∧ ∀ p, H1 p = none → Q (.ref p) (upd H1 p (.lst xs))) : tLst tr σ H Q := h
theorem r_cb {r : List V → Hp → VK → Prop} (h : tr σ H fun xs H1 => r xs H1 Q) : tCB r tr σ H Q := h
theorem r_call {sp : Sp} {E : L2.St → XK} (h : tr σ H fun vs H1 => sp vs H1 Q (E σ)) : tCallS sp E tr σ H Q := h
theorem r_I0 {f : Int → Int → V} {i j : Int} (h : Q (f i j) H) : rI0 f (.int i) (.int j) H Q := ⟨i, j, rfl, rfl, h⟩
theorem r_I {C : Int → Int → Prop} {f : Int → Int → V} {i j : Int} (c : C i j) (h : Q (f i j) H) : rI C f (.int i) (.int j) H Q := ⟨i, j, rfl, rfl, c, h⟩
theorem r_U {f : Int → V} {i : Int} (h : Q (f i) H) : rU f (.int i) H Q := ⟨i, rfl, h⟩
theorem r_eqI {i j : Int} (h : Q (.bl (decide (i = j))) H) : rEq (.int i) (.int j) H Q := ⟨rfl, by
  have e : decide (V.int i = V.int j) = decide (i = j) := by by_cases h : i = j <;> simp [h]
  rw [e]; exact h⟩
theorem r_neI {i j : Int} (h : Q (.bl (!decide (i = j))) H) : rNe (.int i) (.int j) H Q := ⟨rfl, by
  have e : decide (V.int i = V.int j) = decide (i = j) := by by_cases h : i = j <;> simp [h]
  rw [e]; exact h⟩
theorem r_eqS {i j : Str} (h : Q (.bl (decide (i = j))) H) : rEq (.str i) (.str j) H Q := ⟨rfl, by
  have e : decide (V.str i = V.str j) = decide (i = j) := by by_cases h : i = j <;> simp [h]
  rw [e]; exact h⟩
theorem r_neS {i j : Str} (h : Q (.bl (!decide (i = j))) H) : rNe (.str i) (.str j) H Q := ⟨rfl, by
  have e : decide (V.str i = V.str j) = decide (i = j) := by by_cases h : i = j <;> simp [h]
  rw [e]; exact h⟩
theorem r_eqB {i j : Bool} (h : Q (.bl (decide (i = j))) H) : rEq (.bl i) (.bl j) H Q := ⟨rfl, by
  have e : decide (V.bl i = V.bl j) = decide (i = j) := by by_cases h : i = j <;> simp [h]
  rw [e]; exact h⟩
theorem r_neB {i j : Bool} (h : Q (.bl (!decide (i = j))) H) : rNe (.bl i) (.bl j) H Q := ⟨rfl, by
  have e : decide (V.bl i = V.bl j) = decide (i = j) := by by_cases h : i = j <;> simp [h]
  rw [e]; exact h⟩
theorem r_ixL {p : Addr} {xs : List V} {i : Int} (h : SqL K H p xs) (e : atI xs i = some v) (k : Q v H) : rIxL K (.ref p) (.int i) H Q := ⟨p, xs, i, v, rfl, rfl, h, e, k⟩
theorem r_ixT {p : Addr} {xs : List V} {i : Int} (h : SqT K H p xs) (e : atI xs i = some v) (k : Q v H) : rIxT K (.ref p) (.int i) H Q := ⟨p, xs, i, v, rfl, rfl, h, e, k⟩
theorem r_ixS {s : Str} {i : Int} {c : Nat} (h : s.length ≤ sizeLine) (e : atI s.cps.toList i = some c) (k : Q (.str ⟨#[c]⟩) H) : rIxS (.str s) (.int i) H Q := ⟨s, i, c, rfl, rfl, h, e, k⟩
/-- a test that is decided -/
theorem b_dec {p : Prop} [Decidable p] (h1 : p → A) (h2 : ¬ p → B) : if decide p = true then A else B := by
  by_cases h : p
  · rw [if_pos (decide_eq_true h)]; exact h1 h
  · rw [if_neg (by simp [h])]; exact h2 h
theorem b_ndec {p : Prop} [Decidable p] (h1 : ¬ p → A) (h2 : p → B) : if (!decide p) = true then A else B := by
  by_cases h : p
  · rw [if_neg (by simp [h])]; exact h2 h
  · rw [if_pos (by simp [h])]; exact h1 h
theorem b_pos {p : Prop} [Decidable p] (h : p) (h1 : A) : if decide p = true then A else B := by rw [if_pos (decide_eq_true h)]; exact h1
theorem b_neg {p : Prop} [Decidable p] (h : ¬ p) (h2 : B) : if decide p = true then A else B := by rw [if_neg (by simp [h])]; exact h2
theorem b_npos {p : Prop} [Decidable p] (h : ¬ p) (h1 : A) : if (!decide p) = true then A else B := by rw [if_pos (by simp [h])]; exact h1
theorem b_nneg {p : Prop} [Decidable p] (h : p) (h2 : B) : if (!decide p) = true then A else B := by rw [if_neg (by simp [h])]; exact h2
theorem b_t (h : A) : if true = true then A else B := by rw [if_pos rfl]; exact h
theorem b_f (h : B) : if false = true then A else B := by rw [if_neg Bool.false_ne_true]; exact h
theorem b_nt (h : B) : if (!true) = true then A else B := by rw [if_neg (by decide)]; exact h
theorem b_nf (h : A) : if (!false) = true then A else B := by rw [if_pos (by decide)]; exact h
theorem b_any (h1 : b = true → A) (h2 : b = false → B) : if b = true then A else B := by
  cases b with
  | true => exact b_t (h1 rfl)
  | false => exact b_f (h2 rfl)
end
end Sk
namespace Sk
open PySem PySem.Spec PyProof.Rows L2

/-! ### heaps -/
theorem same_new {H : Hp} {p : Addr} {o : HO} (h : H p = none) : Same H (upd H p o) := fun b u e => by
  rw [upd_ne (ne_of_none e h)]
  exact e
theorem same_mut {H H' : Hp} {p : Addr} {o : HO} (s : Same H H') (h : H p = none) : Same H (upd H' p o) := fun b u e => by
  rw [upd_ne (ne_of_none e h)]
  exact s b u e
theorem sqT_same {K : PySem.W.Frag} {H H' : Hp} {a : Addr} {xs : List V} (e : Same H H') (h : SqT K H a xs) : SqT K H' a xs := by
  rcases h with (h | ⟨o, h⟩) | h
  · exact .inl (.inl (e _ _ h))
  · exact .inl (.inr ⟨o, e _ _ h⟩)
  · exact .inr h
theorem le_line {n : Nat} (h : n ≤ 16777216) : n ≤ sizeLine := h
theorem lt_line {n : Nat} (h : n < 16777216) : n < sizeLine := h

/-! ### data, deep -/
theorem canAll {ds : List PyData} (h : ∀ d ∈ ds, d.canLay0 = true) : PyData.canLayAll0 ds = true := by
  induction ds with
  | nil => rfl
  | cons d r ih =>
    unfold PyData.canLayAll0
    rw [h d (List.mem_cons_self), ih fun e he => h e (List.mem_cons_of_mem _ he)]
    rfl
theorem depthAll_le {ds : List PyData} {n : Nat} (h : ∀ d ∈ ds, d.depth ≤ n) : PyData.depthAll ds ≤ n := by
  induction ds with
  | nil => unfold PyData.depthAll; omega
  | cons d r ih =>
    have h1 := h d List.mem_cons_self
    have h2 := ih fun e he => h e (List.mem_cons_of_mem _ he)
    unfold PyData.depthAll
    omega
theorem shaped_of {d : PyData} (h : d.canLay0 = true) (h2 : d.depth ≤ 64) : SeqAt.shaped d = true := by
  unfold SeqAt.shaped
  rw [h, decide_eq_true h2]
  rfl
theorem shaped_list {ds : List PyData} (h : ∀ d ∈ ds, d.canLay0 = true ∧ d.depth ≤ 60) : SeqAt.shaped (.list ds) = true := by
  refine shaped_of ?_ ?_
  · unfold PyData.canLay0
    exact canAll fun d hd => (h d hd).1
  · have := depthAll_le fun d hd => (h d hd).2
    unfold PyData.depth
    omega
theorem shaped_tuple {ds : List PyData} (h : ∀ d ∈ ds, d.canLay0 = true ∧ d.depth ≤ 60) : SeqAt.shaped (.tuple ds) = true := by
  refine shaped_of ?_ ?_
  · unfold PyData.canLay0
    exact canAll fun d hd => (h d hd).1
  · have := depthAll_le fun d hd => (h d hd).2
    unfold PyData.depth
    omega
theorem eqv_same {d : PyData} (h : SeqAt.shaped d = true) : PyData.eqv d d = true := SeqAt.eqv_refl d (SeqAt.canLay_of_shaped h)
theorem dpAll_ints {K : PySem.W.Frag} {H : Hp} : ∀ (ns : List Int), DpAll K H (ns.map V.int) (ns.map PyData.int)
  | [] => .nil
  | n :: r => .cons (.int n) (dpAll_ints r)
section
variable {K : PySem.W.Frag} {H : Hp} {Q : VK} {x y : V}
/-- two alike things of data -/
theorem r_neD {d : PyData} (h1 : Dp K H x d) (h2 : Dp K H y d) (hs : SeqAt.shaped d = true) (k : Q (.bl false) H) : rNeD K x y H Q := ⟨d, d, h1, h2, hs, hs, by rw [eqv_same hs]; exact k⟩
theorem r_eqD {d : PyData} (h1 : Dp K H x d) (h2 : Dp K H y d) (hs : SeqAt.shaped d = true) (k : Q (.bl true) H) : rEqD K x y H Q := ⟨d, d, h1, h2, hs, hs, by rw [eqv_same hs]; exact k⟩
theorem dp_tup {a : Addr} {xs : List V} {ds : List PyData} (h : H a = some (.tup xs)) (hd : DpAll K H xs ds) : Dp K H (.ref a) (.tuple ds) := .tup (SqT.of h) hd
theorem dp_lst {a : Addr} {xs : List V} {ds : List PyData} (h : H a = some (.lst xs)) (hd : DpAll K H xs ds) : Dp K H (.ref a) (.list ds) := .lst (SqL.of h) hd
end

/-! ### the law's own promise -/
def spLaw (K : PySem.W.Frag) : Sp := fun vs H Q _ => ∃ (a : Addr) (ns : List Int), vs = [.ref a] ∧ SqL K H a (ns.map V.int) ∧ ns.length ≤ 63 ∧ ∀ H', Q (.bl true) H'
/-- an item of a list of ints -/
theorem int_at {ns : List Int} {i : Nat} {x : V} (h : (ns.map V.int)[i]? = some x) : ∃ n, ns[i]? = some n ∧ x = .int n := by
  rw [List.getElem?_map] at h
  cases e : ns[i]? with
  | none => rw [e] at h; cases h
  | some n => rw [e] at h; exact ⟨n, rfl, (Option.some.inj h).symm⟩
theorem lt_of_get {α : Type} {l : List α} {i : Nat} {x : α} (h : l[i]? = some x) : i < l.length := (List.getElem?_eq_some_iff.mp h).1
end Sk
namespace Sk
open PySem PySem.Spec PyProof.Rows L2
def top (i : Nat) : Stmt := PySem.Challenge.pw_skeinwood_k14_most_heights.main.body.getD i (.Pass ⟨0, 0, 0, 0⟩)
abbrev s_least_leaves : Stmt := top 1
abbrev s_least_signs : Stmt := top 2
abbrev s_most_height : Stmt := top 3
abbrev s_law_whole : Stmt := top 5
abbrev s_law_all_least : Stmt := top 6
abbrev s_law_right : Stmt := top 7
abbrev s_law : Stmt := top 8
abbrev dd_least_leaves : He.DefD := ⟨("least_leaves", none), "least_leaves", "least_leaves", defArgs s_least_leaves, defBody s_least_leaves, defScope s_least_leaves, [], []⟩
abbrev dd_least_signs : He.DefD := ⟨("least_signs", none), "least_signs", "least_signs", defArgs s_least_signs, defBody s_least_signs, defScope s_least_signs, [], []⟩
abbrev dd_most_height : He.DefD := ⟨("most_height", none), "most_height", "most_height", defArgs s_most_height, defBody s_most_height, defScope s_most_height, [], []⟩
abbrev dd_law_whole : He.DefD := ⟨("_law_whole", none), "_law_whole", "_law_whole", defArgs s_law_whole, defBody s_law_whole, defScope s_law_whole, [], []⟩
abbrev dd_law_all_least : He.DefD := ⟨("_law_all_least", none), "_law_all_least", "_law_all_least", defArgs s_law_all_least, defBody s_law_all_least, defScope s_law_all_least, [], []⟩
abbrev dd_law_right : He.DefD := ⟨("_law_right", none), "_law_right", "_law_right", defArgs s_law_right, defBody s_law_right, defScope s_law_right, [], []⟩
abbrev dd_law : He.DefD := ⟨("law", none), "law", "law", defArgs s_law, defBody s_law, defScope s_law, [], []⟩
def fa0 : List He.Fa := [.glo "least_leaves", .glo "least_signs", .glo "most_height", .glo "_law_whole", .glo "_law_all_least", .glo "_law_right", .glo "law", .free "bool", .free "int", .free "isinstance", .free "max", .free "range"]
def fa : List He.Fa := fa0
def fn0 : List He.DefD := [dd_least_leaves, dd_least_signs, dd_most_height, dd_law_whole, dd_law_all_least, dd_law_right, dd_law]
def fn : List He.DefD := fn0
/-- what the top has written -/
structure Tx (K : PySem.W.Frag) (mg : Str → Option Value) : Prop where
  says : He.SaysD fa fn K
  ns : ∃ h : Heap, K.In h ∧ h.Ns mainGlobals mg
section
variable {K : PySem.W.Frag} {mg : Str → Option Value} (T : Tx K mg)
include T
theorem Tx.glo_least_leaves : mg "least_leaves" = some (.ref (He.ga K "least_leaves")) := let ⟨_, X, G⟩ := T.ns; He.glo_ok X G (T.says.fact 0 (f := .glo "least_leaves") rfl)
theorem Tx.glo_least_signs : mg "least_signs" = some (.ref (He.ga K "least_signs")) := let ⟨_, X, G⟩ := T.ns; He.glo_ok X G (T.says.fact 1 (f := .glo "least_signs") rfl)
theorem Tx.glo_most_height : mg "most_height" = some (.ref (He.ga K "most_height")) := let ⟨_, X, G⟩ := T.ns; He.glo_ok X G (T.says.fact 2 (f := .glo "most_height") rfl)
theorem Tx.glo_law_whole : mg "_law_whole" = some (.ref (He.ga K "_law_whole")) := let ⟨_, X, G⟩ := T.ns; He.glo_ok X G (T.says.fact 3 (f := .glo "_law_whole") rfl)
theorem Tx.glo_law_all_least : mg "_law_all_least" = some (.ref (He.ga K "_law_all_least")) := let ⟨_, X, G⟩ := T.ns; He.glo_ok X G (T.says.fact 4 (f := .glo "_law_all_least") rfl)
theorem Tx.glo_law_right : mg "_law_right" = some (.ref (He.ga K "_law_right")) := let ⟨_, X, G⟩ := T.ns; He.glo_ok X G (T.says.fact 5 (f := .glo "_law_right") rfl)
theorem Tx.glo_law : mg "law" = some (.ref (He.ga K "law")) := let ⟨_, X, G⟩ := T.ns; He.glo_ok X G (T.says.fact 6 (f := .glo "law") rfl)
theorem Tx.free_bool : mg "bool" = none := let ⟨_, X, G⟩ := T.ns; He.free_ok X G (T.says.fact 7 (f := .free "bool") rfl)
theorem Tx.free_int : mg "int" = none := let ⟨_, X, G⟩ := T.ns; He.free_ok X G (T.says.fact 8 (f := .free "int") rfl)
theorem Tx.free_isinstance : mg "isinstance" = none := let ⟨_, X, G⟩ := T.ns; He.free_ok X G (T.says.fact 9 (f := .free "isinstance") rfl)
theorem Tx.free_max : mg "max" = none := let ⟨_, X, G⟩ := T.ns; He.free_ok X G (T.says.fact 10 (f := .free "max") rfl)
theorem Tx.free_range : mg "range" = none := let ⟨_, X, G⟩ := T.ns; He.free_ok X G (T.says.fact 11 (f := .free "range") rfl)
theorem Tx.fn_least_leaves : ∃ fd, FunD K "least_leaves" "least_leaves" (defArgs s_least_leaves) (defBody s_least_leaves) (defScope s_least_leaves) [] [] (He.fAd K ("least_leaves", none)) fd := T.says.def_ 0 (d := dd_least_leaves) rfl
theorem Tx.fn_least_signs : ∃ fd, FunD K "least_signs" "least_signs" (defArgs s_least_signs) (defBody s_least_signs) (defScope s_least_signs) [] [] (He.fAd K ("least_signs", none)) fd := T.says.def_ 1 (d := dd_least_signs) rfl
theorem Tx.fn_most_height : ∃ fd, FunD K "most_height" "most_height" (defArgs s_most_height) (defBody s_most_height) (defScope s_most_height) [] [] (He.fAd K ("most_height", none)) fd := T.says.def_ 2 (d := dd_most_height) rfl
theorem Tx.fn_law_whole : ∃ fd, FunD K "_law_whole" "_law_whole" (defArgs s_law_whole) (defBody s_law_whole) (defScope s_law_whole) [] [] (He.fAd K ("_law_whole", none)) fd := T.says.def_ 3 (d := dd_law_whole) rfl
theorem Tx.fn_law_all_least : ∃ fd, FunD K "_law_all_least" "_law_all_least" (defArgs s_law_all_least) (defBody s_law_all_least) (defScope s_law_all_least) [] [] (He.fAd K ("_law_all_least", none)) fd := T.says.def_ 4 (d := dd_law_all_least) rfl
theorem Tx.fn_law_right : ∃ fd, FunD K "_law_right" "_law_right" (defArgs s_law_right) (defBody s_law_right) (defScope s_law_right) [] [] (He.fAd K ("_law_right", none)) fd := T.says.def_ 5 (d := dd_law_right) rfl
theorem Tx.fn_law : ∃ fd, FunD K "law" "law" (defArgs s_law) (defBody s_law) (defScope s_law) [] [] (He.fAd K ("law", none)) fd := T.says.def_ 6 (d := dd_law) rfl
end
theorem sc_least_leaves : FnScope ["height", "one", "more", "turn"] ["height"] (defScope s_least_leaves) := ⟨rfl, rfl, rfl, by decide +kernel, rfl, by decide +kernel, by decide +kernel⟩
theorem sc_least_signs : FnScope ["height", "many"] ["height"] (defScope s_least_signs) := ⟨rfl, rfl, rfl, by decide +kernel, rfl, by decide +kernel, by decide +kernel⟩
theorem sc_most_height : FnScope ["signs", "height"] ["signs"] (defScope s_most_height) := ⟨rfl, rfl, rfl, by decide +kernel, rfl, by decide +kernel, by decide +kernel⟩
theorem sc_law_whole : FnScope ["thing"] ["thing"] (defScope s_law_whole) := ⟨rfl, rfl, rfl, by decide +kernel, rfl, by decide +kernel, by decide +kernel⟩
theorem sc_law_all_least : FnScope ["most", "many", "height", "one"] ["most"] (defScope s_law_all_least) := ⟨rfl, rfl, rfl, by decide +kernel, rfl, by decide +kernel, by decide +kernel⟩
theorem sc_law_right : FnScope ["signs", "known", "found"] ["signs", "known"] (defScope s_law_right) := ⟨rfl, rfl, rfl, by decide +kernel, rfl, by decide +kernel, by decide +kernel⟩
theorem sc_law : FnScope ["script", "known", "signs", "cell", "least"] ["script"] (defScope s_law) := ⟨rfl, rfl, rfl, by decide +kernel, rfl, by decide +kernel, by decide +kernel⟩
end Sk
local macro_rules | `(tactic| walk_at "sg") => `(tactic| first
  | with_reducible refine Sk.r_seq ?_
  | ((with_reducible refine' Sk.r_var ?e ?_); (case e => rfl))
  | with_reducible refine Sk.r_c ?_
  | with_reducible refine Sk.r_op ?_
  | with_reducible refine Sk.r_asg ?_
  | with_reducible refine Sk.r_nm ?_
  | with_reducible refine Sk.r_I0 ?_
  | with_reducible refine Sk.r_cons ?_
  | with_reducible refine Sk.r_nil ?_
  | with_reducible refine Sk.r_test ?_
  | with_reducible refine Sk.r_bl ?_
  | with_reducible refine Sk.r_ifs ?_
  | with_reducible refine Sk.r_next ?_
  | with_reducible refine Sk.r_ret ?_
  | with_reducible refine Sk.r_drop ?_
  | with_reducible refine Sk.r_un ?_
  | with_reducible refine Sk.r_U ?_
  | with_reducible refine Sk.r_par ?_
  | with_reducible refine Sk.r_par2 ?_
  | with_reducible refine Sk.r_call ?_
  | with_reducible refine Sk.r_cb ?_
  | with_reducible refine Sk.r_eqI ?_
  | with_reducible refine Sk.r_neI ?_
  | with_reducible refine Sk.r_eqS ?_
  | with_reducible refine Sk.r_neS ?_
  | with_reducible refine Sk.r_eqB ?_
  | with_reducible refine Sk.r_neB ?_
  | with_reducible refine Sk.r_and ?_
  | with_reducible refine Sk.r_or ?_
  | with_reducible refine Sk.r_not ?_
  | with_reducible refine Sk.r_B ?_
  | with_reducible refine Sk.r_chain ?_
  | with_reducible refine Sk.r_andV ?_
  | with_reducible refine Sk.r_orV ?_
  | with_reducible refine Sk.r_notV ?_
  | with_reducible refine Sk.r_if ?_
  | with_reducible refine Sk.r_yes ?_
  | with_reducible refine Sk.b_t ?_
  | with_reducible refine Sk.b_f ?_
  | with_reducible refine Sk.b_nt ?_
  | with_reducible refine Sk.b_nf ?_
  | with_reducible refine Sk.r_for ?_
  | with_reducible refine Sk.r_rng1 ?_
  | with_reducible refine Sk.r_rng1' ?_
  | with_reducible refine Sk.r_rng2 ?_
  | with_reducible refine Sk.r_rng2' ?_
  | with_reducible refine Sk.r_iL ?_
  | with_reducible refine Sk.r_iT ?_
  | with_reducible refine Sk.r_iS ?_
  | with_reducible refine Sk.r_iE ?_
  | with_reducible refine Sk.r_lc ?_
  | with_reducible refine Sk.r_ref1 ?_
  | with_reducible refine Sk.r_meth ?_
  | with_reducible refine Sk.r_bm ?_
  | with_reducible refine Sk.r_bm0 ?_
  | with_reducible refine Sk.r_m1 ?_
  | with_reducible refine Sk.r_sl ?_
  | with_reducible refine Sk.r_part ?_
  | with_reducible refine Sk.r_part' ?_
  | with_reducible refine Sk.r_nopart ?_
  | with_reducible refine Sk.r_fldS ?_
  | with_reducible refine Sk.r_gSub ?_
  | ((with_reducible refine' Sk.r_mod ?c ?_); (case c => first | decide | omega))
  | ((with_reducible refine' Sk.r_div ?c ?d ?_); (case c => first | decide | omega); (case d => first | decide | omega))
  | ((with_reducible refine' Sk.r_pow ?c ?_); (case c => exact ⟨by decide, by decide, by decide⟩))
  | ((with_reducible refine' Sk.r_mul ?c ?_); (case c => first | exact .inl ⟨by decide, by decide⟩ | exact .inr ⟨by decide, by decide⟩ | exact .inl ⟨by omega, by omega⟩ | exact .inr ⟨by omega, by omega⟩))
  | with_reducible refine Sk.r_ii ?_
  | with_reducible refine Sk.r_i1 ?_
  | with_reducible refine Sk.r_tup ?_
  | with_reducible refine Sk.r_lst ?_)
local macro_rules | `(tactic| walk_at "go") => `(tactic| repeat walk_at "sg")
local macro_rules | `(tactic| walk_at "sz") => `(tactic| first
  | decide
  | (show _ ≤ (16777216 : Nat); simp only [List.length_cons, List.length_nil, List.length_map, List.length_append]; first | done | omega)
  | (show _ < (16777216 : Nat); simp only [List.length_cons, List.length_nil, List.length_map, List.length_append]; first | done | omega))
namespace Sk
open PySem PySem.Spec PyProof.Rows L2
/-- the two running numbers -/
def fibs : Nat → Int × Int
  | 0 => (1, 2)
  | n + 1 => ((fibs n).2, (fibs n).1 + (fibs n).2)
theorem fibs_pos : ∀ n, 1 ≤ (fibs n).1 ∧ 2 ≤ (fibs n).2
  | 0 => ⟨by decide, by decide⟩
  | n + 1 => by
    obtain ⟨h1, h2⟩ := fibs_pos n
    simp only [fibs]
    omega
def leastL (n : Nat) : Int := (fibs n).1
def leastS (n : Nat) : Int := 9 * (leastL n / 2) + leastL n % 2
def spLL : Sp := fun vs H Q _ => ∃ n : Int, vs = [.int n] ∧ 0 ≤ n ∧ n ≤ 1000 ∧ Q (.int (leastL n.toNat)) H
def spLS : Sp := fun vs H Q _ => ∃ n : Int, vs = [.int n] ∧ 0 ≤ n ∧ n ≤ 1000 ∧ Q (.int (leastS n.toNat)) H
theorem ok_least_leaves {P : Program} {w : World} {K : PySem.W.Frag} {mg : Str → Option Value} {base : Heap} (T : Tx K mg) : Cal P w K mg base (0 + 1) "least_leaves" ["height"] spLL := by
  have nd := sc_least_leaves.nd
  refine Cal.of T.fn_least_leaves T.glo_least_leaves sc_least_leaves (fun _ _ _ _ _ _ us hl => match us, hl with | [_], _ => rfl) (fun vs H Q E h => ?_) (fun cdv A outer s H vs Q E hr h => ?_)
  · obtain ⟨n, rfl, h0, h1, k⟩ := h
    rfl
  · obtain ⟨n, rfl, h0, h1, k⟩ := h
    have hu := hu_of hr
    refine ⟨_, (PSs.nox (pss_cons (ps_set (i := 1) nd rfl (Or.inl rfl) pe_int)
      (pss_cons (ps_set (i := 2) nd rfl (Or.inl rfl) pe_int)
      (pss_cons (ps_for PassesOwn.never rfl (pi_range1 (by rfl) T.free_range (pa_cons (pv 0) pa_nil)) (pg_name (i := 3) nd rfl (Or.inl rfl)) (pss_one (ps_par (i := 1) (j := 2) (by rfl) nd rfl rfl (by decide) rfl rfl (pa_cons (pv 2) (pa_cons (pe_op op_add (pv 1) (pv 2)) pa_nil)) (by rfl))))
      (pss_one (ps_ret (pv 1))))))), ?_⟩
    refine r_start (σ := [some _, none, none, none]) rfl ?_
    walk_at "go"
    refine ⟨by omega, by omega, for_range (fun i σ H' => ∃ v, σ = [some (.int n), some (.int (fibs i).1), some (.int (fibs i).2), v] ∧ H' = H) ⟨_, rfl, rfl⟩ ?_ ?_⟩
    · rintro i σ H' hi ⟨v, rfl, rfl⟩
      walk_at "go"
      exact ⟨_, rfl, rfl⟩
    · rintro σ H' ⟨v, rfl, rfl⟩
      walk_at "go"
      exact k
theorem ok_least_signs {P : Program} {w : World} {K : PySem.W.Frag} {mg : Str → Option Value} {base : Heap} (T : Tx K mg) : Cal P w K mg base (1 + 1) "least_signs" ["height"] spLS := by
  have nd := sc_least_signs.nd
  have C_least_leaves := ok_least_leaves (P := P) (w := w) (base := base) T
  refine Cal.of T.fn_least_signs T.glo_least_signs sc_least_signs (fun _ _ _ _ _ _ us hl => match us, hl with | [_], _ => rfl) (fun vs H Q E h => ?_) (fun cdv A outer s H vs Q E hr h => ?_)
  · obtain ⟨n, rfl, h0, h1, k⟩ := h
    rfl
  · obtain ⟨n, rfl, h0, h1, k⟩ := h
    have hu := hu_of hr
    refine ⟨_, (PSs.nox (pss_cons (ps_set (i := 1) nd rfl (Or.inl rfl) (pf C_least_leaves (hr.mono (by first | omega | decide)) takes0 (pa_cons (pv 0) pa_nil)))
      (pss_one (ps_ret (pe_op op_add (pe_op op_mul pe_int (pe_op op_fdiv (pv 1) pe_int)) (pe_op op_mod (pv 1) pe_int)))))), ?_⟩
    refine r_start (σ := [some _, none]) rfl ?_
    walk_at "go"
    refine ⟨n, rfl, h0, h1, ?_⟩
    walk_at "go"
    exact k
end Sk

namespace Sk
open PySem PySem.Spec PyProof.Rows L2
def spWh : Sp := fun vs H Q _ => ∃ n : Int, vs = [.int n] ∧ Q (.bl true) H
/-- a list of pairs of least leaves and signs -/
def Known (H : Hp) (p : Addr) (m : Nat) : Prop := ∃ as : List Addr, H p = some (.lst (as.map V.ref)) ∧ as.length = m ∧ ∀ (i : Nat) (a : Addr), as[i]? = some a → H a = some (.tup [.int (leastL i), .int (leastS i)])
theorem Known.same {H H' : Hp} {p : Addr} {m : Nat} (k : Known H p m) (e : Same H H') : Known H' p m := by
  obtain ⟨as, h1, h2, h3⟩ := k
  exact ⟨as, e _ _ h1, h2, fun i a h => e _ _ (h3 i a h)⟩
def spAll : Sp := fun vs H Q _ => ∃ m : Int, vs = [.int m] ∧ 1 ≤ m ∧ m ≤ 1000 ∧ ∀ p H', H p = none → Same H H' → Known H' p (m.toNat + 1) → Q (.ref p) H'
def leasts (n : Nat) : List V := (List.range n).map fun j => V.int (leastL j)
theorem leasts_len (n : Nat) : (leasts n).length = n := by simp [leasts]
theorem leasts_get {n i : Nat} (h : i < n) : (leasts n)[i]? = some (.int (leastL i)) := by simp [leasts, h]
theorem leasts_get' {n i : Nat} {x : V} (h : (leasts n)[i]? = some x) : x = .int (leastL i) := by
  have := lt_of_get h
  rw [leasts_len] at this
  rw [leasts_get this] at h
  exact (Option.some.inj h).symm
theorem leasts_more (n : Nat) : leasts n ++ [.int (leastL n)] = leasts (n + 1) := by simp [leasts, List.range_succ]
theorem leastL_two (n : Nat) : leastL (n + 2) = leastL (n + 1) + leastL n := by
  simp only [leastL, fibs]
  omega
theorem ok_law_whole {P : Program} {w : World} {K : PySem.W.Frag} {mg : Str → Option Value} {base : Heap} (T : Tx K mg) : Cal P w K mg base (0 + 1) "_law_whole" ["thing"] spWh := by
  have nd := sc_law_whole.nd
  refine Cal.of T.fn_law_whole T.glo_law_whole sc_law_whole (fun _ _ _ _ _ _ us hl => match us, hl with | [_], _ => rfl) (fun vs H Q E h => ?_) (fun cdv A outer s H vs Q E hr h => ?_)
  · obtain ⟨n, rfl, k⟩ := h
    rfl
  · obtain ⟨n, rfl, k⟩ := h
    have hu := hu_of hr
    refine ⟨_, (PSs.nox (pss_one (ps_ret (pe_and (pe_callB call_isi (by rfl) T.free_isinstance bt_isinstance (pa_cons (pv 0) (pa_cons (pe_bltn (v := .ty "int") (by rfl) T.free_int bt_int rfl) pa_nil))) (pe_one (pe_not (pe_callB call_isi (by rfl) T.free_isinstance bt_isinstance (pa_cons (pv 0) (pa_cons (pe_bltn (v := .ty "bool") (by rfl) T.free_bool bt_bool rfl) pa_nil))))))))), ?_⟩
    refine r_start (σ := [some _]) rfl ?_
    walk_at "go"
    refine r_isi (.base (.int n)) (b := true) (by decide +kernel) ?_
    refine ⟨true, rfl, b_t ?_⟩
    walk_at "go"
    refine r_isi (.base (.int n)) (b := false) (by decide +kernel) ?_
    exact ⟨false, rfl, k⟩
theorem ok_law_all_least {P : Program} {w : World} {K : PySem.W.Frag} {mg : Str → Option Value} {base : Heap} (T : Tx K mg) : Cal P w K mg base (0 + 1) "_law_all_least" ["most"] spAll := by
  have nd := sc_law_all_least.nd
  refine Cal.of T.fn_law_all_least T.glo_law_all_least sc_law_all_least (fun _ _ _ _ _ _ us hl => match us, hl with | [_], _ => rfl) (fun vs H Q E h => ?_) (fun cdv A outer s H vs Q E hr h => ?_)
  · obtain ⟨m, rfl, h0, h1, k⟩ := h
    rfl
  · obtain ⟨m, rfl, h0, h1, k⟩ := h
    have hu := hu_of hr
    refine ⟨_, (PSs.nox (pss_cons (ps_set (i := 1) nd rfl (Or.inl rfl) (pe_lst (pa_cons pe_int (pa_cons pe_int pa_nil))))
      (pss_cons (ps_for PassesOwn.never rfl (pi_range2 (by rfl) T.free_range (pa_cons pe_int (pa_cons (pe_op op_add (pv 0) pe_int) pa_nil))) (pg_name (i := 2) nd rfl (Or.inl rfl)) (pss_one (ps_expr (pe_bm PySem.F.plainAttrs_list PySem.F.slot_list_append PySem.F.type_list_append mt_append (pv 1) (pa_cons (pe_op op_add (pe_ix ix_list (pv 1) (pe_op op_sub (pv 2) pe_int) (fun _ _ => rfl)) (pe_ix ix_list (pv 1) (pe_op op_sub (pv 2) pe_int) (fun _ _ => rfl))) pa_nil)))))
      (pss_one (ps_ret (pe_lc (own := [("one", 3)]) (g := gName 3) (by rfl) nd (pi_list (pv 1)) (blkOk_by (own := [("one", 3)]) (N := ["most", "many", "height", "one"]) (sc := defScope s_law_all_least) (by decide +kernel)) (fun _ _ _ _ _ => (pg_name (i := 3) nd rfl (Or.inl rfl))) (fun _ _ _ _ _ => pts_nil) (fun _ _ _ _ _ => (pe_tup (pa_cons (pv 3) (pa_cons (pe_op op_add (pe_op op_mul pe_int (pe_op op_fdiv (pv 3) pe_int)) (pe_op op_mod (pv 3) pe_int)) pa_nil)))))))))), ?_⟩
    refine r_start (σ := [some _, none, none, none]) rfl ?_
    walk_at "go"
    refine ⟨by decide, fun l hl => ?_⟩
    walk_at "go"
    refine ⟨⟨by decide, by decide, by omega, by omega⟩, for_range (fun i σ H' => ∃ v, σ = [some (.int m), some (.ref l), v, none] ∧ Same H H' ∧ H' l = some (.lst (leasts (i + 2)))) ⟨_, rfl, same_new hl, upd_same⟩ ?_ ?_⟩
    · rintro i σ H' hi ⟨v, rfl, sm, hl'⟩
      walk_at "go"
      refine ⟨tyL hl', ?_⟩
      walk_at "go"
      refine r_ixLn (v := .int (leastL (i + 1))) (SqL.of hl') (by omega) (by rw [show (2 + (i : Int) - 1).toNat = i + 1 by omega]; exact leasts_get (by omega)) ?_
      walk_at "go"
      refine r_ixLn (v := .int (leastL i)) (SqL.of hl') (by omega) (by rw [show (2 + (i : Int) - 2).toNat = i by omega]; exact leasts_get (by omega)) ?_
      walk_at "go"
      refine r_append hl' (by rw [leasts_len]; exact lt_line (by omega)) ?_
      refine ⟨_, rfl, same_mut sm hl, ?_⟩
      rw [← leastL_two, leasts_more]
      exact upd_same
    · rintro σ H' ⟨v, rfl, sm, hl'⟩
      have e : ((m + 1 - 2).toNat + 2) = m.toNat + 1 := by omega
      rw [e] at hl'
      walk_at "go"
      refine ⟨⟨_, SqL.of hl'⟩, fun D hD => lc_list (xs := leasts (m.toNat + 1)) (fun i H2 => Same H' H2 ∧ ∃ as : List Addr, H2 D = some (.lst (as.map V.ref)) ∧ as.length = i ∧ ∀ (i : Nat) (a : Addr), as[i]? = some a → a ≠ D ∧ H2 a = some (.tup [.int (leastL i), .int (leastS i)]))
        ⟨same_new hD, [], upd_same, rfl, fun i a h => by simp at h⟩ (fun i H2 _ ⟨s2, _⟩ => s2.seq (SqL.of hl')) ?_ ?_⟩
      · rintro i x H2 hx ⟨s2, as, hD2, hlen, has⟩
        obtain rfl := leasts_get' hx
        have hi := lt_of_get hx
        rw [leasts_len] at hi
        walk_at "go"
        refine ⟨rfl, ?_⟩
        walk_at "go"
        refine ⟨by walk_at "sz", fun t ht => ?_⟩
        have nt : t ≠ D := (ne_of_none hD2 ht).symm
        refine ⟨as.map V.ref, by rw [upd_ne nt.symm]; exact hD2, by rw [List.length_map]; exact lt_line (by omega), (fun b o hb => ?_), as ++ [t], ?_, by simp [hlen], fun j a hj => ?_⟩
        · rw [upd_ne (ne_of_none hb hD), upd_ne (ne_of_none (s2 _ _ hb) ht)]
          exact s2 _ _ hb
        · rw [upd_same]; simp
        · by_cases hji : j < as.length
          · rw [List.getElem?_append_left hji] at hj
            obtain ⟨h1, h2⟩ := has j a hj
            refine ⟨h1, ?_⟩
            rw [upd_ne h1, upd_ne (ne_of_none h2 ht)]
            exact h2
          · rw [List.getElem?_append_right (by omega)] at hj
            have hj0 : j - as.length = 0 := by
              have := lt_of_get hj
              simp at this
              omega
            rw [hj0] at hj
            obtain rfl : t = a := by simpa using hj
            have : j = i := by omega
            subst this
            refine ⟨nt, ?_⟩
            rw [upd_ne nt, upd_same]
            rfl
      · rintro H2 ⟨s2, as, hD2, hlen, has⟩
        rw [leasts_len] at hlen
        exact k D H2 (sm.free hD) (sm.trans s2) ⟨as, hD2, hlen, fun i a h => (has i a h).2⟩
end Sk

namespace Sk
open PySem PySem.Spec PyProof.Rows L2
theorem leastL_pos (n : Nat) : 1 ≤ leastL n := (fibs_pos n).1
theorem leastL_step (n : Nat) : leastL n + 1 ≤ leastL (n + 1) := by
  induction n with
  | zero => decide
  | succ n ih =>
    rw [leastL_two]
    have := leastL_pos n
    omega
theorem leastS_step (n : Nat) : leastS n < leastS (n + 1) := by
  have := leastL_step n
  unfold leastS
  omega
theorem leastS_le {n m : Nat} (h : n ≤ m) : leastS n ≤ leastS m := by
  induction m with
  | zero => obtain rfl : n = 0 := by omega
            exact Int.le_refl _
  | succ m ih =>
    by_cases e : n = m + 1
    · subst e; exact Int.le_refl _
    · exact Int.le_trans (ih (by omega)) (Int.le_of_lt (leastS_step m))
theorem leastS_lt {n m : Nat} (h : leastS n < leastS m) : n < m := by
  by_cases e : m ≤ n
  · have := leastS_le e
    omega
  · omega
theorem leastS_pos (n : Nat) : 1 ≤ leastS n := leastS_le (Nat.zero_le n)
theorem leastS_150 : (10 : Int) ^ 31 < leastS 150 := by decide +kernel
theorem leastS_140 : leastS 140 < (10 : Int) ^ 30 := by decide +kernel
def spMH : Sp := fun vs H Q _ => ∃ s : Int, vs = [.int s] ∧ 1 ≤ s ∧ s < 10 ^ 31 ∧ ∀ h : Nat, h < 150 → leastS h ≤ s → s < leastS (h + 1) → Q (.int h) H
theorem ok_most_height {P : Program} {w : World} {K : PySem.W.Frag} {mg : Str → Option Value} {base : Heap} (T : Tx K mg) : Cal P w K mg base (2 + 1) "most_height" ["signs"] spMH := by
  have nd := sc_most_height.nd
  have C_least_signs := ok_least_signs (P := P) (w := w) (base := base) T
  refine Cal.of T.fn_most_height T.glo_most_height sc_most_height (fun _ _ _ _ _ _ us hl => match us, hl with | [_], _ => rfl) (fun vs H Q E h => ?_) (fun cdv A outer s H vs Q E hr h => ?_)
  · obtain ⟨s0, rfl, h0, h1, k⟩ := h
    rfl
  · obtain ⟨s0, rfl, h0, h1, k⟩ := h
    have hu := hu_of hr
    refine ⟨_, (PSs.nox (pss_cons (ps_set (i := 1) nd rfl (Or.inl rfl) pe_int)
      (pss_cons (ps_while PassesOwn.never (pt_cmpR op_le (pf C_least_signs (hr.mono (by first | omega | decide)) takes0 (pa_cons (pe_op op_add (pv 1) pe_int) pa_nil)) (pv 0) (nomark _)) (pss_one (ps_set (i := 1) nd rfl (Or.inl rfl) (pe_op op_add (pv 1) pe_int))))
      (pss_one (ps_ret (pv 1)))))), ?_⟩
    refine r_start (σ := [some _, none]) rfl ?_
    walk_at "go"
    refine r_while (fun m σ H' => ∃ h : Nat, σ = [some (.int s0), some (.int h)] ∧ leastS h ≤ s0 ∧ m = 150 - h ∧ h < 150 ∧ H' = H) 150 ⟨0, rfl, h0, rfl, by decide, rfl⟩ ?_
    rintro m σ H' ⟨h, rfl, l1, rfl, l2, rfl⟩
    walk_at "go"
    refine ⟨_, rfl, by omega, by omega, ?_⟩
    walk_at "go"
    have e : ((h : Int) + 1).toNat = h + 1 := by omega
    rw [e]
    refine b_dec (fun c => ?_) (fun c => ?_)
    · have l3 : h + 1 < 150 := by
        have := leastS_150
        exact leastS_lt (by omega)
      refine ⟨_, fun _ _ z => z, ?_⟩
      walk_at "go"
      exact ⟨150 - (h + 1), by omega, h + 1, rfl, c, rfl, l3, rfl⟩
    · walk_at "go"
      exact k h l2 l1 (by omega)
end Sk

namespace Sk
open PySem PySem.Spec PyProof.Rows L2
def spR14 : Sp := fun vs H Q _ => ∃ (s : Int) (p : Addr), vs = [.int s, .ref p] ∧ 1 ≤ s ∧ s < 10 ^ 31 ∧ Known H p 161 ∧ Q (.bl true) H
theorem Known.at {H : Hp} {p : Addr} {m : Nat} (k : Known H p m) {i : Nat} (h : i < m) : ∃ (as : List Addr) (b : Addr), H p = some (.lst (as.map V.ref)) ∧ (as.map V.ref)[i]? = some (.ref b) ∧ H b = some (.tup [.int (leastL i), .int (leastS i)]) := by
  obtain ⟨as, k1, k2, k3⟩ := k
  have hb : as[i]? = some as[i] := List.getElem?_eq_getElem (by omega)
  exact ⟨as, as[i], k1, by rw [List.getElem?_map, hb]; rfl, k3 _ _ hb⟩
theorem ok_law_right {P : Program} {w : World} {K : PySem.W.Frag} {mg : Str → Option Value} {base : Heap} (T : Tx K mg) : Cal P w K mg base (3 + 1) "_law_right" ["signs", "known"] spR14 := by
  have nd := sc_law_right.nd
  have C_most_height := ok_most_height (P := P) (w := w) (base := base) T
  have C_law_whole := ok_law_whole (P := P) (w := w) (base := base) T
  refine Cal.of T.fn_law_right T.glo_law_right sc_law_right (fun _ _ _ _ _ _ us hl => match us, hl with | [_, _], _ => rfl) (fun vs H Q E h => ?_) (fun cdv A outer s H vs Q E hr h => ?_)
  · obtain ⟨s0, p, rfl, h0, h1, kn, k⟩ := h
    rfl
  · obtain ⟨s0, p, rfl, h0, h1, kn, k⟩ := h
    have hu := hu_of hr
    refine ⟨_, (PSs.nox (pss_cons (ps_set (i := 2) nd rfl (Or.inl rfl) (pf C_most_height (hr.mono (by first | omega | decide)) takes0 (pa_cons (pv 0) pa_nil)))
      (pss_cons (ps_if (PW.pt (pw_or (pt_not (pt_val (pf C_law_whole (hr.mono (by first | omega | decide)) takes0 (pa_cons (pv 2) pa_nil)))) (pw_or1 (pt_not (pt_chain op_le op_lt pe_int (pv 2) pe_int))))) (pss_one (ps_ret pe_bl)) pss_nil)
      (pss_one (ps_ret (pe_chain op_le op_lt (pe_ix ix_tup (pe_ix ix_list (pv 1) (pv 2) (fun _ _ => rfl)) pe_int (fun _ _ => rfl)) (pv 0) (pe_ix ix_tup (pe_ix ix_list (pv 1) (pe_op op_add (pv 2) pe_int) (fun _ _ => rfl)) pe_int (fun _ _ => rfl)))))))), ?_⟩
    refine r_start (σ := [some _, some _, none]) rfl ?_
    walk_at "go"
    refine ⟨s0, rfl, h0, h1, fun h l0 l1 l2 => ?_⟩
    walk_at "go"
    refine ⟨_, rfl, ?_⟩
    walk_at "go"
    refine b_pos (by omega) ?_
    walk_at "go"
    rw [decide_eq_true (show (h : Int) < 160 by omega)]
    walk_at "go"
    obtain ⟨as, b, e1, e2, e3⟩ := kn.at (i := h) (by omega)
    obtain ⟨as', b', f1, f2, f3⟩ := kn.at (i := h + 1) (by omega)
    refine r_ixLn (SqL.of e1) (by omega) (by rw [Int.toNat_natCast]; exact e2) ?_
    walk_at "go"
    refine r_ixTn (v := .int (leastS h)) (SqT.of e3) (by decide) rfl ?_
    walk_at "go"
    refine b_pos l1 ?_
    walk_at "go"
    refine r_ixLn (SqL.of f1) (by omega) (by rw [show ((h : Int) + 1).toNat = h + 1 by omega]; exact f2) ?_
    walk_at "go"
    refine r_ixTn (v := .int (leastS (h + 1))) (SqT.of f3) (by decide) rfl ?_
    walk_at "go"
    rw [decide_eq_true l2]
    exact k
theorem ok_law {P : Program} {w : World} {K : PySem.W.Frag} {mg : Str → Option Value} {base : Heap} (T : Tx K mg) : Cal P w K mg base (4 + 1) "law" ["script"] (spLaw K) := by
  have nd := sc_law.nd
  have C_law_right := ok_law_right (P := P) (w := w) (base := base) T
  have C_law_all_least := ok_law_all_least (P := P) (w := w) (base := base) T
  refine Cal.of T.fn_law T.glo_law sc_law (fun _ _ _ _ _ _ us hl => match us, hl with | [_], _ => rfl) (fun vs H Q E h => ?_) (fun cdv A outer s H vs Q E hr h => ?_)
  · obtain ⟨a, ns, rfl, hS, hlen, k⟩ := h
    rfl
  · obtain ⟨a, ns, rfl, hS, hlen, k⟩ := h
    have hu := hu_of hr
    refine ⟨_, (PSs.nox (pss_cons (ps_set (i := 1) nd rfl (Or.inl rfl) (pf C_law_all_least (hr.mono (by first | omega | decide)) takes0 (pa_cons pe_int pa_nil)))
      (pss_cons (ps_for PassesOwn.never rfl (pi_range2 (by rfl) T.free_range (pa_cons pe_int (pa_cons pe_int pa_nil))) (pg_name (i := 2) nd rfl (Or.inl rfl)) (pss_one (ps_if (pt_not (pt_val (pf C_law_right (hr.mono (by first | omega | decide)) takes0 (pa_cons (pv 2) (pa_cons (pv 1) pa_nil))))) (pss_one (ps_ret pe_bl)) pss_nil)))
      (pss_cons (ps_for PassesOwn.never rfl (pi_list (pe_op op_catL (pv 0) (pe_lst (pa_cons pe_int (pa_cons pe_int pa_nil))))) (pg_name (i := 3) nd rfl (Or.inl rfl)) (pss_cons (ps_set (i := 4) nd rfl (Or.inl rfl) (pe_ix ix_tup (pe_ix ix_list (pv 1) (pe_op op_mod (pv 3) pe_int) (fun _ _ => rfl)) pe_int (fun _ _ => rfl)))
      (pss_one (ps_for PassesOwn.never rfl (pi_list (pe_lst (pa_cons (pe_op op_add pe_int (pe_op op_mod (pv 3) (pe_op op_sub (pe_op op_pow pe_int pe_int) pe_int))) (pa_cons (pv 4) (pa_cons (pe_callB (call_max2 rfl) (by rfl) T.free_max bt_max (pa_cons pe_int (pa_cons (pe_op op_sub (pv 4) pe_int) pa_nil))) (pa_cons (pe_op op_add (pv 4) pe_int) pa_nil)))))) (pg_name (i := 2) nd rfl (Or.inl rfl)) (pss_one (ps_if (pt_not (pt_val (pf C_law_right (hr.mono (by first | omega | decide)) takes0 (pa_cons (pv 2) (pa_cons (pv 1) pa_nil))))) (pss_one (ps_ret pe_bl)) pss_nil))))))
      (pss_one (ps_ret pe_bl)))))), ?_⟩
    refine r_start (σ := [some _, none, none, none, none]) rfl ?_
    walk_at "go"
    refine ⟨160, rfl, by decide, by decide, fun p H1 hp s1 kn => ?_⟩
    walk_at "go"
    refine ⟨⟨by decide, by decide, by decide, by decide⟩, for_range (fun i σ H' => ∃ v, σ = [some (.ref a), some (.ref p), v, none, none] ∧ H' = H1) ⟨_, rfl, rfl⟩ ?_ ?_⟩
    · rintro i σ H' hi ⟨v, rfl, rfl⟩
      walk_at "go"
      refine ⟨_, p, rfl, by omega, by omega, kn, ?_⟩
      walk_at "go"
      exact ⟨_, rfl, rfl⟩
    rintro σ H' ⟨v, rfl, rfl⟩
    walk_at "go"
    refine ⟨by walk_at "sz", fun q hq => ?_⟩
    walk_at "go"
    have s2 : Same H' (upd H' q (.lst [.int 0, .int 139])) := same_new hq
    refine r_catL (xs := ns.map V.int) (zs := [0, 139].map V.int) ((s1.trans s2).seq hS) (SqL.of upd_same) (by walk_at "sz") fun z hz => ?_
    rw [← List.map_append]
    refine ⟨_, rfl, ⟨_, SqL.of upd_same⟩, for_list (K := K) (a := z) (xs := (ns ++ [0, 139]).map V.int) (fun i σ H2 => ∃ v1 v2 v3, σ = [some (.ref a), some (.ref p), v1, v2, v3] ∧ Same H' H2 ∧ H2 z = some (.lst ((ns ++ [0, 139]).map V.int)))
      ⟨_, _, _, rfl, s2.trans (same_new hz), upd_same⟩ (fun i σ H2 _ ⟨_, _, _, _, _, h⟩ => SqL.of h) ?_ ?_⟩
    · rintro i x σ H2 hx ⟨v1, v2, v3, rfl, t1, hz2⟩
      obtain ⟨c, _, rfl⟩ := int_at hx
      walk_at "go"
      obtain ⟨as, b, e1, e2, e3⟩ := (kn.same t1).at (i := (c % 140).toNat) (by show (c % 140).toNat < 161; omega)
      refine r_ixLn (SqL.of e1) (by omega) e2 ?_
      walk_at "go"
      refine r_ixTn (v := .int (leastS (c % 140).toNat)) (SqT.of e3) (by decide) rfl ?_
      have lp := leastS_pos (c % 140).toNat
      have lq : leastS (c % 140).toNat < 10 ^ 30 := Int.lt_of_le_of_lt (leastS_le (by omega)) leastS_140
      generalize leastS (c % 140).toNat = l at lp lq
      walk_at "go"
      refine ⟨by walk_at "sz", fun y hy => ?_⟩
      have e30 : (10 : Int) ^ Int.toNat 30 = 1000000000000000000000000000000 := by decide
      have e31 : (10 : Int) ^ 31 = 10000000000000000000000000000000 := by decide
      have e30' : (10 : Int) ^ 30 = 1000000000000000000000000000000 := by decide
      rw [e30'] at lq
      refine ⟨_, rfl, ⟨_, SqL.of upd_same⟩, for_list (K := K) (a := y) (xs := [1 + c % (10 ^ Int.toNat 30 - 1), l, if l - 1 > 1 then l - 1 else 1, l + 1].map V.int) (fun i σ H3 => ∃ v2, σ = [some (.ref a), some (.ref p), v2, some (.int c), some (.int l)] ∧ Same H2 H3 ∧ H3 y = some (.lst ([1 + c % (10 ^ Int.toNat 30 - 1), l, if l - 1 > 1 then l - 1 else 1, l + 1].map V.int)))
        ⟨_, rfl, same_new hy, upd_same⟩ (fun i σ H2 _ ⟨_, _, _, h⟩ => SqL.of h) ?_ ?_⟩
      · rintro j x σ H3 hx3 ⟨v2, rfl, t2, hy3⟩
        obtain ⟨n, hn, rfl⟩ := int_at hx3
        have hn2 : 1 ≤ n ∧ n < 10 ^ 31 := by
          have hm := List.mem_of_getElem? hn
          rw [e30] at hm
          rw [e31]
          simp only [List.mem_cons, List.not_mem_nil, or_false] at hm
          rcases hm with h | h | h | h
          · omega
          · omega
          · split at h <;> omega
          · omega
        walk_at "go"
        refine ⟨n, p, rfl, hn2.1, hn2.2, kn.same (t1.trans t2), ?_⟩
        walk_at "go"
        exact ⟨_, rfl, t2, hy3⟩
      · rintro σ H3 ⟨v2, rfl, t2, hy3⟩
        exact ⟨_, _, _, rfl, t1.trans t2, t2 _ _ hz2⟩
    · rintro σ H2 ⟨v1, v2, v3, rfl, t1, hz2⟩
      walk_at "go"
      exact k _
end Sk

namespace Sk
open PySem PySem.Spec PyProof.Rows L2
abbrev R : PySem.W.OpenRow := PySem.W.OpenLaw.row PySem.Challenge.rw_skeinwood_k14_most_heights
abbrev hk : PySem.W.Hook := He.hookD 5 fa fn
def ob (s : PySem.W.SharedT) : He.AlD := He.obsDG 5 fa fn (HandSHeadRun.getT s)
theorem ob_eq (s : PySem.W.SharedT) : ob s = hk.obs s.abs := He.obsDG_eq (HandSHeadRun.getT_eq s)
def lo0 : List PySem.Str := ["least_leaves", "least_signs", "most_height", "_law_whole", "_law_all_least", "_law_right"]
def los : List PySem.Str := lo0
def steps : Nat := 6000
theorem run (w : World) : HandSHeadRun.RunEq R (PySem.W.view R.prog [8]) hk ob steps los w := by
  intro os
  kernel_rfl
end Sk
namespace Sk
open PySem PySem.Spec PyProof.Rows L2
theorem facts {P : Program} {w : World} {K : PySem.W.Frag} {h : Heap} {mg : Str → Option Value} {f : Addr} (X : K.In h) (G : h.Ns mainGlobals mg) (hfa : mg ("law" : Str) = some (.ref f)) (c : He.SaysD fa fn K) :
    ∃ fd : FuncData, (∀ (s : Shared) (v : Value), BindsTo s fd ⟨[v], []⟩ [("script", v)]) ∧ ∀ base : Heap, K.In base → base.Ns mainGlobals mg → FnOk P w K mg base CX0 5 f fd ["script"] (spLaw K) := by
  have T : Tx K mg := ⟨c, h, X, G⟩
  obtain ⟨fd, F⟩ := T.fn_law
  have e := hfa.symm.trans T.glo_law
  cases e
  have b := FunD.bindsA (ps := ["script"]) F fun _ _ _ _ _ _ us hl => match us, hl with | [_], _ => rfl
  refine ⟨fd, fun s v => b s [v] rfl, fun base _ _ => ?_⟩
  obtain ⟨⟨fd2, F2, _, i2⟩, _, _⟩ := ok_law (P := P) (w := w) (base := base) T
  have e2 := (IsF.of F).one i2
  subst e2
  exact to0 (F2.mono (by decide)) fun _ _ _ _ z => z
end Sk
open PySem PySem.W PySem.Calls PyProof.Rows
theorem PySem.Challenge.cw_skeinwood_k14_most_heights_holds : PySem.Challenge.rw_skeinwood_k14_most_heights.Holds := by
  w_on; o_law
  refine HandSHeadRun.head_any (r := OpenLaw.row PySem.Challenge.rw_skeinwood_k14_most_heights) (q := view (OpenLaw.row PySem.Challenge.rw_skeinwood_k14_most_heights).prog [8]) (H := Sk.hk) (ob := Sk.ob) (M := Sk.steps) (loose := Sk.los) (d := HandSHeadRun.topDef (OpenLaw.row PySem.Challenge.rw_skeinwood_k14_most_heights).prog 8) (kwd := []) Sk.ob_eq
    (by kernel_rfl) (fun s => by kernel_rfl) Sk.run (by kernel_rfl) (by kernel_rfl) (by kernel_rfl) (by rfl) (by first | assumption | decide +kernel) (by decide +kernel) ⟨rfl, rfl, rfl, rfl, rfl, by decide +kernel⟩ ?hw ?hc
  case hw => w_witness2
  case hc =>
    refine L2.walk_ofE (l := PySem.Challenge.rw_skeinwood_k14_most_heights) (n := 63) (k := 5) (x := "script") (CX := L2.CX0) rfl (by decide) (by kernel_rfl) ⟨rfl, by decide, by decide⟩ ?F (fun _ _ _ _ z => z)
    intro w mg fa h Y G hmg0
    obtain ⟨K, KX, c⟩ := Y
    have hmg : mg ("law" : PySem.Str) = some (.ref fa) := by
      have e : (HandSHeadRun.topDef (OpenLaw.row PySem.Challenge.rw_skeinwood_k14_most_heights).prog 8).name = ("law" : PySem.Str) := by kernel_rfl
      rw [← e]
      exact hmg0
    obtain ⟨fd, hb, hF⟩ := Sk.facts (P := (PySem.Challenge.rw_skeinwood_k14_most_heights).prog) (w := w) KX G hmg c
    exact ⟨K, fd, Sk.spLaw K, KX, hb, fun H a ns hl _ hS => ⟨a, ns, rfl, hS, hl, fun _ => rfl⟩, hF⟩
#print axioms PySem.Challenge.cw_skeinwood_k14_most_heights_holds
