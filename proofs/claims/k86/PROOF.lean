import PyProof.Rows.All
import Wide.All
import OpenK.AllK
import Wide.FinOn
import KE.KStateDown
import Lean
import HandS.Base
import HandS.Call
import HandS.List
import HandS.Comp
import HandS.Ends
import HandS.More
import HandS.Words
import HandS.WordsList
import HandS.WordsDict
import HandS.WordsExc
import HandS.Exc
import HandS.ExcOwn
import HandS.ExcIs
import HandS.TryOnly
import HandS.Dict
import HandS.Iter
import HandS.Text
import HandS.Flow
import HandS.Evl
import HandS.Wide
import HandS.WideBits
import HandS.Style
import HandS.IsInst
import HandS.TupAny
import HandS.Deep
import HandS.Zip
import HandS.Rev
import HandS.Walk
import HandS.FStr
import HandS.SortInts
import HandS.Small
import HandS.StrMore
import HandS.StrSplit
import HandS.DictTup
import HandS.TupLe
import HandS.Defaults
import HandS.Head0
import HandS.Head1
import HandS.Head2
import HandS.HeadEnd
import HandS.HeadHook1
import HandS.HeadHook2
import KE.KxIndex
import HandS.TryMany
import HandS.Replace
import HandS.Conv
import HandS.TupLen
import HandS.Codes
import HandS.ReplaceLit
import HandS.ReplaceList
import HandS.ReplaceDef
import PySem.Challenge.RW_skeinwood_k86_shelves_written
set_option Elab.async false
set_option linter.all false
set_option maxRecDepth 100000
set_option maxHeartbeats 0
namespace Sk
open PySem PySem.Spec PyProof.Rows L2

/-! ### callees by names -/
/-- the function object at f -/
def IsF (K : PySem.W.Frag) (f : Addr) (fd : FuncData) : Prop := ∃ oc od osl, K.lookup f = some ⟨oc, od, .func fd, osl⟩
theorem IsF.one {K : PySem.W.Frag} {f : Addr} {fd fd' : FuncData} (h : IsF K f fd) (h' : IsF K f fd') : fd = fd' := by
  obtain ⟨_, _, _, e⟩ := h
  obtain ⟨_, _, _, e'⟩ := h'
  rw [e] at e'
  injection e' with e1
  injection e1 with _ _ e2
  injection e2
theorem IsF.of {K : PySem.W.Frag} {x qual : Str} {params : Arguments} {body : List Stmt} {scope : Scope} {f : Addr} {fd : FuncData} {dvs : List V} {kws : List (Str × V)} (h : FunD K x qual params body scope dvs kws f fd) : IsF K f fd := by
  obtain ⟨⟨oc, od, _, _, _, _, _, _, _, osl, _, e, _⟩, _⟩ := h
  exact ⟨oc, od, osl, e⟩
/-- a def of the module keeps its promise -/
structure Cal (P : Program) (w : World) (K : PySem.W.Frag) (mg : Str → Option Value) (base : Heap) (k : Nat) (x : Str) (ps : List Str) (sp : Sp) : Prop where
  ex : ∃ fd, FnOk P w K mg base (L2.CX P w) k (He.ga K x) fd ps sp ∧ Binds K fd ps [] ∧ IsF K (He.ga K x) fd
  g : mg x = some (.ref (He.ga K x))
  kp : PySem.W.keepIn K (.ref (He.ga K x)) = true
/-- a method -/
structure CalM (P : Program) (w : World) (K : PySem.W.Frag) (mg : Str → Option Value) (base : Heap) (k : Nat) (c m : Str) (ps : List Str) (sp : Sp) : Prop where
  ex : ∃ fd, FnOk P w K mg base (L2.CX P w) k (He.ma K (He.ga K c) m) fd ps sp ∧ Binds K fd ps []
  cl : Cls K (He.ga K c)
  me : Meth K (He.ga K c) m (He.ma K (He.ga K c) m)
/-- a class, by its maker -/
structure CalK (P : Program) (w : World) (K : PySem.W.Frag) (mg : Str → Option Value) (base : Heap) (k : Nat) (c : Str) (ps : List Str) (sp : Sp) : Prop where
  ex : ∃ fd, FnOk P w K mg base (L2.CX P w) k (He.ma K (He.ga K c) "__init__") fd ps sp ∧ Binds K fd ps []
  g : mg c = some (.ref (He.ga K c))
  mkr : Mk K (He.ga K c) (He.ma K (He.ga K c) "__init__")
section
variable {P : Program} {w : World} {K : PySem.W.Frag} {mg : Str → Option Value} {base : Heap} {k j : Nat} {x c m : Str} {ps : List Str} {sp sp' : Sp}
theorem Cal.mono (h : Cal P w K mg base j x ps sp) (l : j ≤ k) : Cal P w K mg base k x ps sp := let ⟨⟨fd, F, b, i⟩, g, kp⟩ := h; ⟨⟨fd, F.mono l, b, i⟩, g, kp⟩
theorem CalM.mono (h : CalM P w K mg base j c m ps sp) (l : j ≤ k) : CalM P w K mg base k c m ps sp := let ⟨⟨fd, F, b⟩, g, kp⟩ := h; ⟨⟨fd, F.mono l, b⟩, g, kp⟩
theorem Cal.imp (h : Cal P w K mg base k x ps sp) (l : ∀ vs H Q E, sp' vs H Q E → sp vs H Q E) : Cal P w K mg base k x ps sp' := let ⟨⟨fd, F, b, i⟩, g, kp⟩ := h; ⟨⟨fd, F.imp l, b, i⟩, g, kp⟩
theorem CalM.imp (h : CalM P w K mg base k c m ps sp) (l : ∀ vs H Q E, sp' vs H Q E → sp vs H Q E) : CalM P w K mg base k c m ps sp' := let ⟨⟨fd, F, b⟩, g, kp⟩ := h; ⟨⟨fd, F.imp l, b⟩, g, kp⟩
end
section
variable {X : Cx} {k : Nat} {x c m : Str} {ps : List Str} {sp : Sp} {W : WX} {p pos apos : Pos} {e o : Expr} {es : List Expr} {ta : TE} {t : TA}
theorem pf (c : Cal X.prog X.w X.K X.mg X.base k x ps sp) (hr : Room k X.A) (tk : Takes X W) (ha : PA X (e :: es) t) (hg : Gl X x := by rfl) (hdb : (x == ("__debug__" : Str)) = false := by decide)
    (he : starEach (e :: es) X.env = (false, eval e X.env) :: starEach es X.env := by rfl) (hpl : (backTo pos (starEach es X.env)).any (·.1) = false := by rfl) : PE X (.Call (.Name x p) (e :: es) [] pos) (tCallS sp (WE W) t) := by
  obtain ⟨⟨fd, F, hb, _⟩, g, kp⟩ := c
  exact pe_callS F hr hg g kp hb (fun σ => passAt tk σ) ha hdb he hpl
theorem pf0 (c : Cal X.prog X.w X.K X.mg X.base k x ps sp) (hr : Room k X.A) (tk : Takes X W) (hg : Gl X x := by rfl) (hdb : (x == ("__debug__" : Str)) = false := by decide) : PE X (.Call (.Name x p) [] [] pos) (tCallS sp (WE W) tNil) := by
  obtain ⟨⟨fd, F, hb, _⟩, g, kp⟩ := c
  refine ⟨fun pins s σ H Q I h => ?_⟩
  refine wpAny_Call_Name_kw (ld_glob I hg g ?_ hdb)
  exact PySem.W.callWith_K0 I.kIn kp (run_fnS (us := []) F hr hb (passAt tk σ) I .nil h)
/-- o.m(..) of an instance, the wish of what is raised at the slots as they stand -/
def tMethS (C : Addr) (m : Str) (sp : Sp) (E : L2.St → XK) (ta : TE) (t : TA) : TE := fun σ H Q => ta σ H fun x H1 => ∃ a dx fs, x = .ref a ∧ H1 a = some (.ins C dx fs) ∧ fs.lookup m = none ∧
  t σ H1 fun vs H2 => sp (x :: vs) H2 Q (E σ)
theorem pm {pl : Sem Bool} (M : CalM X.prog X.w X.K X.mg X.base k c m ps sp) (he : PE X o ta) (hr : Room k X.A) (tk : Takes X W) (ha : PA X (e :: es) t)
    (hst : starEach (e :: es) X.env = (false, eval e X.env) :: starEach es X.env := by rfl) (hpl : (backTo pos (starEach es X.env)).any (·.1) = false := by rfl)
    (ht : eval (.Call (.Attribute o m apos) (e :: es) [] pos) X.env = (do
      let ov ← eval o X.env
      standAt apos.atName
      let (f, first) ← holding [ov] (getMethod ov m pl)
      callWith pos f first (backTo pos (starEach (e :: es) X.env)) (backToKw pos (keywordEach [] X.env))) := by rfl) :
    PE X (.Call (.Attribute o m apos) (e :: es) [] pos) (tMethS (He.ga X.K c) m sp (WE W) ta t) := by
  obtain ⟨⟨fd, F, hb⟩, cl, hm⟩ := M
  refine ⟨fun pins s σ H Q I h => ?_⟩
  refine PySem.W.methodCall_KW (pl := pl) (thn (he.run pins s σ H _ I h) fun u s1 ⟨x, H1, I1, rx, a, dx, fs, ex, ea, l, q⟩ => ?_) ht
  subst ex
  obtain rfl : u = Value.ref a := rx
  refine getmeth_ok I1 ea cl hm l ?_
  refine PySem.W.callWith_K (first := [.ref a]) (h₀ := X.base) I.ok.mod.kin hm.kp (thn (ha.run pos pins s1 σ H1 _ I1 q) fun us s2 ⟨vs, H2, I2, r, q2⟩ => ⟨I2.kIn, ?_⟩) hst hpl
  exact run_fnS (us := .ref a :: us) (vs := .ref a :: vs) F hr hb (passAt tk σ) I2 (.cons rfl r) q2
theorem pm0 {pl : Sem Bool} (M : CalM X.prog X.w X.K X.mg X.base k c m ps sp) (he : PE X o ta) (hr : Room k X.A) (tk : Takes X W)
    (ht : eval (.Call (.Attribute o m apos) [] [] pos) X.env = (do
      let ov ← eval o X.env
      standAt apos.atName
      let (f, first) ← holding [ov] (getMethod ov m pl)
      callWith pos f first (backTo pos (starEach [] X.env)) (backToKw pos (keywordEach [] X.env))) := by rfl) :
    PE X (.Call (.Attribute o m apos) [] [] pos) (tMethS (He.ga X.K c) m sp (WE W) ta tNil) := by
  obtain ⟨⟨fd, F, hb⟩, cl, hm⟩ := M
  refine ⟨fun pins s σ H Q I h => ?_⟩
  refine PySem.W.methodCall_KW (pl := pl) (thn (he.run pins s σ H _ I h) fun u s1 ⟨x, H1, I1, rx, a, dx, fs, ex, ea, l, q⟩ => ?_) ht
  subst ex
  obtain rfl : u = Value.ref a := rx
  refine getmeth_ok I1 ea cl hm l ?_
  exact PySem.W.callWith_K0 (first := [.ref a]) I1.kIn hm.kp (run_fnS (us := [.ref a]) (vs := [.ref a]) F hr hb (passAt tk σ) I1 (.cons rfl .nil) q)
theorem pass0X {X : Cx} : Passes (L2.CX X.prog X.w) X E0 := passL
theorem pk0 (M : CalK X.prog X.w X.K X.mg X.base k c ps sp) (hr : Room (k + 1) X.A) (tk : Takes X W) (hg : Gl X c := by rfl) (hdb : (c == ("__debug__" : Str)) = false := by decide) : PE X (.Call (.Name c p) [] [] pos) (tMake (He.ga X.K c) sp [] E0 tNil) := by
  obtain ⟨⟨fd, F, hb⟩, g, mk⟩ := M
  exact pe_make0 mk F hr hg g hb .nil passL hdb
theorem pk (M : CalK X.prog X.w X.K X.mg X.base k c ps sp) (hr : Room (k + 1) X.A) (tk : Takes X W) (ha : PA X (e :: es) t) (hg : Gl X c := by rfl) (hdb : (c == ("__debug__" : Str)) = false := by decide)
    (he : starEach (e :: es) X.env = (false, eval e X.env) :: starEach es X.env := by rfl) (hpl : (backTo pos (starEach es X.env)).any (·.1) = false := by rfl) : PE X (.Call (.Name c p) (e :: es) [] pos) (tMake (He.ga X.K c) sp [] E0 t) := by
  obtain ⟨⟨fd, F, hb⟩, g, mk⟩ := M
  exact pe_make mk F hr hg g hb .nil passL ha hdb he hpl
/-- X(), an own error without values -/
theorem pmk_own0 {x : Str} {C : Addr} (q : PySem.W.excIn X.K C He.veBase "ValueError.__new__" = true ∧ PySem.W.keepIn X.K (.ref C) = true ∧ PySem.W.subIn X.K (.ref C) (.type "BaseException") = some true ∧ PySem.W.typeIn X.K (.ref C) = some (.type "type"))
    (gC : X.mg x = some (.ref C)) (hg : Gl X x := by rfl) (hdb : (x == ("__debug__" : Str)) = false := by decide) : PMk X (.Call (.Name x p) [] [] pos) (fun _ H Q => Q (.ref C) none H) := by
  obtain ⟨q1, q2, q3, q4⟩ := q
  intro pins s σ H Q I h
  refine wpAny_Call_Name_kw (ld_glob I hg gC ?_ hdb)
  refine PySem.W.callWith_K0 I.kIn q2 ?_
  obtain ⟨bm, N, nm, qn, bs, hdct, sn, sub, ab, col, dd, k0, k1, k2, k3, k5, mN, hC, hN, hni, T⟩ := exc_obj I.kIn q1
  refine wpAny_call_exc_subT PySem.F.excBase_ValueError T hC hN hni (fun h' e hm => ?_) (Nat.zero_le _)
  exact mk_of I hm (raises_own q3 q4) h (I.hok.gone hm.new)
end

/-! ### a def's promise from its body -/
section
variable {P : Program} {w : World} {K : PySem.W.Frag} {mg : Str → Option Value} {base : Heap} {k : Nat} {x c m qual : Str} {N ps : List Str} {sp : Sp} {args : Arguments} {body : List Stmt} {sc : Scope}
abbrev Body (P : Program) (w : World) (K : PySem.W.Frag) (mg : Str → Option Value) (base : Heap) (k : Nat) (N : List Str) (qual : Str) (sc : Scope) (body : List Stmt) (f : Addr) (sp : Sp) : Prop :=
  ∀ (cdv : Value) (A : Around) (outer : List Env) (s : Shared) (H : Hp) (vs : List V) (Q : VK) (E : XK), Room k (A.deeper (envOfC qual sc s.heap.objs.size f cdv)) → sp vs H Q E →
      ∃ t, PSs (cxOf (L2.CX P w) P w K mg base N qual sc f cdv A outer s H E) body t ∧ t { nx := fun _ H' => Q .non H', rt := Q } (start N vs) H
theorem Cal.of (F : ∃ fd, FunD K x qual args body sc [] [] (He.fAd K (x, none)) fd) (g : mg x = some (.ref (He.ga K x))) (S : FnScope N ps sc)
    (b : ∀ (kV doc pm : Value) (an : Option Addr) (cdv ct : Value) (us : List Value), us.length = ps.length → bindArgs (PySem.W.fnOf x qual args body sc .none kV doc pm an cdv ct) ⟨us, []⟩ = pure (ps.zip us))
    (len : ∀ vs H Q E, sp vs H Q E → vs.length = ps.length) (h : Body P w K mg base k N qual sc body (He.ga K x) sp) : Cal P w K mg base (k + 1) x ps sp := by
  obtain ⟨fd, F⟩ := F
  exact ⟨⟨fd, F.ok S len h, F.bindsN b, .of F⟩, g, F.kp⟩
theorem CalM.of (F : ∃ fd, FunD K m qual args body sc [] [] (He.fAd K (c, some m)) fd) (cl : Cls K (He.ga K c)) (me : Meth K (He.ga K c) m (He.ma K (He.ga K c) m)) (S : FnScope N ps sc)
    (b : ∀ (kV doc pm : Value) (an : Option Addr) (cdv ct : Value) (us : List Value), us.length = ps.length → bindArgs (PySem.W.fnOf m qual args body sc .none kV doc pm an cdv ct) ⟨us, []⟩ = pure (ps.zip us))
    (len : ∀ vs H Q E, sp vs H Q E → vs.length = ps.length) (h : Body P w K mg base k N qual sc body (He.ma K (He.ga K c) m) sp) : CalM P w K mg base (k + 1) c m ps sp := by
  obtain ⟨fd, F⟩ := F
  exact ⟨⟨fd, F.ok S len h, F.bindsN b⟩, cl, me⟩
theorem CalK.of (F : ∃ fd, FunD K "__init__" qual args body sc [] [] (He.fAd K (c, some "__init__")) fd) (g : mg c = some (.ref (He.ga K c))) (mk : Mk K (He.ga K c) (He.ma K (He.ga K c) "__init__")) (S : FnScope N ps sc)
    (b : ∀ (kV doc pm : Value) (an : Option Addr) (cdv ct : Value) (us : List Value), us.length = ps.length → bindArgs (PySem.W.fnOf "__init__" qual args body sc .none kV doc pm an cdv ct) ⟨us, []⟩ = pure (ps.zip us))
    (len : ∀ vs H Q E, sp vs H Q E → vs.length = ps.length) (h : Body P w K mg base k N qual sc body (He.ma K (He.ga K c) "__init__") sp) : CalK P w K mg base (k + 1) c ps sp := by
  obtain ⟨fd, F⟩ := F
  exact ⟨⟨fd, F.ok S len h, F.bindsN b⟩, g, mk⟩
end

/-- a def from which no error leaves, told so -/
theorem to0 {P : Program} {w : World} {K : PySem.W.Frag} {mg : Str → Option Value} {base : Heap} {k : Nat} {f : Addr} {fd : FuncData} {ps : List Str} {sp : Sp} (F : FnOk P w K mg base (L2.CX P w) k f fd ps sp) (h : ∀ vs H Q E, sp vs H Q E → sp vs H Q E0) : FnOk P w K mg base CX0 k f fd ps sp := by
  refine ⟨F.len, fun A outer s H args us vs Q E hr he hb hv hs => codeAny_mono (F.run A outer s H args us vs Q E0 hr he hb hv (h _ _ _ _ hs)) fun r s' hq => ?_⟩
  cases r with
  | error e =>
    obtain ⟨_, _, _, _, _, _, _, _, _, _, _, _, z⟩ := hq
    exact z.elim
  | ok fl => cases fl <;> exact hq

/-! ### built-in names -/
theorem bt_range : bootBuiltins "range" = some (.type "range") := by decide +kernel
theorem bt_isinstance : bootBuiltins "isinstance" = some (.builtin "isinstance") := by decide +kernel
theorem bt_all : bootBuiltins "all" = some (.builtin "all") := by decide +kernel
theorem bt_any : bootBuiltins "any" = some (.builtin "any") := by decide +kernel
theorem bt_sum : bootBuiltins "sum" = some (.builtin "sum") := by decide +kernel
theorem bt_max : bootBuiltins "max" = some (.builtin "max") := by decide +kernel
theorem bt_min : bootBuiltins "min" = some (.builtin "min") := by decide +kernel
theorem bt_abs : bootBuiltins "abs" = some (.builtin "abs") := by decide +kernel
theorem bt_sorted : bootBuiltins "sorted" = some (.builtin "sorted") := by decide +kernel
theorem bt_int : bootBuiltins "int" = some (.type "int") := by decide +kernel
theorem bt_bool : bootBuiltins "bool" = some (.type "bool") := by decide +kernel
theorem bt_str : bootBuiltins "str" = some (.type "str") := by decide +kernel
theorem bt_list : bootBuiltins "list" = some (.type "list") := by decide +kernel
theorem bt_tuple : bootBuiltins "tuple" = some (.type "tuple") := by decide +kernel
theorem bt_dict : bootBuiltins "dict" = some (.type "dict") := by decide +kernel

/-! ### more operators -/
/-- list + list, whatever the lists are -/
def rCatL (K : PySem.W.Frag) : R2 := fun x y H Q => ∃ l b xs zs, x = .ref l ∧ y = .ref b ∧ SqL K H l xs ∧ SqL K H b zs ∧ xs.length + zs.length ≤ sizeLine ∧ ∀ p, H p = none → Q (.ref p) (upd H p (.lst (xs ++ zs)))
theorem op_catL {X : Cx} : OpR X (binaryOp .Add) (rCatL X.K) := by
  intro pins s σ H x y v u Q I rx ry h
  obtain ⟨l, b, xs, zs, rfl, rfl, hH, hB, hz, q⟩ := h
  cases rx
  cases ry
  obtain ⟨its, r, pl, _⟩ := I.list hH
  obtain ⟨its2, r2, pl2, _⟩ := I.list hB
  obtain ⟨⟨cls, dd, data, sl⟩, ho, hc, n, hd⟩ := pl.isList
  obtain ⟨⟨cls2, dd2, data2, sl2⟩, ho2, hc2, n2, hd2⟩ := pl2.isList
  simp only at hc hd hc2 hd2
  subst hc hd hc2 hd2
  have l1 := r.length
  have l2 := r2.length
  refine concat_meets ⟨_, ho, rfl⟩ ⟨_, ho2, rfl⟩ noFill_list_add seq_list_add PySem.F.slot_list_add PySem.F.entry_list_add (PySem.F.args_list_add_2 _ _) (list_addW l b its.toArray its2.toArray n n2 dd dd2 sl sl2 (by simp only [List.size_toArray]; omega)) ⟨ho, ho2, ?_⟩
  have ea : its.toArray ++ its2.toArray = (its ++ its2).toArray := by simp
  rw [ea]
  exact ⟨.ref _, _, I.lnew (t' := s.toks) (r.append r2) (by rw [List.length_append]; omega), rfl, q _ I.fresh⟩
/-- isinstance of one class -/
theorem r_isi {K : PySem.W.Frag} {H : Hp} {Q : VK} {x : V} {t u : String} {b : Bool} (ht : TyX K H x (.type t)) (hk : kitB t u = some b) (k : Q (.bl b) H) : rIsi K [x, .ty u] H Q := ⟨x, .ty u, _, _, b, rfl, .ty u, ht, kit_ty hk, k⟩

/-! ### readings, a step at a time -/
/-- a slot is stored -/
def sset : L2.St → Nat → V → L2.St
  | [], _, _ => []
  | _ :: r, 0, v => some v :: r
  | a :: r, i + 1, v => a :: sset r i v
theorem sset_eq : ∀ {σ : L2.St} {i : Nat} {v : V}, sset σ i v = σ.set i (some v)
  | [], _, _ => rfl
  | _ :: _, 0, _ => rfl
  | a :: r, i + 1, v => by
    show a :: sset r i v = a :: r.set i (some v)
    rw [sset_eq]
section
variable {K : PySem.W.Frag} {D : Ends} {σ σ' : L2.St} {H H' : Hp} {Q : VK} {t u : TS} {te ta tb tc : TE} {tt tu : TT} {tr : TA} {i j : Nat} {v x y z : V} {r r' : R2} {g : TG} {b : Bool} {A B : Prop}
theorem r_seq (h : t { D with nx := u D } σ H) : tSeq t u D σ H := h
theorem r_next (h : D.nx σ H) : tNext D σ H := h
theorem r_asg (h : te σ H fun x H1 => g x σ H1 D.nx) : tAsg te g D σ H := h
theorem r_name {v : V} {Q : L2.St → Hp → Prop} (e : σ.set i (some v) = σ') (h : Q σ' H) : gName i v σ H Q := by
  unfold gName
  rw [e]
  exact h
theorem r_nm {v : V} {Q : L2.St → Hp → Prop} (h : Q (sset σ i v) H) : gName i v σ H Q := by
  unfold gName
  rw [← sset_eq]
  exact h
theorem r_par (h : tr σ H fun vs H1 => ∃ v w, vs = [v, w] ∧ D.nx (sset (sset σ i v) j w) H1) : tPar i j tr D σ H := by
  unfold tPar
  simp only [← sset_eq]
  exact h
theorem r_par2 {Q : V → V → Prop} (h : Q x y) : ∃ v w, [x, y] = [v, w] ∧ Q v w := ⟨x, y, rfl, h⟩
theorem r_start {N : List Str} {vs : List V} (e : start N vs = σ) (h : t D σ H) : t D (start N vs) H := by
  rw [e]
  exact h
theorem r_for {wi : TI} (h : wi σ H fun Jt H1 => ∃ W : Nat → Nat → L2.St → Hp → Prop, (∃ m, W 0 m σ H1) ∧ ∀ i m σ H, W i m σ H →
    (Jt.stop i H ∧ D.nx σ H) ∨ (Jt.go i H ∧ ∃ Nx : L2.St → Hp → Prop, (∀ σ' H', Nx σ' H' → ∃ m', m' < m ∧ W (i + 1) m' σ' H') ∧ ∀ x H', Jt.yld i H x H' → g x σ H' fun σ2 H2 => t { D with nx := Nx, ct := Nx, bk := D.nx } σ2 H2)) : tFor wi g t D σ H := h
theorem r_rng1 {R : It → Hp → Prop} (h : tr σ H fun vs H1 => ∃ j : Int, vs = [.int j] ∧ -(2 ^ 62) ≤ j ∧ j < 2 ^ 62 ∧ R (Itr 0 j.toNat) H1) : iRng1 tr σ H R := h
theorem r_rng1' {R : Int → Prop} {j : Int} (h : -(2 ^ 62) ≤ j ∧ j < 2 ^ 62 ∧ R j) : ∃ i : Int, [V.int j] = [.int i] ∧ -(2 ^ 62) ≤ i ∧ i < 2 ^ 62 ∧ R i := ⟨j, rfl, h⟩
theorem r_rng2 {R : It → Hp → Prop} (h : tr σ H fun vs H1 => ∃ i j : Int, vs = [.int i, .int j] ∧ (-(2 ^ 62) ≤ i ∧ i < 2 ^ 62 ∧ -(2 ^ 62) ≤ j ∧ j < 2 ^ 62) ∧ R (Itr i (j - i).toNat) H1) : iRng2 tr σ H R := h
theorem r_rng2' {R : Int → Int → Prop} {i j : Int} (h : (-(2 ^ 62) ≤ i ∧ i < 2 ^ 62 ∧ -(2 ^ 62) ≤ j ∧ j < 2 ^ 62) ∧ R i j) : ∃ a b : Int, [V.int i, V.int j] = [.int a, .int b] ∧ (-(2 ^ 62) ≤ a ∧ a < 2 ^ 62 ∧ -(2 ^ 62) ≤ b ∧ b < 2 ^ 62) ∧ R a b := ⟨i, j, rfl, h⟩
theorem r_iL {R : It → Hp → Prop} (h : te σ H fun x H1 => ∃ a, x = .ref a ∧ (∃ xs, SqL K H1 a xs) ∧ R (Itl K a) H1) : iList K te σ H R := h
theorem r_iT {R : It → Hp → Prop} (h : te σ H fun x H1 => ∃ a, x = .ref a ∧ (∃ xs, SqT K H1 a xs) ∧ R (Itt K a) H1) : iTup K te σ H R := h
theorem r_iS {R : It → Hp → Prop} (h : te σ H fun v H1 => ∃ x, v = .str x ∧ R (Its x) H1) : iStr te σ H R := h
theorem r_iE {R : It → Hp → Prop} (h : tr σ H fun vs H1 => ∃ a xs, vs = [.ref a] ∧ SqL K H1 a xs ∧ R (Ite K a) H1) : iEnum K tr σ H R := h
theorem r_ref1 {R : Addr → Prop} {p : Addr} (h : R p) : ∃ a, V.ref p = .ref a ∧ R a := ⟨p, rfl, h⟩
theorem r_lc {wi : TI} {vs : List Nat} (h : wi σ H fun J H1 => ∀ D, H1 D = none → ∃ W : Nat → Nat → Hp → Prop, (∃ m, W 0 m (upd H1 D (.lst []))) ∧ ∀ i m H, W i m H →
  (J.stop i H ∧ Q (.ref D) H) ∨ (J.go i H ∧ ∃ Nx : Hp → Prop, (∀ H', Nx H' → ∃ m', m' < m ∧ W (i + 1) m' H') ∧ ∀ x H', J.yld i H x H' → g x (wipe σ vs) H' fun σ2 H2 => wipe σ2 vs = wipe σ vs ∧ tt σ2 H2 fun b H3 =>
    if b = true then te σ2 H3 fun y H4 => ∃ acc, H4 D = some (.lst acc) ∧ acc.length < sizeLine ∧ Nx (upd H4 D (.lst (acc ++ [y]))) else Nx H3)) : tLc wi g tt te vs σ H Q := h
theorem r_meth {C : Addr} {m : Str} {sp : Sp} {E : L2.St → XK} (h : ta σ H fun x H1 => ∃ a dx fs, x = .ref a ∧ H1 a = some (.ins C dx fs) ∧ fs.lookup m = none ∧ tr σ H1 fun vs H2 => sp (x :: vs) H2 Q (E σ)) : tMethS C m sp E ta tr σ H Q := h
theorem r_bm {T : String} {r : V → List V → Hp → VK → Prop} (h : ta σ H fun x H1 => tyV K T x H1 ∧ tr σ H1 fun xs H2 => r x xs H2 Q) : tBM K T r ta tr σ H Q := h
theorem r_bm0 {T : String} {r : V → List V → Hp → VK → Prop} (h : ta σ H fun x H1 => tyV K T x H1 ∧ r x [] H1 Q) : tBM0 K T r ta σ H Q := h
theorem r_m1 {r : V → List V → Hp → VK → Prop} (h : ta σ H fun x H1 => (∃ z, x = .str z) ∧ tb σ H1 fun y H2 => r x [y] H2 Q) : tM1 r ta tb σ H Q := h
theorem r_sl {r : V → Option Int → Option Int → Hp → VK → Prop} {tl th : TO} (h : te σ H fun x H1 => tl σ H1 fun lo H2 => th σ H2 fun hi H3 => r x lo hi H3 Q) : tSl r te tl th σ H Q := h
theorem r_part {Q : Option Int → Hp → Prop} (h : te σ H fun x H1 => ∃ i, x = .int i ∧ Q (some i) H1) : tPart te σ H Q := h
theorem r_part' {R : Int → Prop} {i : Int} (h : R i) : ∃ a, V.int i = .int a ∧ R a := ⟨i, rfl, h⟩
theorem r_nopart {Q : Option Int → Hp → Prop} (h : Q none H) : tNoPart σ H Q := h
theorem r_gSub {t : TSet} {Q : L2.St → Hp → Prop} (h : ta σ H fun o H1 => tb σ H1 fun i H2 => t o i v H2 fun H3 => Q σ H3) : gSub ta tb t v σ H Q := h
theorem r_mod {i j : Int} (c : 0 < j) (h : Q (.int (i % j)) H) : rI (fun _ j => 0 < j) (fun i j => .int (i % j)) (.int i) (.int j) H Q := ⟨i, j, rfl, rfl, c, h⟩
theorem r_div {i j : Int} (c : 0 < j) (c2 : j < 1073741824) (h : Q (.int (i / j)) H) : rI CDiv (fun i j => .int (i / j)) (.int i) (.int j) H Q := ⟨i, j, rfl, rfl, ⟨c, c2⟩, h⟩
theorem r_catL {p p2 : Addr} {xs zs : List V} (h1 : SqL K H p xs) (h2 : SqL K H p2 zs) (hl : xs.length + zs.length ≤ sizeLine) (k : ∀ q, H q = none → Q (.ref q) (upd H q (.lst (xs ++ zs)))) : rCatL K (.ref p) (.ref p2) H Q := ⟨p, p2, xs, zs, rfl, rfl, h1, h2, hl, k⟩
theorem r_ixLn {p : Addr} {xs : List V} {i : Int} (h : SqL K H p xs) (h0 : 0 ≤ i) (e : xs[i.toNat]? = some v) (k : Q v H) : rIxL K (.ref p) (.int i) H Q := ⟨p, xs, i, v, rfl, rfl, h, by
  have h1 := atI_nat e
  rw [Int.toNat_of_nonneg h0] at h1
  exact h1, k⟩
theorem r_ixTn {p : Addr} {xs : List V} {i : Int} (h : SqT K H p xs) (h0 : 0 ≤ i) (e : xs[i.toNat]? = some v) (k : Q v H) : rIxT K (.ref p) (.int i) H Q := ⟨p, xs, i, v, rfl, rfl, h, by
  have h1 := atI_nat e
  rw [Int.toNat_of_nonneg h0] at h1
  exact h1, k⟩
theorem tyL {l : Addr} {xs : List V} (h : H l = some (.lst xs)) : tyV K "list" (.ref l) H := .inl ⟨rfl, _, SqL.of h⟩
theorem r_append {l : Addr} {xs : List V} {y : V} (h : H l = some (.lst xs)) (hz : xs.length < sizeLine) (k : Q .non (upd H l (.lst (xs ++ [y])))) : rAppend (.ref l) [y] H Q := ⟨l, xs, y, rfl, rfl, h, hz, k⟩
theorem r_yes {Q : Bool → Hp → Prop} (h : Q true H) : tYes σ H Q := h
theorem r_all {p : Addr} {bs : List Bool} (h : SqL K H p (bs.map V.bl)) (k : Q (.bl (bs.all id)) H) : rAll K [.ref p] H Q := ⟨p, bs, rfl, h, k⟩
theorem r_pow {i j : Int} (c : CPow i j) (h : Q (.int (i ^ j.toNat)) H) : rI CPow (fun i j => .int (i ^ j.toNat)) (.int i) (.int j) H Q := ⟨i, j, rfl, rfl, c, h⟩
theorem r_mul {i j : Int} (c : CMul i j) (h : Q (.int (i * j)) H) : rI CMul (fun i j => .int (i * j)) (.int i) (.int j) H Q := ⟨i, j, rfl, rfl, c, h⟩
theorem r_ii {i j : Int} {R : Int → Int → Prop} (h : R i j) : ∃ a b, [V.int i, V.int j] = [.int a, .int b] ∧ R a b := ⟨i, j, rfl, h⟩
theorem r_i1 {i : Int} {R : Int → Prop} (h : R i) : ∃ a, [V.int i] = [.int a] ∧ R a := ⟨i, rfl, h⟩
theorem r_while (W : Nat → L2.St → Hp → Prop) (m0 : Nat) (h0 : W m0 σ H) (hs : ∀ m σ H, W m σ H → tt σ H fun b H1 => if b = true then ∃ Nx : L2.St → Hp → Prop, (∀ σ' H', Nx σ' H' → ∃ m', m' < m ∧ W m' σ' H') ∧ t { D with nx := Nx, ct := Nx, bk := D.nx } σ H1 else D.nx σ H1) : tWhile tt t D σ H := ⟨W, ⟨m0, h0⟩, hs⟩
theorem r_fld0 {f : Str} (h : ta σ H fun x H1 => ∃ a C dx fs v, x = .ref a ∧ H1 a = some (.ins C dx fs) ∧ Cls K C ∧ NoAttr K C f ∧ fs.lookup f = some v ∧ Q v H1) : tFld K ta f σ H Q := h
theorem r_fldV {p C dx : Addr} {fs : List (Str × V)} {f : Str} {R : V → Prop} (h : H p = some (.ins C dx fs)) (cl : Cls K C) (na : NoAttr K C f) (l : fs.lookup f = some v) (k : R v) : ∃ a C dx fs v, V.ref p = .ref a ∧ H a = some (.ins C dx fs) ∧ Cls K C ∧ NoAttr K C f ∧ fs.lookup f = some v ∧ R v := ⟨p, C, dx, fs, v, rfl, h, cl, na, l, k⟩
theorem r_obj {p C dx : Addr} {fs : List (Str × V)} {m : Str} {R : Prop} (h : H p = some (.ins C dx fs)) (l : fs.lookup m = none) (k : R) : ∃ a dx fs, V.ref p = .ref a ∧ H a = some (.ins C dx fs) ∧ fs.lookup m = none ∧ R := ⟨p, dx, fs, rfl, h, l, k⟩
theorem r_lenL {p : Addr} {ys : List V} {R : List V → Prop} (h : SqL K H p ys) (k : R ys) : ∃ q zs, [V.ref p] = [.ref q] ∧ (SqL K H q zs ∨ SqT K H q zs) ∧ R zs := ⟨p, ys, rfl, .inl h, k⟩
theorem r_lenT {p : Addr} {ys : List V} {R : List V → Prop} (h : SqT K H p ys) (k : R ys) : ∃ q zs, [V.ref p] = [.ref q] ∧ (SqL K H q zs ∨ SqT K H q zs) ∧ R zs := ⟨p, ys, rfl, .inr h, k⟩
theorem r_lenS {z : Str} {R : Str → Prop} (h : z.length ≤ sizeLine) (k : R z) : ∃ y, [V.str z] = [.str y] ∧ y.length ≤ sizeLine ∧ R y := ⟨z, rfl, h, k⟩
theorem r_sfld {tv : TE} {f : Str} (h : tv σ H fun y H1 => ta σ H1 fun x H2 => ∃ a C dx fs, x = .ref a ∧ H2 a = some (.ins C dx fs) ∧ Cls K C ∧ NoAttr K C f ∧ fs.length < 1000 ∧ D.nx σ (upd H2 a (.ins C dx (putF f y fs)))) : sFld K ta tv f D σ H := h
theorem r_sfldV {p C dx : Addr} {fs : List (Str × V)} {f : Str} {R : Addr → Addr → Addr → List (Str × V) → Prop} (h : H p = some (.ins C dx fs)) (cl : Cls K C) (na : NoAttr K C f) (l : fs.length < 1000) (k : R p C dx fs) : ∃ a C dx fs, V.ref p = .ref a ∧ H a = some (.ins C dx fs) ∧ Cls K C ∧ NoAttr K C f ∧ fs.length < 1000 ∧ R a C dx fs := ⟨p, C, dx, fs, rfl, h, cl, na, l, k⟩
theorem r_ss {y z : Str} {R : Str → Str → Prop} (h : R y z) : ∃ i j, V.str y = .str i ∧ V.str z = .str j ∧ R i j := ⟨y, z, rfl, rfl, h⟩
theorem r_ret (h : te σ H D.rt) : tRet te D σ H := h
theorem r_drop (h : te σ H fun _ H1 => D.nx σ H1) : tDrop te D σ H := h
theorem r_ifs (h : tt σ H fun b H1 => if b = true then t D σ H1 else u D σ H1) : tIfS tt t u D σ H := h
theorem r_var (e : σ[i]? = some (some v)) (h : Q v H) : tVar i σ H Q := ⟨v, e, h⟩
theorem r_c (h : Q v H) : tC v σ H Q := h
theorem r_op (h : ta σ H fun x H1 => tb σ H1 fun y H2 => r x y H2 Q) : tOp r ta tb σ H Q := h
theorem r_un {r : V → Hp → VK → Prop} (h : ta σ H fun x H1 => r x H1 Q) : tUn r ta σ H Q := h
theorem r_test {Q : Bool → Hp → Prop} (h : te σ H fun x H' => ∃ k, x = .bl k ∧ Q k H') : tTest te σ H Q := h
theorem r_B {Q : Bool → Hp → Prop} (h : te σ H fun x H' => ∃ k, x = .bl k ∧ Q k H') : tB te σ H Q := h
theorem r_bl {R : Bool → Prop} (h : R b) : ∃ k, V.bl b = .bl k ∧ R k := ⟨b, rfl, h⟩
theorem r_chain (h : ta σ H fun x H1 => tb σ H1 fun y H2 => r x y H2 fun z H3 => ∃ k, z = .bl k ∧ (if k = true then tc σ H3 fun w' H4 => r' y w' H4 Q else Q (.bl false) H3)) : tChain r r' ta tb tc σ H Q := h
theorem r_and {Q : Bool → Hp → Prop} (h : tt σ H fun c H1 => if c = true then tu σ H1 Q else Q false H1) : tAnd tt tu σ H Q := h
theorem r_or {Q : Bool → Hp → Prop} (h : tt σ H fun c H1 => if c = true then Q true H1 else tu σ H1 Q) : tOr tt tu σ H Q := h
theorem r_not {Q : Bool → Hp → Prop} (h : tt σ H fun c H1 => Q (!c) H1) : tNot tt σ H Q := h
theorem r_andV (h : ta σ H fun x H1 => ∃ c, x = .bl c ∧ if c = true then tb σ H1 Q else Q (.bl false) H1) : tAndV ta tb σ H Q := h
theorem r_orV (h : ta σ H fun x H1 => ∃ c, x = .bl c ∧ if c = true then Q (.bl true) H1 else tb σ H1 Q) : tOrV ta tb σ H Q := h
theorem r_notV (h : ta σ H fun x H1 => ∃ c, x = .bl c ∧ Q (.bl (!c)) H1) : tNotV ta σ H Q := h
theorem r_if (h : tt σ H fun c H1 => if c = true then ta σ H1 Q else tb σ H1 Q) : tIf tt ta tb σ H Q := h
theorem r_nil {Q : List V → Hp → Prop} (h : Q [] H) : tNil σ H Q := h
theorem r_cons {Q : List V → Hp → Prop} (h : ta σ H fun x H1 => tr σ H1 fun xs H2 => Q (x :: xs) H2) : tCons ta tr σ H Q := h
theorem r_tup (h : tr σ H fun xs H1 => xs.length ≤ sizeLine ∧ ∀ p, H1 p = none → Q (.ref p) (upd H1 p (.tup xs))) : tTup tr σ H Q := h
theorem r_lst (h : tr σ H fun xs H1 => xs.length ≤ sizeLine ∧ ∀ p, H1 p = none → Q (.ref p) (upd H1 p (.lst xs))) : tLst tr σ H Q := h
theorem r_cb {r : List V → Hp → VK → Prop} (h : tr σ H fun xs H1 => r xs H1 Q) : tCB r tr σ H Q := h
theorem r_call {sp : Sp} {E : L2.St → XK} (h : tr σ H fun vs H1 => sp vs H1 Q (E σ)) : tCallS sp E tr σ H Q := h
theorem r_I0 {f : Int → Int → V} {i j : Int} (h : Q (f i j) H) : rI0 f (.int i) (.int j) H Q := ⟨i, j, rfl, rfl, h⟩
theorem r_I {C : Int → Int → Prop} {f : Int → Int → V} {i j : Int} (c : C i j) (h : Q (f i j) H) : rI C f (.int i) (.int j) H Q := ⟨i, j, rfl, rfl, c, h⟩
theorem r_U {f : Int → V} {i : Int} (h : Q (f i) H) : rU f (.int i) H Q := ⟨i, rfl, h⟩
theorem r_eqI {i j : Int} (h : Q (.bl (decide (i = j))) H) : rEq (.int i) (.int j) H Q := ⟨rfl, by
  have e : decide (V.int i = V.int j) = decide (i = j) := by by_cases h : i = j <;> simp [h]
  rw [e]; exact h⟩
theorem r_neI {i j : Int} (h : Q (.bl (!decide (i = j))) H) : rNe (.int i) (.int j) H Q := ⟨rfl, by
  have e : decide (V.int i = V.int j) = decide (i = j) := by by_cases h : i = j <;> simp [h]
  rw [e]; exact h⟩
theorem r_eqS {i j : Str} (h : Q (.bl (decide (i = j))) H) : rEq (.str i) (.str j) H Q := ⟨rfl, by
  have e : decide (V.str i = V.str j) = decide (i = j) := by by_cases h : i = j <;> simp [h]
  rw [e]; exact h⟩
theorem r_neS {i j : Str} (h : Q (.bl (!decide (i = j))) H) : rNe (.str i) (.str j) H Q := ⟨rfl, by
  have e : decide (V.str i = V.str j) = decide (i = j) := by by_cases h : i = j <;> simp [h]
  rw [e]; exact h⟩
theorem r_eqB {i j : Bool} (h : Q (.bl (decide (i = j))) H) : rEq (.bl i) (.bl j) H Q := ⟨rfl, by
  have e : decide (V.bl i = V.bl j) = decide (i = j) := by by_cases h : i = j <;> simp [h]
  rw [e]; exact h⟩
theorem r_neB {i j : Bool} (h : Q (.bl (!decide (i = j))) H) : rNe (.bl i) (.bl j) H Q := ⟨rfl, by
  have e : decide (V.bl i = V.bl j) = decide (i = j) := by by_cases h : i = j <;> simp [h]
  rw [e]; exact h⟩
theorem r_ixL {p : Addr} {xs : List V} {i : Int} (h : SqL K H p xs) (e : atI xs i = some v) (k : Q v H) : rIxL K (.ref p) (.int i) H Q := ⟨p, xs, i, v, rfl, rfl, h, e, k⟩
theorem r_ixT {p : Addr} {xs : List V} {i : Int} (h : SqT K H p xs) (e : atI xs i = some v) (k : Q v H) : rIxT K (.ref p) (.int i) H Q := ⟨p, xs, i, v, rfl, rfl, h, e, k⟩
theorem r_ixS {s : Str} {i : Int} {c : Nat} (h : s.length ≤ sizeLine) (e : atI s.cps.toList i = some c) (k : Q (.str ⟨#[c]⟩) H) : rIxS (.str s) (.int i) H Q := ⟨s, i, c, rfl, rfl, h, e, k⟩
/-- a test that is decided -/
theorem b_dec {p : Prop} [Decidable p] (h1 : p → A) (h2 : ¬ p → B) : if decide p = true then A else B := by
  by_cases h : p
  · rw [if_pos (decide_eq_true h)]; exact h1 h
  · rw [if_neg (by simp [h])]; exact h2 h
theorem b_ndec {p : Prop} [Decidable p] (h1 : ¬ p → A) (h2 : p → B) : if (!decide p) = true then A else B := by
  by_cases h : p
  · rw [if_neg (by simp [h])]; exact h2 h
  · rw [if_pos (by simp [h])]; exact h1 h
theorem b_pos {p : Prop} [Decidable p] (h : p) (h1 : A) : if decide p = true then A else B := by rw [if_pos (decide_eq_true h)]; exact h1
theorem b_neg {p : Prop} [Decidable p] (h : ¬ p) (h2 : B) : if decide p = true then A else B := by rw [if_neg (by simp [h])]; exact h2
theorem b_npos {p : Prop} [Decidable p] (h : ¬ p) (h1 : A) : if (!decide p) = true then A else B := by rw [if_pos (by simp [h])]; exact h1
theorem b_nneg {p : Prop} [Decidable p] (h : p) (h2 : B) : if (!decide p) = true then A else B := by rw [if_neg (by simp [h])]; exact h2
theorem b_t (h : A) : if true = true then A else B := by rw [if_pos rfl]; exact h
theorem b_f (h : B) : if false = true then A else B := by rw [if_neg Bool.false_ne_true]; exact h
theorem b_nt (h : B) : if (!true) = true then A else B := by rw [if_neg (by decide)]; exact h
theorem b_nf (h : A) : if (!false) = true then A else B := by rw [if_pos (by decide)]; exact h
theorem b_any (h1 : b = true → A) (h2 : b = false → B) : if b = true then A else B := by
  cases b with
  | true => exact b_t (h1 rfl)
  | false => exact b_f (h2 rfl)
end
end Sk
namespace Sk
open PySem PySem.Spec PyProof.Rows L2

/-! ### heaps -/
theorem same_new {H : Hp} {p : Addr} {o : HO} (h : H p = none) : Same H (upd H p o) := fun b u e => by
  rw [upd_ne (ne_of_none e h)]
  exact e
theorem same_mut {H H' : Hp} {p : Addr} {o : HO} (s : Same H H') (h : H p = none) : Same H (upd H' p o) := fun b u e => by
  rw [upd_ne (ne_of_none e h)]
  exact s b u e
theorem sqT_same {K : PySem.W.Frag} {H H' : Hp} {a : Addr} {xs : List V} (e : Same H H') (h : SqT K H a xs) : SqT K H' a xs := by
  rcases h with (h | ⟨o, h⟩) | h
  · exact .inl (.inl (e _ _ h))
  · exact .inl (.inr ⟨o, e _ _ h⟩)
  · exact .inr h
theorem le_line {n : Nat} (h : n ≤ 16777216) : n ≤ sizeLine := h
theorem lt_line {n : Nat} (h : n < 16777216) : n < sizeLine := h

/-! ### data, deep -/
theorem canAll {ds : List PyData} (h : ∀ d ∈ ds, d.canLay0 = true) : PyData.canLayAll0 ds = true := by
  induction ds with
  | nil => rfl
  | cons d r ih =>
    unfold PyData.canLayAll0
    rw [h d (List.mem_cons_self), ih fun e he => h e (List.mem_cons_of_mem _ he)]
    rfl
theorem depthAll_le {ds : List PyData} {n : Nat} (h : ∀ d ∈ ds, d.depth ≤ n) : PyData.depthAll ds ≤ n := by
  induction ds with
  | nil => unfold PyData.depthAll; omega
  | cons d r ih =>
    have h1 := h d List.mem_cons_self
    have h2 := ih fun e he => h e (List.mem_cons_of_mem _ he)
    unfold PyData.depthAll
    omega
theorem shaped_of {d : PyData} (h : d.canLay0 = true) (h2 : d.depth ≤ 64) : SeqAt.shaped d = true := by
  unfold SeqAt.shaped
  rw [h, decide_eq_true h2]
  rfl
theorem shaped_list {ds : List PyData} (h : ∀ d ∈ ds, d.canLay0 = true ∧ d.depth ≤ 60) : SeqAt.shaped (.list ds) = true := by
  refine shaped_of ?_ ?_
  · unfold PyData.canLay0
    exact canAll fun d hd => (h d hd).1
  · have := depthAll_le fun d hd => (h d hd).2
    unfold PyData.depth
    omega
theorem shaped_tuple {ds : List PyData} (h : ∀ d ∈ ds, d.canLay0 = true ∧ d.depth ≤ 60) : SeqAt.shaped (.tuple ds) = true := by
  refine shaped_of ?_ ?_
  · unfold PyData.canLay0
    exact canAll fun d hd => (h d hd).1
  · have := depthAll_le fun d hd => (h d hd).2
    unfold PyData.depth
    omega
theorem eqv_same {d : PyData} (h : SeqAt.shaped d = true) : PyData.eqv d d = true := SeqAt.eqv_refl d (SeqAt.canLay_of_shaped h)
theorem dpAll_ints {K : PySem.W.Frag} {H : Hp} : ∀ (ns : List Int), DpAll K H (ns.map V.int) (ns.map PyData.int)
  | [] => .nil
  | n :: r => .cons (.int n) (dpAll_ints r)
section
variable {K : PySem.W.Frag} {H : Hp} {Q : VK} {x y : V}
/-- two alike things of data -/
theorem r_neD {d : PyData} (h1 : Dp K H x d) (h2 : Dp K H y d) (hs : SeqAt.shaped d = true) (k : Q (.bl false) H) : rNeD K x y H Q := ⟨d, d, h1, h2, hs, hs, by rw [eqv_same hs]; exact k⟩
theorem r_eqD {d : PyData} (h1 : Dp K H x d) (h2 : Dp K H y d) (hs : SeqAt.shaped d = true) (k : Q (.bl true) H) : rEqD K x y H Q := ⟨d, d, h1, h2, hs, hs, by rw [eqv_same hs]; exact k⟩
theorem dp_tup {a : Addr} {xs : List V} {ds : List PyData} (h : H a = some (.tup xs)) (hd : DpAll K H xs ds) : Dp K H (.ref a) (.tuple ds) := .tup (SqT.of h) hd
theorem dp_lst {a : Addr} {xs : List V} {ds : List PyData} (h : H a = some (.lst xs)) (hd : DpAll K H xs ds) : Dp K H (.ref a) (.list ds) := .lst (SqL.of h) hd
end

/-! ### the law's own promise -/
def spLaw (K : PySem.W.Frag) : Sp := fun vs H Q _ => ∃ (a : Addr) (ns : List Int), vs = [.ref a] ∧ SqL K H a (ns.map V.int) ∧ ns.length ≤ 63 ∧ ∀ H', Q (.bl true) H'
/-- an item of a list of ints -/
theorem int_at {ns : List Int} {i : Nat} {x : V} (h : (ns.map V.int)[i]? = some x) : ∃ n, ns[i]? = some n ∧ x = .int n := by
  rw [List.getElem?_map] at h
  cases e : ns[i]? with
  | none => rw [e] at h; cases h
  | some n => rw [e] at h; exact ⟨n, rfl, (Option.some.inj h).symm⟩
theorem lt_of_get {α : Type} {l : List α} {i : Nat} {x : α} (h : l[i]? = some x) : i < l.length := (List.getElem?_eq_some_iff.mp h).1
end Sk
namespace Sk
open PySem PySem.Spec PyProof.Rows L2
/-! ### what is walked, item by item -/
def YF (f : Nat → V) : Nat → Hp → V → Hp → Prop := fun i H x H' => H' = H ∧ x = f i
section
variable {K : PySem.W.Frag} {a b : Addr} {xs ys : List V}
theorem wk_list : Walk (Itl K a) xs.length (fun H => SqL K H a xs) (YF fun i => xs.getD i .non) :=
  walk_list.mono (fun _ h => h) fun i H x H' _ _ y => ⟨y.1, by show x = xs.getD i .non; rw [List.getD_eq_getElem?_getD, y.2]; rfl⟩
theorem wk_tup : Walk (Itt K a) xs.length (fun H => SqT K H a xs) (YF fun i => xs.getD i .non) :=
  walk_tup.mono (fun _ h => h) fun i H x H' _ _ y => ⟨y.1, by show x = xs.getD i .non; rw [List.getD_eq_getElem?_getD, y.2]; rfl⟩
theorem wk_range {lo : Int} {n : Nat} : Walk (Itr lo n) n (fun _ => True) (YF fun i => .int (lo + i)) := walk_range
/-- one sign -/
def sg1 (c : Nat) : Str := ⟨#[c]⟩
theorem wk_str {z : Str} : Walk (Its z) z.cps.toList.length (fun _ => True) (YF fun i => .str (sg1 (z.cps.toList.getD i 0))) := by
  have w := walk_str (z := z)
  have e : z.cps.toList.length = z.cps.size := Array.length_toList
  rw [e]
  refine w.mono (fun _ h => h) fun i H x H' _ _ y => ?_
  obtain ⟨y1, c, y2, y3⟩ := y
  refine ⟨y1, ?_⟩
  show x = V.str (sg1 (z.cps.toList.getD i 0))
  rw [y3, List.getD_eq_getElem?_getD, Array.getElem?_toList, y2]
  rfl
end
/-- the slots that stand for the block's own names are empty again -/
theorem lc_map {J : It} {n : Nat} {te : TE} {vs : List Nat} {σ : L2.St} {j : Nat} {H0 : Hp} {Q : Addr → Hp → Prop} {G : Hp → Prop} {xf : Nat → V} (w : Walk J n G (YF xf)) (v : Nat → V) (hG : ∀ H, Same H0 H → G H) (hn : n < 16777216) (hw : ∀ x, wipe (sset (wipe σ vs) j x) vs = wipe σ vs)
    (hs : ∀ i H, i < n → Same H0 H → ∀ Q' : VK, (∀ H4, Same H H4 → Q' (v i) H4) → te (sset (wipe σ vs) j (xf i)) H Q') (k : ∀ D H', H0 D = none → Same H0 H' → H' D = some (.lst ((List.range n).map v)) → Q D H') :
    ∀ D, H0 D = none → ∃ W : Nat → Nat → Hp → Prop, (∃ m, W 0 m (upd H0 D (.lst []))) ∧ ∀ i m H, W i m H →
      (J.stop i H ∧ Q D H) ∨ (J.go i H ∧ ∃ Nx : Hp → Prop, (∀ H', Nx H' → ∃ m', m' < m ∧ W (i + 1) m' H') ∧ ∀ x H', J.yld i H x H' → gName j x (wipe σ vs) H' fun σ2 H2 => wipe σ2 vs = wipe σ vs ∧ tYes σ2 H2 fun b H3 =>
        if b = true then te σ2 H3 fun y H4 => ∃ acc, H4 D = some (.lst acc) ∧ acc.length < sizeLine ∧ Nx (upd H4 D (.lst (acc ++ [y]))) else Nx H3) := fun D hD => by
  refine lc_it w (fun i H => Same H0 H ∧ H D = some (.lst ((List.range i).map v))) ⟨same_new hD, upd_same⟩ (fun i H _ p => hG H p.1) ?_ (fun H p => k D H hD p.1 p.2)
  rintro i x H H' hi ⟨p1, p2⟩ ⟨rfl, rfl⟩
  refine r_nm ⟨hw _, ?_⟩
  refine r_yes (b_t ?_)
  refine hs i _ hi p1 _ fun H4 s4 => ⟨_, s4 _ _ p2, lt_line (by simp; omega), same_mut (p1.trans s4) hD, ?_⟩
  rw [upd_same, List.range_succ, List.map_append]
  rfl
/-- a for whose turns leave what is known: the slots by the turn -/
theorem range_map_getD {α : Type} {d : α} (l : List α) : (List.range l.length).map (fun i => l.getD i d) = l := by
  refine List.ext_getElem (by simp) fun i h1 h2 => ?_
  simp only [List.length_map, List.length_range] at h1
  simp [List.getD_eq_getElem?_getD, h1]
theorem range_map_get {α β : Type} {d : α} (l : List α) (f : α → β) : (List.range l.length).map (fun i => f (l.getD i d)) = l.map f := by
  refine List.ext_getElem (by simp) fun i h1 h2 => ?_
  simp only [List.length_map, List.length_range] at h1
  simp [List.getD_eq_getElem?_getD, h1]
/-! ### texts -/
theorem str_len (z : Str) : z.length = z.cps.toList.length := Array.length_toList.symm
def ofL (l : List Nat) : Str := ⟨l.toArray⟩
theorem ofL_list (l : List Nat) : (ofL l).cps.toList = l := rfl
theorem ofL_toList (z : Str) : ofL z.cps.toList = z := by
  cases z
  rfl
theorem str_ext {y z : Str} (h : y.cps.toList = z.cps.toList) : y = z := by
  rw [← ofL_toList y, ← ofL_toList z, h]
theorem add_list {y z : Str} : (y ++ z).cps.toList = y.cps.toList ++ z.cps.toList := by
  show (y.cps ++ z.cps).toList = _
  exact Array.toList_append
end Sk
namespace Sk
open PySem PySem.Spec PyProof.Rows L2
/-! ### the shelf as data -/
inductive Pc where
  | leaf (z : List Nat)
  | fork (a b : Nat)
  deriving DecidableEq
/-- what is told of a text: its signs, its leaves, its height, its first and last leaf -/
structure Me where
  txt : List Nat
  lv : Nat
  ht : Int
  fi : Nat
  la : Nat
def M0 : Me := ⟨[], 0, -1, 0, 0⟩
structure Sh where
  ps : List Pc
  ms : List Me
abbrev Sh.n (s : Sh) : Nat := s.ps.length
def Sh.m (s : Sh) (t : Nat) : Me := s.ms.getD t M0
def Sh.mk1 (s : Sh) : Pc → Me
  | .leaf z => ⟨z, 1, 0, s.n + 1, s.n + 1⟩
  | .fork a b => ⟨(s.m a).txt ++ (s.m b).txt, (s.m a).lv + (s.m b).lv, 1 + max (s.m a).ht (s.m b).ht, (s.m a).fi, (s.m b).la⟩
def Sh.lay (s : Sh) (q : Pc) : Sh := ⟨s.ps ++ [q], s.ms ++ [s.mk1 q]⟩
def sh0 : Sh := ⟨[], [M0]⟩
def PlainC (c : Nat) : Prop := (32 ≤ c ∧ c ≤ 126) ∨ c = 10
def Plain (l : List Nat) : Prop := ∀ c ∈ l, PlainC c
def most : Nat := 1000000000000000000
/-- a piece that may be laid -/
def Sh.good (s : Sh) : Pc → Prop
  | .leaf z => Plain z ∧ 1 ≤ z.length ∧ z.length ≤ 8
  | .fork a b => (0 < a ∧ a ≤ s.n) ∧ (0 < b ∧ b ≤ s.n) ∧ 8 < (s.m (s.m a).la).txt.length + (s.m (s.m b).fi).txt.length ∧ (s.m a).ht - (s.m b).ht ≤ 1 ∧ (s.m b).ht - (s.m a).ht ≤ 1 ∧ (s.m a).txt.length + (s.m b).txt.length ≤ most
inductive Sh.Ok : Sh → Prop
  | nil : Sh.Ok sh0
  | lay {s : Sh} {q : Pc} (h : Sh.Ok s) (g : s.good q) (n : q ∉ s.ps) : Sh.Ok (s.lay q)
theorem Sh.Ok.len {s : Sh} (h : s.Ok) : s.ms.length = s.n + 1 := by
  induction h with
  | nil => rfl
  | lay h g n ih => simp [Sh.lay, Sh.n] at ih ⊢; exact ih
theorem Sh.Ok.m0 {s : Sh} (h : s.Ok) : s.m 0 = M0 := by
  induction h with
  | nil => rfl
  | lay h g n ih =>
    rename_i s q
    have hl := h.len
    unfold Sh.m at ih ⊢
    show (s.ms ++ [_]).getD 0 M0 = M0
    rw [List.getD_eq_getElem?_getD, List.getElem?_append_left (by omega), ← List.getD_eq_getElem?_getD]
    exact ih
theorem m_lay_lt {s : Sh} {q : Pc} {t : Nat} (hl : s.ms.length = s.n + 1) (h : t ≤ s.n) : (s.lay q).m t = s.m t := by
  unfold Sh.m Sh.lay
  rw [List.getD_eq_getElem?_getD, List.getD_eq_getElem?_getD, List.getElem?_append_left (by omega)]
theorem m_lay_eq {s : Sh} {q : Pc} (hl : s.ms.length = s.n + 1) : (s.lay q).m (s.n + 1) = s.mk1 q := by
  unfold Sh.m Sh.lay
  rw [List.getD_eq_getElem?_getD, List.getElem?_append_right (by omega), hl]
  simp
/-- what a piece is, and what is told of it -/
inductive Sh.At (s : Sh) (t : Nat) : Pc → Prop
  | leaf {z : List Nat} (e : s.ps[t - 1]? = some (.leaf z)) (p : Plain z) (l1 : 1 ≤ z.length) (l8 : z.length ≤ 8) (m : s.m t = ⟨z, 1, 0, t, t⟩) : Sh.At s t (.leaf z)
  | fork {a b : Nat} (e : s.ps[t - 1]? = some (.fork a b)) (a0 : 0 < a) (al : a < t) (b0 : 0 < b) (bl : b < t) (cl : 8 < (s.m (s.m a).la).txt.length + (s.m (s.m b).fi).txt.length)
      (h1 : (s.m a).ht - (s.m b).ht ≤ 1) (h2 : (s.m b).ht - (s.m a).ht ≤ 1) (sz : (s.m a).txt.length + (s.m b).txt.length ≤ most)
      (m : s.m t = ⟨(s.m a).txt ++ (s.m b).txt, (s.m a).lv + (s.m b).lv, 1 + max (s.m a).ht (s.m b).ht, (s.m a).fi, (s.m b).la⟩) : Sh.At s t (.fork a b)
/-- the first and last leaves are pieces ahead -/
theorem Sh.Ok.ends {s : Sh} (h : s.Ok) : ∀ t, 0 < t → t ≤ s.n → (0 < (s.m t).fi ∧ (s.m t).fi ≤ t) ∧ (0 < (s.m t).la ∧ (s.m t).la ≤ t) := by
  induction h with
  | nil =>
    intro t h0 h1
    simp [Sh.n, sh0] at h1
    omega
  | lay h g n ih =>
    rename_i s q
    intro t h0 h1
    have hl := h.len
    have e : (s.lay q).n = s.n + 1 := by simp [Sh.n, Sh.lay]
    by_cases ht : t ≤ s.n
    · rw [m_lay_lt hl ht]
      exact ih t h0 ht
    · obtain rfl : t = s.n + 1 := by omega
      rw [m_lay_eq hl]
      cases q with
      | leaf z => exact ⟨⟨Nat.succ_pos _, Nat.le_refl _⟩, ⟨Nat.succ_pos _, Nat.le_refl _⟩⟩
      | fork a b =>
        obtain ⟨⟨a0, al⟩, ⟨b0, bl⟩, _⟩ := g
        obtain ⟨⟨f1, f2⟩, _⟩ := ih a a0 al
        obtain ⟨_, ⟨l1, l2⟩⟩ := ih b b0 bl
        refine ⟨⟨f1, ?_⟩, ⟨l1, ?_⟩⟩
        · show (s.m a).fi ≤ s.n + 1
          omega
        · show (s.m b).la ≤ s.n + 1
          omega
theorem Sh.Ok.fi_le {s : Sh} (h : s.Ok) {t : Nat} (l : t ≤ s.n) : (s.m t).fi ≤ t := by
  by_cases e : 0 < t
  · exact (h.ends t e l).1.2
  · obtain rfl : t = 0 := by omega
    rw [h.m0]
    exact Nat.le_refl _
theorem Sh.Ok.la_le {s : Sh} (h : s.Ok) {t : Nat} (l : t ≤ s.n) : (s.m t).la ≤ t := by
  by_cases e : 0 < t
  · exact (h.ends t e l).2.2
  · obtain rfl : t = 0 := by omega
    rw [h.m0]
    exact Nat.le_refl _
theorem Sh.Ok.at_ {s : Sh} (h : s.Ok) : ∀ t, 0 < t → t ≤ s.n → ∃ q, s.At t q := by
  induction h with
  | nil =>
    intro t h0 h1
    simp [Sh.n, sh0] at h1
    omega
  | lay h g n ih =>
    rename_i s q
    intro t h0 h1
    have hl := h.len
    have e : (s.lay q).n = s.n + 1 := by simp [Sh.n, Sh.lay]
    by_cases ht : t ≤ s.n
    · obtain ⟨q', h'⟩ := ih t h0 ht
      refine ⟨q', ?_⟩
      have ep : ∀ {r : Pc}, s.ps[t - 1]? = some r → (s.lay q).ps[t - 1]? = some r := fun {r} e => by
        show (s.ps ++ [q])[t - 1]? = some r
        rw [List.getElem?_append_left (by show t - 1 < s.n; omega)]
        exact e
      cases h' with
      | leaf e p l1 l8 m => exact .leaf (ep e) p l1 l8 (by rw [m_lay_lt hl ht]; exact m)
      | @fork a b e a0 al b0 bl cl h1 h2 sz m =>
        have ea : (s.lay q).m a = s.m a := m_lay_lt hl (by omega)
        have eb : (s.lay q).m b = s.m b := m_lay_lt hl (by omega)
        refine .fork (ep e) a0 al b0 bl ?_ (by rw [ea, eb]; exact h1) (by rw [ea, eb]; exact h2) (by rw [ea, eb]; exact sz) (by rw [m_lay_lt hl ht, ea, eb]; exact m)
        rw [ea, eb, m_lay_lt hl (by have := h.la_le (t := a) (by omega); omega), m_lay_lt hl (by have := h.fi_le (t := b) (by omega); omega)]
        exact cl
    · obtain rfl : t = s.n + 1 := by omega
      have ep : (s.lay q).ps[s.n + 1 - 1]? = some q := by
        show (s.ps ++ [q])[s.n]? = some q
        rw [List.getElem?_append_right (Nat.le_refl _)]
        simp [Sh.n]
      cases q with
      | leaf z => exact ⟨_, .leaf ep g.1 g.2.1 g.2.2 (m_lay_eq hl)⟩
      | fork a b =>
        obtain ⟨⟨a0, al⟩, ⟨b0, bl⟩, cl, h1, h2, sz⟩ := g
        have ea : (s.lay (.fork a b)).m a = s.m a := m_lay_lt hl (by omega)
        have eb : (s.lay (.fork a b)).m b = s.m b := m_lay_lt hl (by omega)
        refine ⟨_, .fork ep a0 (by omega) b0 (by omega) ?_ (by rw [ea, eb]; exact h1) (by rw [ea, eb]; exact h2) (by rw [ea, eb]; exact sz) (by rw [m_lay_eq hl, ea, eb]; rfl)⟩
        rw [ea, eb, m_lay_lt hl (by have := h.la_le (t := a) (by omega); omega), m_lay_lt hl (by have := h.fi_le (t := b) (by omega); omega)]
        exact cl
/-- a piece's number, and the shelf behind -/
def Sh.put (s : Sh) (q : Pc) : Nat × Sh := if q ∈ s.ps then (s.ps.idxOf q + 1, s) else (s.n + 1, s.lay q)
theorem Sh.Ok.put {s : Sh} (h : s.Ok) {q : Pc} (g : s.good q) : (s.put q).2.Ok := by
  unfold Sh.put
  split
  · exact h
  · rename_i n
    exact .lay h g n
/-- more pieces -/
def Ext (s s' : Sh) : Prop := s.ps <+: s'.ps ∧ s.ms <+: s'.ms
theorem Ext.refl (s : Sh) : Ext s s := ⟨List.prefix_refl _, List.prefix_refl _⟩
theorem Ext.trans {a b c : Sh} (h : Ext a b) (k : Ext b c) : Ext a c := ⟨h.1.trans k.1, h.2.trans k.2⟩
theorem Ext.lay (s : Sh) (q : Pc) : Ext s (s.lay q) := ⟨List.prefix_append _ _, List.prefix_append _ _⟩
theorem Ext.put (s : Sh) (q : Pc) : Ext s (s.put q).2 := by
  unfold Sh.put
  split
  · exact Ext.refl s
  · exact Ext.lay s q
theorem Ext.n {s s' : Sh} (h : Ext s s') : s.n ≤ s'.n := h.1.length_le
theorem Ext.m {s s' : Sh} (h : Ext s s') (k : s.Ok) {t : Nat} (l : t ≤ s.n) : s'.m t = s.m t := by
  obtain ⟨_, r, e⟩ := h
  unfold Sh.m
  have := k.len
  rw [← e, List.getD_eq_getElem?_getD, List.getD_eq_getElem?_getD, List.getElem?_append_left (by omega)]
theorem Ext.p {s s' : Sh} (h : Ext s s') {t : Nat} (l : t < s.n) : s'.ps[t]? = s.ps[t]? := by
  obtain ⟨⟨r, e⟩, _⟩ := h
  rw [← e, List.getElem?_append_left l]
theorem put_pos (s : Sh) (q : Pc) : 0 < (s.put q).1 := by unfold Sh.put; split <;> exact Nat.succ_pos _
theorem put_le (s : Sh) (q : Pc) : (s.put q).1 ≤ (s.put q).2.n := by
  unfold Sh.put
  split
  · rename_i h
    exact List.idxOf_lt_length_of_mem h
  · simp [Sh.n, Sh.lay]
theorem put_n (s : Sh) (q : Pc) : (s.put q).2.n ≤ s.n + 1 := by
  unfold Sh.put
  split
  · exact Nat.le_succ _
  · simp [Sh.n, Sh.lay]
theorem put_p (s : Sh) (q : Pc) : (s.put q).2.ps[(s.put q).1 - 1]? = some q := by
  unfold Sh.put
  split
  · rename_i h
    show s.ps[s.ps.idxOf q]? = some q
    rw [List.getElem?_eq_getElem (List.idxOf_lt_length_of_mem h), List.getElem_idxOf]
  · show (s.ps ++ [q])[s.n]? = some q
    rw [List.getElem?_append_right (Nat.le_refl _)]
    simp [Sh.n]
theorem Sh.At.det {s : Sh} {t : Nat} {q : Pc} (h : s.At t q) : s.ps[t - 1]? = some q := by cases h <;> assumption
theorem Sh.Ok.at_p {s : Sh} (h : s.Ok) {t : Nat} {q : Pc} (t0 : 0 < t) (e : s.ps[t - 1]? = some q) : s.At t q := by
  have := (List.getElem?_eq_some_iff.mp e).1
  obtain ⟨q', a⟩ := h.at_ t t0 (by show t ≤ s.ps.length; omega)
  have e' := a.det
  rw [e] at e'
  cases e'
  exact a
/-- what is told of a piece just put -/
theorem put_at {s : Sh} (h : s.Ok) {q : Pc} (g : s.good q) : (s.put q).2.At (s.put q).1 q := (h.put g).at_p (put_pos s q) (put_p s q)
theorem Ext.at_ {s s' : Sh} (h : Ext s s') (k' : s'.Ok) {t : Nat} {q : Pc} (t0 : 0 < t) (a : s.At t q) : s'.At t q := by
  have e := a.det
  have := (List.getElem?_eq_some_iff.mp e).1
  exact k'.at_p t0 (by rw [h.p this]; exact e)
end Sk
namespace Sk
open PySem PySem.Spec PyProof.Rows L2
/-! ### where a shelf's parts stand -/
structure SA where
  dx : Addr
  pc : Addr
  nm : Addr
  sg : Addr
  en : Addr
  lv : Addr
  ht : Addr
  fi : Addr
  la : Addr
def SA.own (ad : SA) : List Addr := [ad.pc, ad.nm, ad.sg, ad.en, ad.lv, ad.ht, ad.fi, ad.la]
def flds (ad : SA) : List (Str × V) := [("pieces", .ref ad.pc), ("numbers", .ref ad.nm), ("told_signs", .ref ad.sg), ("told_ends", .ref ad.en), ("told_leaves", .ref ad.lv), ("told_heights", .ref ad.ht), ("firsts", .ref ad.fi), ("lasts", .ref ad.la)]
theorem lk_pieces (ad : SA) : (flds ad).lookup ("pieces" : Str) = some (V.ref ad.pc) := by kernel_rfl
theorem lk_numbers (ad : SA) : (flds ad).lookup ("numbers" : Str) = some (V.ref ad.nm) := by kernel_rfl
theorem lk_signs (ad : SA) : (flds ad).lookup ("told_signs" : Str) = some (V.ref ad.sg) := by kernel_rfl
theorem lk_ends (ad : SA) : (flds ad).lookup ("told_ends" : Str) = some (V.ref ad.en) := by kernel_rfl
theorem lk_leaves (ad : SA) : (flds ad).lookup ("told_leaves" : Str) = some (V.ref ad.lv) := by kernel_rfl
theorem lk_heights (ad : SA) : (flds ad).lookup ("told_heights" : Str) = some (V.ref ad.ht) := by kernel_rfl
theorem lk_firsts (ad : SA) : (flds ad).lookup ("firsts" : Str) = some (V.ref ad.fi) := by kernel_rfl
theorem lk_lasts (ad : SA) : (flds ad).lookup ("lasts" : Str) = some (V.ref ad.la) := by kernel_rfl
def shNames : List Str := ["pieces", "numbers", "told_signs", "told_ends", "told_leaves", "told_heights", "firsts", "lasts"]
theorem flds_no {ad : SA} {m : Str} (h : shNames.contains m = false) : (flds ad).lookup m = none := by
  unfold shNames at h
  simp only [List.contains_cons, Bool.or_eq_false_iff] at h
  obtain ⟨h1, h2, h3, h4, h5, h6, h7, h8, _⟩ := h
  unfold flds
  simp only [List.lookup, h1, h2, h3, h4, h5, h6, h7, h8]
/-- a piece as the tuple that tells it -/
def Pc.key : Pc → List Key
  | .leaf z => [.inr "leaf", .inr (ofL z)]
  | .fork a b => [.inr "fork", .inl a, .inl b]
def Pc.vals (q : Pc) : List V := q.key.map kV
theorem ofL_inj {a b : List Nat} (h : ofL a = ofL b) : a = b := congrArg (fun z : Str => z.cps.toList) h
theorem Pc.key_inj {q r : Pc} (h : q.key = r.key) : q = r := by
  cases q with
  | leaf z => cases r with
    | leaf y => simp [Pc.key] at h; rw [ofL_inj h]
    | fork a b => simp [Pc.key] at h
  | fork a b => cases r with
    | leaf y => simp [Pc.key] at h
    | fork c d => simp [Pc.key] at h; obtain ⟨h1, h2⟩ := h; rw [show a = c by omega, show b = d by omega]
/-- the dict of numbers -/
def kvsOf : Nat → List Pc → List (List Key × V)
  | _, [] => []
  | i, q :: r => (q.key, .int (i + 1 : Nat)) :: kvsOf (i + 1) r
theorem kvsOf_len : ∀ (i : Nat) (l : List Pc), (kvsOf i l).length = l.length
  | _, [] => rfl
  | i, _ :: r => congrArg Nat.succ (kvsOf_len (i + 1) r)
theorem kvsOf_snoc : ∀ (i : Nat) (l : List Pc) (q : Pc), kvsOf i (l ++ [q]) = kvsOf i l ++ [(q.key, .int (i + l.length + 1 : Nat))]
  | i, [], q => rfl
  | i, p :: r, q => by
    show (p.key, _) :: kvsOf (i + 1) (r ++ [q]) = _
    rw [kvsOf_snoc (i + 1) r q]
    simp [kvsOf]
    omega
theorem kvsOf_none : ∀ {i : Nat} {l : List Pc} {q : Pc}, q ∉ l → valV (kvsOf i l) q.key = none
  | _, [], _, _ => rfl
  | i, p :: r, q, h => by
    have h1 : ¬ p.key = q.key := fun e => h (by rw [Pc.key_inj e]; exact List.mem_cons_self)
    show valV ((p.key, _) :: kvsOf (i + 1) r) q.key = none
    rw [valV_neg (p := (p.key, _)) h1]
    exact kvsOf_none fun e => h (List.mem_cons_of_mem _ e)
theorem kvsOf_some : ∀ {i : Nat} {l : List Pc} {q : Pc}, q ∈ l → valV (kvsOf i l) q.key = some (.int (i + l.idxOf q + 1 : Nat))
  | i, p :: r, q, h => by
    show valV ((p.key, _) :: kvsOf (i + 1) r) q.key = _
    by_cases e : p = q
    · subst e
      rw [valV_pos (p := (p.key, _)) rfl]
      simp
    · have h1 : ¬ p.key = q.key := fun z => e (Pc.key_inj z)
      rw [valV_neg (p := (p.key, _)) h1]
      rcases List.mem_cons.mp h with z | z
      · exact absurd z.symm e
      · rw [kvsOf_some z, show (p :: r).idxOf q = r.idxOf q + 1 by rw [List.idxOf_cons, show (p == q) = false by simp [e]]; rfl]
        congr 2
        omega
def Me.sg (m : Me) : Int := m.txt.length
def Me.en (m : Me) : Int := m.txt.count 10
abbrev shC (K : PySem.W.Frag) : Addr := He.ga K "Shelf"
abbrev xc (K : PySem.W.Frag) (x : Str) : Value := .ref (He.ga K x)
/-- a shelf stands at p -/
structure ShelfAt (C : Addr) (H : Hp) (p : Addr) (ad : SA) (sh : Sh) : Prop where
  ob : H p = some (.ins C ad.dx (flds ad))
  pc : ∃ ts : List Addr, H ad.pc = some (.lst (.non :: ts.map V.ref)) ∧ ts.length = sh.n ∧ ∀ (i : Nat) (a : Addr) (q : Pc), ts[i]? = some a → sh.ps[i]? = some q → H a = some (.tup q.vals)
  nm : H ad.nm = some (.dT (kvsOf 0 sh.ps))
  sg : H ad.sg = some (.lst (sh.ms.map fun m => .int m.sg))
  en : H ad.en = some (.lst (sh.ms.map fun m => .int m.en))
  lv : H ad.lv = some (.lst (sh.ms.map fun m => .int m.lv))
  ht : H ad.ht = some (.lst (sh.ms.map fun m => .int m.ht))
  fi : H ad.fi = some (.lst (sh.ms.map fun m => .int m.fi))
  la : H ad.la = some (.lst (sh.ms.map fun m => .int m.la))
  nd : ad.own.Nodup
  ok : sh.Ok
/-- but for these all that stood stands -/
def Chg (S : List Addr) (H H' : Hp) : Prop := ∀ b o, H b = some o → b ∉ S → H' b = some o
theorem Chg.refl (S : List Addr) (H : Hp) : Chg S H H := fun _ _ h _ => h
theorem Chg.trans {S : List Addr} {H H1 H2 : Hp} (a : Chg S H H1) (b : Chg S H1 H2) : Chg S H H2 := fun x o h n => b x o (a x o h n) n
theorem Chg.mono {S S' : List Addr} {H H1 : Hp} (a : Chg S H H1) (h : ∀ x ∈ S, x ∈ S') : Chg S' H H1 := fun x o e n => a x o e fun z => n (h x z)
theorem chgS {S : List Addr} {H H1 : Hp} (a : Same H H1) : Chg S H H1 := fun x o h _ => a x o h
theorem Chg.upd {S : List Addr} {H H1 : Hp} {p : Addr} {o : HO} (a : Chg S H H1) (h : p ∈ S) : Chg S H (upd H1 p o) := fun x u e n => by
  rw [upd_ne (fun z => n (by rw [z]; exact h))]
  exact a x u e n
theorem ShelfAt.own_some {C p : Addr} {H : Hp} {ad : SA} {sh : Sh} (S : ShelfAt C H p ad sh) {a : Addr} (h : a ∈ ad.own) : ∃ o, H a = some o ∧ ((∃ xs, o = .lst xs) ∨ ∃ kvs, o = .dT kvs) := by
  obtain ⟨ts, h1, _⟩ := S.pc
  simp only [SA.own, List.mem_cons, List.not_mem_nil, or_false] at h
  rcases h with rfl | rfl | rfl | rfl | rfl | rfl | rfl | rfl
  · exact ⟨_, h1, .inl ⟨_, rfl⟩⟩
  · exact ⟨_, S.nm, .inr ⟨_, rfl⟩⟩
  · exact ⟨_, S.sg, .inl ⟨_, rfl⟩⟩
  · exact ⟨_, S.en, .inl ⟨_, rfl⟩⟩
  · exact ⟨_, S.lv, .inl ⟨_, rfl⟩⟩
  · exact ⟨_, S.ht, .inl ⟨_, rfl⟩⟩
  · exact ⟨_, S.fi, .inl ⟨_, rfl⟩⟩
  · exact ⟨_, S.la, .inl ⟨_, rfl⟩⟩
theorem ShelfAt.fresh {C p : Addr} {H : Hp} {ad : SA} {sh : Sh} (S : ShelfAt C H p ad sh) {a : Addr} (h : H a = none) : a ∉ ad.own := fun z => by
  obtain ⟨o, e, _⟩ := S.own_some z
  rw [h] at e
  cases e
theorem ShelfAt.no_tup {C p : Addr} {H : Hp} {ad : SA} {sh : Sh} (S : ShelfAt C H p ad sh) {a : Addr} {xs : List V} (h : H a = some (.tup xs)) : a ∉ ad.own := fun z => by
  obtain ⟨o, e, r⟩ := S.own_some z
  rw [h] at e
  cases e
  rcases r with ⟨_, r⟩ | ⟨_, r⟩ <;> cases r
theorem ShelfAt.no_ins {C p : Addr} {H : Hp} {ad : SA} {sh : Sh} (S : ShelfAt C H p ad sh) {a c d : Addr} {fs : List (Str × V)} (h : H a = some (.ins c d fs)) : a ∉ ad.own := fun z => by
  obtain ⟨o, e, r⟩ := S.own_some z
  rw [h] at e
  cases e
  rcases r with ⟨_, r⟩ | ⟨_, r⟩ <;> cases r
/-- what does not touch a shelf leaves it -/
theorem ShelfAt.chg {C p : Addr} {H H' : Hp} {ad : SA} {sh : Sh} {D : List Addr} (S : ShelfAt C H p ad sh) (h : Chg D H H') (d : ∀ a ∈ ad.own, a ∉ D) (hp : p ∉ D) (ht : ∀ a xs, H a = some (.tup xs) → a ∉ D) : ShelfAt C H' p ad sh := by
  have m : ∀ {a : Addr}, a ∈ ad.own → a ∉ D := fun {a} z => d a z
  obtain ⟨ts, h1, h2, h3⟩ := S.pc
  exact ⟨h _ _ S.ob hp, ⟨ts, h _ _ h1 (m (by simp [SA.own])), h2, fun i a q e1 e2 => h _ _ (h3 i a q e1 e2) (ht _ _ (h3 i a q e1 e2))⟩, h _ _ S.nm (m (by simp [SA.own])), h _ _ S.sg (m (by simp [SA.own])), h _ _ S.en (m (by simp [SA.own])),
    h _ _ S.lv (m (by simp [SA.own])), h _ _ S.ht (m (by simp [SA.own])), h _ _ S.fi (m (by simp [SA.own])), h _ _ S.la (m (by simp [SA.own])), S.nd, S.ok⟩
theorem ShelfAt.same {C p : Addr} {H H' : Hp} {ad : SA} {sh : Sh} (S : ShelfAt C H p ad sh) (h : Same H H') : ShelfAt C H' p ad sh := S.chg (D := []) (chgS h) (fun _ _ z => by cases z) (fun z => by cases z) (fun _ _ _ z => by cases z)
/-- a list that is none of the shelf's own changes -/
theorem ShelfAt.upd {C p : Addr} {H : Hp} {ad : SA} {sh : Sh} (S : ShelfAt C H p ad sh) {l : Addr} {xs : List V} {o : HO} (hl : H l = some (.lst xs)) (n : l ∉ ad.own) : ShelfAt C (upd H l o) p ad sh :=
  S.chg (D := [l]) ((Chg.refl _ H).upd (List.mem_cons_self)) (fun a z e => by simp only [List.mem_cons, List.not_mem_nil, or_false] at e; exact n (e ▸ z)) (fun e => by
    simp only [List.mem_cons, List.not_mem_nil, or_false] at e
    subst e
    rw [S.ob] at hl
    cases hl) (fun a ys h e => by
    simp only [List.mem_cons, List.not_mem_nil, or_false] at e
    subst e
    rw [h] at hl
    cases hl)
theorem ms_get {sh : Sh} (ok : sh.Ok) {t : Int} (h0 : 0 ≤ t) (h1 : t ≤ sh.n) (f : Me → V) : (sh.ms.map f)[t.toNat]? = some (f (sh.m t.toNat)) := by
  have hl := ok.len
  have : t.toNat < sh.ms.length := by omega
  unfold Sh.m
  rw [List.getElem?_map, List.getD_eq_getElem?_getD, List.getElem?_eq_getElem this]
  rfl
section
variable {K : PySem.W.Frag} {mg : Str → Option Value} {H : Hp} {C p : Addr} {ad : SA} {sh : Sh}
/-- a method of the shelf is looked up -/
theorem r_shO {m : Str} {R : Prop} {dx : Addr} (ob : H p = some (.ins C dx (flds ad))) (l : shNames.contains m = false) (k : R) : ∃ a dx fs, V.ref p = .ref a ∧ H a = some (.ins C dx fs) ∧ fs.lookup m = none ∧ R := r_obj ob (flds_no l) k
theorem r_sh {m : Str} {R : Prop} (S : ShelfAt C H p ad sh) (l : shNames.contains m = false) (k : R) : ∃ a dx fs, V.ref p = .ref a ∧ H a = some (.ins C dx fs) ∧ fs.lookup m = none ∧ R := r_obj S.ob (flds_no l) k
end
theorem SA.mem_pc (ad : SA) : ad.pc ∈ ad.own := by simp [SA.own]
theorem SA.mem_nm (ad : SA) : ad.nm ∈ ad.own := by simp [SA.own]
theorem SA.mem_sg (ad : SA) : ad.sg ∈ ad.own := by simp [SA.own]
theorem SA.mem_en (ad : SA) : ad.en ∈ ad.own := by simp [SA.own]
theorem SA.mem_lv (ad : SA) : ad.lv ∈ ad.own := by simp [SA.own]
theorem SA.mem_ht (ad : SA) : ad.ht ∈ ad.own := by simp [SA.own]
theorem SA.mem_fi (ad : SA) : ad.fi ∈ ad.own := by simp [SA.own]
theorem SA.mem_la (ad : SA) : ad.la ∈ ad.own := by simp [SA.own]
theorem SA.pc_nm {ad : SA} (h : ad.own.Nodup) : ad.pc ≠ ad.nm := fun e => by simp [SA.own, e] at h
theorem SA.nm_pc {ad : SA} (h : ad.own.Nodup) : ad.nm ≠ ad.pc := fun e => by simp [SA.own, e] at h
theorem SA.pc_sg {ad : SA} (h : ad.own.Nodup) : ad.pc ≠ ad.sg := fun e => by simp [SA.own, e] at h
theorem SA.sg_pc {ad : SA} (h : ad.own.Nodup) : ad.sg ≠ ad.pc := fun e => by simp [SA.own, e] at h
theorem SA.pc_en {ad : SA} (h : ad.own.Nodup) : ad.pc ≠ ad.en := fun e => by simp [SA.own, e] at h
theorem SA.en_pc {ad : SA} (h : ad.own.Nodup) : ad.en ≠ ad.pc := fun e => by simp [SA.own, e] at h
theorem SA.pc_lv {ad : SA} (h : ad.own.Nodup) : ad.pc ≠ ad.lv := fun e => by simp [SA.own, e] at h
theorem SA.lv_pc {ad : SA} (h : ad.own.Nodup) : ad.lv ≠ ad.pc := fun e => by simp [SA.own, e] at h
theorem SA.pc_ht {ad : SA} (h : ad.own.Nodup) : ad.pc ≠ ad.ht := fun e => by simp [SA.own, e] at h
theorem SA.ht_pc {ad : SA} (h : ad.own.Nodup) : ad.ht ≠ ad.pc := fun e => by simp [SA.own, e] at h
theorem SA.pc_fi {ad : SA} (h : ad.own.Nodup) : ad.pc ≠ ad.fi := fun e => by simp [SA.own, e] at h
theorem SA.fi_pc {ad : SA} (h : ad.own.Nodup) : ad.fi ≠ ad.pc := fun e => by simp [SA.own, e] at h
theorem SA.pc_la {ad : SA} (h : ad.own.Nodup) : ad.pc ≠ ad.la := fun e => by simp [SA.own, e] at h
theorem SA.la_pc {ad : SA} (h : ad.own.Nodup) : ad.la ≠ ad.pc := fun e => by simp [SA.own, e] at h
theorem SA.nm_sg {ad : SA} (h : ad.own.Nodup) : ad.nm ≠ ad.sg := fun e => by simp [SA.own, e] at h
theorem SA.sg_nm {ad : SA} (h : ad.own.Nodup) : ad.sg ≠ ad.nm := fun e => by simp [SA.own, e] at h
theorem SA.nm_en {ad : SA} (h : ad.own.Nodup) : ad.nm ≠ ad.en := fun e => by simp [SA.own, e] at h
theorem SA.en_nm {ad : SA} (h : ad.own.Nodup) : ad.en ≠ ad.nm := fun e => by simp [SA.own, e] at h
theorem SA.nm_lv {ad : SA} (h : ad.own.Nodup) : ad.nm ≠ ad.lv := fun e => by simp [SA.own, e] at h
theorem SA.lv_nm {ad : SA} (h : ad.own.Nodup) : ad.lv ≠ ad.nm := fun e => by simp [SA.own, e] at h
theorem SA.nm_ht {ad : SA} (h : ad.own.Nodup) : ad.nm ≠ ad.ht := fun e => by simp [SA.own, e] at h
theorem SA.ht_nm {ad : SA} (h : ad.own.Nodup) : ad.ht ≠ ad.nm := fun e => by simp [SA.own, e] at h
theorem SA.nm_fi {ad : SA} (h : ad.own.Nodup) : ad.nm ≠ ad.fi := fun e => by simp [SA.own, e] at h
theorem SA.fi_nm {ad : SA} (h : ad.own.Nodup) : ad.fi ≠ ad.nm := fun e => by simp [SA.own, e] at h
theorem SA.nm_la {ad : SA} (h : ad.own.Nodup) : ad.nm ≠ ad.la := fun e => by simp [SA.own, e] at h
theorem SA.la_nm {ad : SA} (h : ad.own.Nodup) : ad.la ≠ ad.nm := fun e => by simp [SA.own, e] at h
theorem SA.sg_en {ad : SA} (h : ad.own.Nodup) : ad.sg ≠ ad.en := fun e => by simp [SA.own, e] at h
theorem SA.en_sg {ad : SA} (h : ad.own.Nodup) : ad.en ≠ ad.sg := fun e => by simp [SA.own, e] at h
theorem SA.sg_lv {ad : SA} (h : ad.own.Nodup) : ad.sg ≠ ad.lv := fun e => by simp [SA.own, e] at h
theorem SA.lv_sg {ad : SA} (h : ad.own.Nodup) : ad.lv ≠ ad.sg := fun e => by simp [SA.own, e] at h
theorem SA.sg_ht {ad : SA} (h : ad.own.Nodup) : ad.sg ≠ ad.ht := fun e => by simp [SA.own, e] at h
theorem SA.ht_sg {ad : SA} (h : ad.own.Nodup) : ad.ht ≠ ad.sg := fun e => by simp [SA.own, e] at h
theorem SA.sg_fi {ad : SA} (h : ad.own.Nodup) : ad.sg ≠ ad.fi := fun e => by simp [SA.own, e] at h
theorem SA.fi_sg {ad : SA} (h : ad.own.Nodup) : ad.fi ≠ ad.sg := fun e => by simp [SA.own, e] at h
theorem SA.sg_la {ad : SA} (h : ad.own.Nodup) : ad.sg ≠ ad.la := fun e => by simp [SA.own, e] at h
theorem SA.la_sg {ad : SA} (h : ad.own.Nodup) : ad.la ≠ ad.sg := fun e => by simp [SA.own, e] at h
theorem SA.en_lv {ad : SA} (h : ad.own.Nodup) : ad.en ≠ ad.lv := fun e => by simp [SA.own, e] at h
theorem SA.lv_en {ad : SA} (h : ad.own.Nodup) : ad.lv ≠ ad.en := fun e => by simp [SA.own, e] at h
theorem SA.en_ht {ad : SA} (h : ad.own.Nodup) : ad.en ≠ ad.ht := fun e => by simp [SA.own, e] at h
theorem SA.ht_en {ad : SA} (h : ad.own.Nodup) : ad.ht ≠ ad.en := fun e => by simp [SA.own, e] at h
theorem SA.en_fi {ad : SA} (h : ad.own.Nodup) : ad.en ≠ ad.fi := fun e => by simp [SA.own, e] at h
theorem SA.fi_en {ad : SA} (h : ad.own.Nodup) : ad.fi ≠ ad.en := fun e => by simp [SA.own, e] at h
theorem SA.en_la {ad : SA} (h : ad.own.Nodup) : ad.en ≠ ad.la := fun e => by simp [SA.own, e] at h
theorem SA.la_en {ad : SA} (h : ad.own.Nodup) : ad.la ≠ ad.en := fun e => by simp [SA.own, e] at h
theorem SA.lv_ht {ad : SA} (h : ad.own.Nodup) : ad.lv ≠ ad.ht := fun e => by simp [SA.own, e] at h
theorem SA.ht_lv {ad : SA} (h : ad.own.Nodup) : ad.ht ≠ ad.lv := fun e => by simp [SA.own, e] at h
theorem SA.lv_fi {ad : SA} (h : ad.own.Nodup) : ad.lv ≠ ad.fi := fun e => by simp [SA.own, e] at h
theorem SA.fi_lv {ad : SA} (h : ad.own.Nodup) : ad.fi ≠ ad.lv := fun e => by simp [SA.own, e] at h
theorem SA.lv_la {ad : SA} (h : ad.own.Nodup) : ad.lv ≠ ad.la := fun e => by simp [SA.own, e] at h
theorem SA.la_lv {ad : SA} (h : ad.own.Nodup) : ad.la ≠ ad.lv := fun e => by simp [SA.own, e] at h
theorem SA.ht_fi {ad : SA} (h : ad.own.Nodup) : ad.ht ≠ ad.fi := fun e => by simp [SA.own, e] at h
theorem SA.fi_ht {ad : SA} (h : ad.own.Nodup) : ad.fi ≠ ad.ht := fun e => by simp [SA.own, e] at h
theorem SA.ht_la {ad : SA} (h : ad.own.Nodup) : ad.ht ≠ ad.la := fun e => by simp [SA.own, e] at h
theorem SA.la_ht {ad : SA} (h : ad.own.Nodup) : ad.la ≠ ad.ht := fun e => by simp [SA.own, e] at h
theorem SA.fi_la {ad : SA} (h : ad.own.Nodup) : ad.fi ≠ ad.la := fun e => by simp [SA.own, e] at h
theorem SA.la_fi {ad : SA} (h : ad.own.Nodup) : ad.la ≠ ad.fi := fun e => by simp [SA.own, e] at h
/-- a shelf as it stands, part by part -/
structure Raw (C : Addr) (H : Hp) (p : Addr) (ad : SA) (ts : List Addr) (ps : List Pc) (sg en lv ht fi la : List V) : Prop where
  ob : H p = some (.ins C ad.dx (flds ad))
  pc : H ad.pc = some (.lst (.non :: ts.map V.ref))
  tn : ts.length = ps.length
  tp : ∀ (i : Nat) (a : Addr) (q : Pc), ts[i]? = some a → ps[i]? = some q → H a = some (.tup q.vals)
  nm : H ad.nm = some (.dT (kvsOf 0 ps))
  sg : H ad.sg = some (.lst sg)
  en : H ad.en = some (.lst en)
  lv : H ad.lv = some (.lst lv)
  ht : H ad.ht = some (.lst ht)
  fi : H ad.fi = some (.lst fi)
  la : H ad.la = some (.lst la)
theorem ShelfAt.raw {C p : Addr} {H : Hp} {ad : SA} {sh : Sh} (S : ShelfAt C H p ad sh) : ∃ ts, Raw C H p ad ts sh.ps (sh.ms.map fun m => .int m.sg) (sh.ms.map fun m => .int m.en) (sh.ms.map fun m => .int m.lv) (sh.ms.map fun m => .int m.ht) (sh.ms.map fun m => .int m.fi) (sh.ms.map fun m => .int m.la) := by
  obtain ⟨ts, h1, h2, h3⟩ := S.pc
  exact ⟨ts, S.ob, h1, h2, h3, S.nm, S.sg, S.en, S.lv, S.ht, S.fi, S.la⟩
theorem Raw.to {C p : Addr} {H : Hp} {ad : SA} {sh : Sh} {ts : List Addr} {sg en lv ht fi la : List V} (R : Raw C H p ad ts sh.ps sg en lv ht fi la) (h1 : sg = sh.ms.map fun m => .int m.sg) (h2 : en = sh.ms.map fun m => .int m.en) (h3 : lv = sh.ms.map fun m => .int m.lv)
    (h4 : ht = sh.ms.map fun m => .int m.ht) (h5 : fi = sh.ms.map fun m => .int m.fi) (h6 : la = sh.ms.map fun m => .int m.la) (nd : ad.own.Nodup) (ok : sh.Ok) : ShelfAt C H p ad sh := by
  subst h1 h2 h3 h4 h5 h6
  exact ⟨R.ob, ⟨ts, R.pc, R.tn, R.tp⟩, R.nm, R.sg, R.en, R.lv, R.ht, R.fi, R.la, nd, ok⟩
/-- one list of the shelf's own grows, the heap behind as a letter -/
def But (l : Addr) (H H' : Hp) : Prop := ∀ b, b ≠ l → H' b = H b
theorem But.chg {l : Addr} {S : List Addr} {H0 H H' : Hp} (b : But l H H') (c : Chg S H0 H) (h : l ∈ S) : Chg S H0 H' := fun a o e n => by
  rw [b a (fun z => n (by rw [z]; exact h))]
  exact c a o e n
theorem r_appendA {H : Hp} {Q : VK} {l : Addr} {xs : List V} {y : V} (h : H l = some (.lst xs)) (hz : xs.length < sizeLine) (k : ∀ H', H' l = some (.lst (xs ++ [y])) → But l H H' → Q .non H') : rAppend (.ref l) [y] H Q := r_append h hz (k _ upd_same fun b hb => upd_ne hb)
end Sk
namespace Sk
open PySem PySem.Spec PyProof.Rows L2
/-! ### things: values with what they hold; what is owned stands in a store of its own -/
inductive D where
  | non | bl (b : Bool) | int (i : Int) | str (z : List Nat) | ty (n : String) | ref (a : Addr)
  | lst (ds : List D) | tup (ds : List D) | scr (ds : List D)
inductive Ob where
  | lst (ds : List D)
  | dK (kvs : List (Key × D))
  | dT (kvs : List (List Key × D))
  | ins (C dx : Addr) (fs : List (Str × D))
  | xd (fs : List (Str × D))
  | shf (ad : SA) (sh : Sh)
abbrev Ah := Addr → Option Ob
def Ob.priv : Ob → List Addr
  | .shf ad _ => ad.own
  | _ => []
def aup (s : Ah) (a : Addr) (o : Ob) : Ah := fun b => if b = a then some o else s b
theorem aup_same {s : Ah} {a : Addr} {o : Ob} : aup s a o a = some o := by unfold aup; rw [if_pos rfl]
theorem aup_ne {s : Ah} {a b : Addr} {o : Ob} (h : b ≠ a) : aup s a o b = s b := by unfold aup; rw [if_neg h]
theorem aup_aup {s : Ah} {a : Addr} {o u : Ob} : aup (aup s a o) a u = aup s a u := by funext b; unfold aup; split <;> rfl
theorem aup_swap {s : Ah} {a b : Addr} {o u : Ob} (h : a ≠ b) : aup (aup s a o) b u = aup (aup s b u) a o := by
  funext x
  unfold aup
  by_cases h1 : x = a
  · subst h1; rw [if_neg h, if_pos rfl, if_pos rfl]
  · by_cases h2 : x = b
    · subst h2; rw [if_pos rfl, if_neg h1, if_pos rfl]
    · rw [if_neg h2, if_neg h1, if_neg h1, if_neg h2]
theorem aup_id {s : Ah} {a : Addr} {o : Ob} (h : s a = some o) : aup s a o = s := by
  funext b
  unfold aup
  split
  · rename_i e; rw [e, h]
  · rfl
def Own (s : Ah) (x : Addr) : Prop := ∃ a o, s a = some o ∧ (x = a ∨ x ∈ o.priv)
/-- what no data touches: what is owned, and what is kept aside -/
def Ow (Z : Addr → Prop) (s : Ah) (x : Addr) : Prop := Own s x ∨ Z x
/-- the script, wherever it stands -/
def ScrAt (K : PySem.W.Frag) (H : Hp) (N : Addr → Prop) (a : Addr) (xs : List V) : Prop :=
  (Rd H a (.lst xs) ∧ ¬ N a) ∨ ∃ (o : Obj) (its : Array Value) (n : Nat), K.lookup a = some o ∧ o.cls = .type "list" ∧ o.dict = none ∧ o.data = .seq its n ∧ its.size ≤ sizeLine ∧ Vals xs its.toList
mutual
/-- a thing is told by a value -/
inductive Rp (K : PySem.W.Frag) (H : Hp) (N : Addr → Prop) : D → V → Prop
  | non : Rp K H N .non .non
  | bl (b : Bool) : Rp K H N (.bl b) (.bl b)
  | int (i : Int) : Rp K H N (.int i) (.int i)
  | str (z : List Nat) : Rp K H N (.str z) (.str (ofL z))
  | ty (n : String) : Rp K H N (.ty n) (.ty n)
  | ref (a : Addr) : Rp K H N (.ref a) (.ref a)
  | lst {p : Addr} {vs : List V} {ds : List D} (h : H p = some (.lst vs)) (n : ¬ N p) (r : Rps K H N ds vs) : Rp K H N (.lst ds) (.ref p)
  | tup {p : Addr} {vs : List V} {ds : List D} (h : H p = some (.tup vs)) (n : ¬ N p) (r : Rps K H N ds vs) : Rp K H N (.tup ds) (.ref p)
  | scr {p : Addr} {vs : List V} {ds : List D} (h : ScrAt K H N p vs) (r : Rps K H N ds vs) : Rp K H N (.scr ds) (.ref p)
inductive Rps (K : PySem.W.Frag) (H : Hp) (N : Addr → Prop) : List D → List V → Prop
  | nil : Rps K H N [] []
  | cons {d : D} {v : V} {ds : List D} {vs : List V} (h : Rp K H N d v) (t : Rps K H N ds vs) : Rps K H N (d :: ds) (v :: vs)
end
/-- what stood and was nobody's stands and is nobody's -/
def Fr (H : Hp) (s : Ah) (H' : Hp) (s' : Ah) : Prop := ∀ p u, H p = some u → ¬ Own s p → H' p = some u ∧ ¬ Own s' p
theorem Fr.refl (H : Hp) (s : Ah) : Fr H s H s := fun _ _ h n => ⟨h, n⟩
theorem Fr.trans {H H1 H2 : Hp} {s s1 s2 : Ah} (a : Fr H s H1 s1) (b : Fr H1 s1 H2 s2) : Fr H s H2 s2 := fun p u h n => let ⟨h1, n1⟩ := a p u h n; b p u h1 n1
section
variable {K : PySem.W.Frag} {Z : Addr → Prop} {H H' : Hp} {s s' : Ah}
theorem Fr.z {Z : Addr → Prop} (f : Fr H s H' s') {p : Addr} {u : HO} (h : H p = some u) (n : ¬ Ow Z s p) : H' p = some u ∧ ¬ Ow Z s' p := by
  obtain ⟨h1, n1⟩ := f p u h fun z => n (.inl z)
  exact ⟨h1, fun z => z.elim n1 fun z => n (.inr z)⟩
/-- what no data touches is let alone -/
def Frn (H : Hp) (N : Addr → Prop) (H' : Hp) (N' : Addr → Prop) : Prop := ∀ p u, H p = some u → ¬ N p → H' p = some u ∧ ¬ N' p
theorem Fr.n {Z : Addr → Prop} (f : Fr H s H' s') : Frn H (Ow Z s) H' (Ow Z s') := fun _ _ h n => f.z h n
theorem Frn.refl (H : Hp) (N : Addr → Prop) : Frn H N H N := fun _ _ h n => ⟨h, n⟩
theorem Frn.trans {H H1 H2 : Hp} {N N1 N2 : Addr → Prop} (a : Frn H N H1 N1) (b : Frn H1 N1 H2 N2) : Frn H N H2 N2 := fun p u h n => let ⟨h1, n1⟩ := a p u h n; b p u h1 n1
theorem ScrAt.gen {N N' : Addr → Prop} {a : Addr} {xs : List V} (f : Frn H N H' N') (h : ScrAt K H N a xs) : ScrAt K H' N' a xs := by
  rcases h with ⟨h | ⟨o, h⟩, n⟩ | h
  · obtain ⟨h1, n1⟩ := f _ _ h n
    exact .inl ⟨.inl h1, n1⟩
  · obtain ⟨h1, n1⟩ := f _ _ h n
    exact .inl ⟨.inr ⟨o, h1⟩, n1⟩
  · exact .inr h
theorem ScrAt.fr {a : Addr} {xs : List V} (f : Fr H s H' s') (h : ScrAt K H (Ow Z s) a xs) : ScrAt K H' (Ow Z s') a xs := h.gen f.n
theorem ScrAt.sq {N : Addr → Prop} {a : Addr} {xs : List V} (h : ScrAt K H N a xs) : SqL K H a xs := by
  rcases h with ⟨h, _⟩ | h
  · exact .inl h
  · exact .inr h
mutual
theorem Rp.gen {N N' : Addr → Prop} (f : Frn H N H' N') : ∀ {d : D} {v : V}, Rp K H N d v → Rp K H' N' d v
  | _, _, .non => .non
  | _, _, .bl b => .bl b
  | _, _, .int i => .int i
  | _, _, .str z => .str z
  | _, _, .ty n => .ty n
  | _, _, .ref a => .ref a
  | _, _, .lst h n r => .lst (f _ _ h n).1 (f _ _ h n).2 (Rps.gen f r)
  | _, _, .tup h n r => .tup (f _ _ h n).1 (f _ _ h n).2 (Rps.gen f r)
  | _, _, .scr h r => .scr (h.gen f) (Rps.gen f r)
theorem Rps.gen {N N' : Addr → Prop} (f : Frn H N H' N') : ∀ {ds : List D} {vs : List V}, Rps K H N ds vs → Rps K H' N' ds vs
  | _, _, .nil => .nil
  | _, _, .cons h t => .cons (Rp.gen f h) (Rps.gen f t)
end
theorem Rp.fr (f : Fr H s H' s') {d : D} {v : V} (h : Rp K H (Ow Z s) d v) : Rp K H' (Ow Z s') d v := h.gen f.n
theorem Rps.fr (f : Fr H s H' s') {ds : List D} {vs : List V} (h : Rps K H (Ow Z s) ds vs) : Rps K H' (Ow Z s') ds vs := h.gen f.n
theorem Rps.len {N : Addr → Prop} : ∀ {ds : List D} {vs : List V}, Rps K H N ds vs → ds.length = vs.length
  | _, _, .nil => rfl
  | _, _, .cons _ t => congrArg Nat.succ (Rps.len t)
theorem Rps.get {N : Addr → Prop} : ∀ {ds : List D} {vs : List V} {i : Nat} {d : D}, Rps K H N ds vs → ds[i]? = some d → ∃ v, vs[i]? = some v ∧ Rp K H N d v
  | _, _, _, _, .nil, e => by simp at e
  | _, _, 0, _, .cons h _, e => by simp at e; subst e; exact ⟨_, rfl, h⟩
  | _, _, i + 1, _, .cons _ t, e => by
    obtain ⟨v, h1, h2⟩ := Rps.get (i := i) t (by simpa using e)
    exact ⟨v, by simpa using h1, h2⟩
theorem Rps.get' {N : Addr → Prop} {ds : List D} {vs : List V} {i : Nat} {v : V} (r : Rps K H N ds vs) (e : vs[i]? = some v) : ∃ d, ds[i]? = some d ∧ Rp K H N d v := by
  have hl : i < ds.length := by rw [r.len]; exact lt_of_get e
  obtain ⟨w, h1, h2⟩ := r.get (List.getElem?_eq_getElem hl)
  rw [e] at h1
  cases h1
  exact ⟨_, List.getElem?_eq_getElem hl, h2⟩
theorem Rps.app {N : Addr → Prop} : ∀ {ds es : List D} {vs ws : List V}, Rps K H N ds vs → Rps K H N es ws → Rps K H N (ds ++ es) (vs ++ ws)
  | _, _, _, _, .nil, r => r
  | _, _, _, _, .cons h t, r => .cons h (Rps.app t r)
theorem Rps.one {N : Addr → Prop} {d : D} {v : V} (h : Rp K H N d v) : Rps K H N [d] [v] := .cons h .nil
theorem Rps.drop {N : Addr → Prop} : ∀ {ds : List D} {vs : List V} (n : Nat), Rps K H N ds vs → Rps K H N (ds.drop n) (vs.drop n)
  | _, _, 0, r => r
  | _, _, _ + 1, .nil => .nil
  | _, _, n + 1, .cons _ t => Rps.drop n t
theorem Rps.take {N : Addr → Prop} : ∀ {ds : List D} {vs : List V} (n : Nat), Rps K H N ds vs → Rps K H N (ds.take n) (vs.take n)
  | _, _, 0, _ => .nil
  | _, _, _ + 1, .nil => .nil
  | _, _, n + 1, .cons h t => .cons h (Rps.take n t)
theorem Rps.set {N : Addr → Prop} {d : D} {v : V} (h : Rp K H N d v) : ∀ {ds : List D} {vs : List V} (i : Nat), Rps K H N ds vs → Rps K H N (ds.set i d) (vs.set i v)
  | _, _, _, .nil => .nil
  | _, _, 0, .cons _ t => .cons h t
  | _, _, i + 1, .cons g t => .cons g (Rps.set h i t)
theorem Rps.eraseIdx {N : Addr → Prop} : ∀ {ds : List D} {vs : List V} (i : Nat), Rps K H N ds vs → Rps K H N (ds.eraseIdx i) (vs.eraseIdx i)
  | _, _, _, .nil => .nil
  | _, _, 0, .cons _ t => t
  | _, _, i + 1, .cons g t => .cons g (Rps.eraseIdx i t)
theorem Rps.rev {N : Addr → Prop} : ∀ {ds : List D} {vs : List V}, Rps K H N ds vs → Rps K H N ds.reverse vs.reverse
  | _, _, .nil => .nil
  | _, _, .cons h t => by
    rw [List.reverse_cons, List.reverse_cons]
    exact (Rps.rev t).app (.one h)
theorem Rps.dropLast {N : Addr → Prop} {ds : List D} {vs : List V} (r : Rps K H N ds vs) : Rps K H N ds.dropLast vs.dropLast := by
  rw [List.dropLast_eq_take, List.dropLast_eq_take, r.len]
  exact r.take _
theorem Rps.rep {N : Addr → Prop} {ds : List D} {vs : List V} (r : Rps K H N ds vs) : ∀ n : Nat, Rps K H N (List.replicate n ds).flatten (List.replicate n vs).flatten
  | 0 => .nil
  | n + 1 => by
    rw [List.replicate_succ, List.replicate_succ, List.flatten_cons, List.flatten_cons]
    exact r.app (Rps.rep r n)
end
/-- pairs of a dict -/
abbrev Rkv {κ : Type} (K : PySem.W.Frag) (H : Hp) (N : Addr → Prop) : List (κ × D) → List (κ × V) → Prop := Paired fun p q => p.1 = q.1 ∧ Rp K H N p.2 q.2
/-- what is owned, as it stands -/
def RO (K : PySem.W.Frag) (H : Hp) (N : Addr → Prop) (a : Addr) : Ob → Prop
  | .lst ds => ∃ vs, H a = some (.lst vs) ∧ Rps K H N ds vs
  | .dK kvs => ∃ ws, H a = some (.dK ws) ∧ Rkv K H N kvs ws
  | .dT kvs => ∃ ws, H a = some (.dT ws) ∧ Rkv K H N kvs ws
  | .ins C dx fs => ∃ gs, H a = some (.ins C dx gs) ∧ Rkv K H N fs gs
  | .xd fs => ∃ gs, H a = some (.xd gs) ∧ Rkv K H N fs gs
  | .shf ad sh => ShelfAt (shC K) H a ad sh
def notTup : HO → Prop
  | .tup _ => False
  | _ => True
structure Rep (K : PySem.W.Frag) (Z : Addr → Prop) (H : Hp) (s : Ah) : Prop where
  zed : ∀ x, Z x → (∃ u, H x = some u ∧ notTup u) ∧ ¬ Own s x
  at_ : ∀ a o, s a = some o → RO K H (Ow Z s) a o
  dis : ∀ a b o u, s a = some o → s b = some u → a ≠ b → b ∉ o.priv ∧ ∀ x ∈ o.priv, x ∉ u.priv
section
variable {K : PySem.W.Frag} {Z : Addr → Prop} {H H' : Hp} {s s' : Ah}
theorem Rkv.gen {κ : Type} {N N' : Addr → Prop} {kvs : List (κ × D)} {ws : List (κ × V)} (f : Frn H N H' N') (r : Rkv K H N kvs ws) : Rkv K H' N' kvs ws := by
  induction r with
  | nil => exact .nil
  | cons h _ ih => exact .cons ⟨h.1, h.2.gen f⟩ ih
theorem Rkv.fr {κ : Type} {kvs : List (κ × D)} {ws : List (κ × V)} (f : Fr H s H' s') (r : Rkv K H (Ow Z s) kvs ws) : Rkv K H' (Ow Z s') kvs ws := Rkv.gen f.n r
theorem RO.stands {N : Addr → Prop} {a : Addr} {o : Ob} (h : RO K H N a o) : ∃ u, H a = some u ∧ notTup u := by
  cases o with
  | lst ds => obtain ⟨vs, e, _⟩ := h; exact ⟨_, e, trivial⟩
  | dK ds => obtain ⟨vs, e, _⟩ := h; exact ⟨_, e, trivial⟩
  | dT ds => obtain ⟨vs, e, _⟩ := h; exact ⟨_, e, trivial⟩
  | ins C dx fs => obtain ⟨vs, e, _⟩ := h; exact ⟨_, e, trivial⟩
  | xd fs => obtain ⟨vs, e, _⟩ := h; exact ⟨_, e, trivial⟩
  | shf ad sh => exact ⟨_, h.ob, trivial⟩
theorem RO.priv {N : Addr → Prop} {a : Addr} {o : Ob} (h : RO K H N a o) {x : Addr} (hx : x ∈ o.priv) : ∃ u, H x = some u ∧ notTup u := by
  cases o with
  | shf ad sh =>
    obtain ⟨u, e, r⟩ := ShelfAt.own_some h hx
    refine ⟨u, e, ?_⟩
    rcases r with ⟨_, rfl⟩ | ⟨_, rfl⟩ <;> trivial
  | _ => cases hx
theorem Rep.tracked (R : Rep K Z H s) {x : Addr} (h : Own s x) : ∃ u, H x = some u ∧ notTup u := by
  obtain ⟨a, o, e, h⟩ := h
  rcases h with rfl | h
  · exact (R.at_ _ _ e).stands
  · exact (R.at_ _ _ e).priv h
theorem Rep.fresh0 (R : Rep K Z H s) {x : Addr} (h : H x = none) : ¬ Own s x := fun z => by
  obtain ⟨u, e, _⟩ := R.tracked z
  rw [h] at e
  cases e
theorem Rep.fresh (R : Rep K Z H s) {x : Addr} (h : H x = none) : ¬ Ow Z s x := fun z => by
  rcases z with z | z
  · exact R.fresh0 h z
  · obtain ⟨⟨u, e, _⟩, _⟩ := R.zed x z
    rw [h] at e
    cases e
theorem Rep.no (R : Rep K Z H s) {x : Addr} (h : H x = none) : s x = none := by
  cases e : s x with
  | none => rfl
  | some o => exact absurd ⟨x, o, e, .inl rfl⟩ (R.fresh0 h)
/-- an own thing stays where its own addresses do -/
theorem RO.gen {N N' : Addr → Prop} {a : Addr} {o : Ob} (f : Frn H N H' N') (h : RO K H N a o) (k : ∀ x, x = a ∨ x ∈ o.priv → H' x = H x) (kt : ∀ x xs, H x = some (.tup xs) → H' x = some (.tup xs)) : RO K H' N' a o := by
  cases o with
  | lst ds => obtain ⟨vs, e, r⟩ := h; exact ⟨vs, by rw [k a (.inl rfl)]; exact e, r.gen f⟩
  | dK ds => obtain ⟨vs, e, r⟩ := h; exact ⟨vs, by rw [k a (.inl rfl)]; exact e, Rkv.gen f r⟩
  | dT ds => obtain ⟨vs, e, r⟩ := h; exact ⟨vs, by rw [k a (.inl rfl)]; exact e, Rkv.gen f r⟩
  | ins C dx fs => obtain ⟨vs, e, r⟩ := h; exact ⟨vs, by rw [k a (.inl rfl)]; exact e, Rkv.gen f r⟩
  | xd fs => obtain ⟨vs, e, r⟩ := h; exact ⟨vs, by rw [k a (.inl rfl)]; exact e, Rkv.gen f r⟩
  | shf ad sh =>
    have S : ShelfAt (shC K) H a ad sh := h
    obtain ⟨ts, h1, h2, h3⟩ := S.pc
    have m : ∀ {x : Addr}, x ∈ ad.own → H' x = H x := fun {x} z => k x (.inr z)
    exact ⟨by rw [k a (.inl rfl)]; exact S.ob, ⟨ts, by rw [m (SA.mem_pc ad)]; exact h1, h2, fun i x q e1 e2 => kt _ _ (h3 i x q e1 e2)⟩, by rw [m (SA.mem_nm ad)]; exact S.nm, by rw [m (SA.mem_sg ad)]; exact S.sg, by rw [m (SA.mem_en ad)]; exact S.en,
      by rw [m (SA.mem_lv ad)]; exact S.lv, by rw [m (SA.mem_ht ad)]; exact S.ht, by rw [m (SA.mem_fi ad)]; exact S.fi, by rw [m (SA.mem_la ad)]; exact S.la, S.nd, S.ok⟩
theorem RO.move {a : Addr} {o : Ob} (f : Fr H s H' s') (h : RO K H (Ow Z s) a o) (k : ∀ x, x = a ∨ x ∈ o.priv → H' x = H x) (kt : ∀ x xs, H x = some (.tup xs) → H' x = some (.tup xs)) : RO K H' (Ow Z s') a o := h.gen f.n k kt
/-- more things stand -/
theorem Rep.same (R : Rep K Z H s) (e : Same H H') : Rep K Z H' s ∧ Fr H s H' s := by
  have f : Fr H s H' s := fun p u h n => ⟨e _ _ h, n⟩
  refine ⟨⟨fun x z => ⟨let ⟨⟨u, h, nu⟩, _⟩ := R.zed x z; ⟨u, e _ _ h, nu⟩, (R.zed x z).2⟩, fun a o h => (R.at_ a o h).move f (fun x hx => ?_) fun x xs h => e _ _ h, R.dis⟩, f⟩
  obtain ⟨u, hu, _⟩ := R.tracked ⟨a, o, h, hx⟩
  rw [hu, e _ _ hu]
/-- one own thing changes, or comes -/
theorem Rep.set (R : Rep K Z H s) {a : Addr} {o : Ob} (k : ∀ x u, H x = some u → x ≠ a → x ∉ o.priv → H' x = some u) (hn : (∃ o0, s a = some o0 ∧ o0.priv = o.priv) ∨ (H a = none ∧ ∀ x ∈ o.priv, H x = none))
    (ro : Fr H s H' (aup s a o) → RO K H' (Ow Z (aup s a o)) a o) : Rep K Z H' (aup s a o) ∧ Fr H s H' (aup s a o) := by
  have own : ∀ x, Own (aup s a o) x → Own s x ∨ x = a ∨ x ∈ o.priv := by
    rintro x ⟨b, u, e, h⟩
    by_cases hb : b = a
    · subst hb
      rw [aup_same] at e
      cases e
      exact .inr h
    · rw [aup_ne hb] at e
      exact .inl ⟨b, u, e, h⟩
  have mine : ∀ x u, H x = some u → ¬ Own s x → x ≠ a ∧ x ∉ o.priv := by
    intro x u hx nx
    rcases hn with ⟨o0, e0, ep⟩ | ⟨h1, h2⟩
    · refine ⟨fun z => nx ⟨a, o0, e0, .inl z⟩, fun z => nx ⟨a, o0, e0, .inr (by rw [ep]; exact z)⟩⟩
    · refine ⟨fun z => ?_, fun z => ?_⟩
      · subst z; rw [h1] at hx; cases hx
      · rw [h2 x z] at hx; cases hx
  have f : Fr H s H' (aup s a o) := fun p u h n => by
    obtain ⟨h1, h2⟩ := mine p u h n
    refine ⟨k p u h h1 h2, fun z => ?_⟩
    rcases own p z with z | z | z
    · exact n z
    · exact h1 z
    · exact h2 z
  -- the others' addresses are none of mine
  have apart : ∀ b u, s b = some u → b ≠ a → ∀ x, x = b ∨ x ∈ u.priv → x ≠ a ∧ x ∉ o.priv := by
    intro b u e hb x hx
    rcases hn with ⟨o0, e0, ep⟩ | ⟨h1, h2⟩
    · have d1 := R.dis b a u o0 e e0 hb
      have d2 := R.dis a b o0 u e0 e (Ne.symm hb)
      rw [ep] at d1 d2
      rcases hx with rfl | hx
      · exact ⟨hb, d2.1⟩
      · exact ⟨fun z => d1.1 (z ▸ hx), d1.2 x hx⟩
    · obtain ⟨w, hw, _⟩ := R.tracked ⟨b, u, e, hx⟩
      refine ⟨fun z => ?_, fun z => ?_⟩
      · subst z; rw [h1] at hw; cases hw
      · rw [h2 x z] at hw; cases hw
  have tups : ∀ x xs, H x = some (.tup xs) → H' x = some (.tup xs) := by
    intro x xs hx
    have : ¬ Own s x := fun z => by
      obtain ⟨u, e, nt⟩ := R.tracked z
      rw [hx] at e
      cases e
      exact nt
    exact (f _ _ hx this).1
  refine ⟨⟨fun x z => ?_, fun b u e => ?_, fun b c u w e1 e2 hbc => ?_⟩, f⟩
  · obtain ⟨⟨u, h, nu⟩, n⟩ := R.zed x z
    obtain ⟨h1, n1⟩ := f x u h n
    exact ⟨⟨u, h1, nu⟩, n1⟩
  · by_cases hb : b = a
    · subst hb
      rw [aup_same] at e
      cases e
      exact ro f
    · rw [aup_ne hb] at e
      refine (R.at_ b u e).move f (fun x hx => ?_) tups
      obtain ⟨h1, h2⟩ := apart b u e hb x hx
      obtain ⟨w, hw, _⟩ := R.tracked ⟨b, u, e, hx⟩
      rw [hw, k x w hw h1 h2]
  · by_cases hb : b = a
    · subst hb
      rw [aup_same] at e1
      cases e1
      rw [aup_ne (Ne.symm hbc)] at e2
      refine ⟨(apart c w e2 (Ne.symm hbc) c (.inl rfl)).2, fun x hx z => (apart c w e2 (Ne.symm hbc) x (.inr z)).2 hx⟩
    · rw [aup_ne hb] at e1
      by_cases hc : c = a
      · subst hc
        rw [aup_same] at e2
        cases e2
        exact ⟨fun z => (apart b u e1 hb c (.inr z)).1 rfl, fun x hx => (apart b u e1 hb x (.inr hx)).2⟩
      · rw [aup_ne hc] at e2
        exact R.dis b c u w e1 e2 hbc
/-- some are let go -/
theorem Rep.less (R : Rep K Z H s) (l : ∀ a o, s' a = some o → s a = some o) : Rep K Z H s' ∧ Fr H s H s' := by
  have ow : ∀ x, Own s' x → Own s x := fun x ⟨a, o, e, h⟩ => ⟨a, o, l a o e, h⟩
  have f : Fr H s H s' := fun p u h n => ⟨h, fun z => n (ow p z)⟩
  exact ⟨⟨fun x z => ⟨(R.zed x z).1, fun o => (R.zed x z).2 (ow x o)⟩, fun a o e => (R.at_ a o (l a o e)).move f (fun _ _ => rfl) fun _ _ h => h, fun a b o u e1 e2 => R.dis a b o u (l _ _ e1) (l _ _ e2)⟩, f⟩
/-- an address is kept aside -/
theorem Rep.aside (R : Rep K Z H s) {p : Addr} {u : HO} (h : H p = none) (nu : notTup u) : Rep K (fun x => Z x ∨ x = p) (upd H p u) s ∧ Frn H (Ow Z s) (upd H p u) (Ow (fun x => Z x ∨ x = p) s) := by
  have f : Frn H (Ow Z s) (upd H p u) (Ow (fun x => Z x ∨ x = p) s) := fun q w hq n => by
    have ne := ne_of_none hq h
    refine ⟨by rw [upd_ne ne]; exact hq, fun z => ?_⟩
    rcases z with z | z | z
    · exact n (.inl z)
    · exact n (.inr z)
    · exact ne z
  refine ⟨⟨fun x z => ?_, fun a o e => (R.at_ a o e).gen f (fun x hx => ?_) fun x xs hx => by rw [upd_ne (ne_of_none hx h)]; exact hx, R.dis⟩, f⟩
  · rcases z with z | z
    · obtain ⟨⟨w, hw, nw⟩, n⟩ := R.zed x z
      exact ⟨⟨w, by rw [upd_ne (ne_of_none hw h)]; exact hw, nw⟩, n⟩
    · subst z
      exact ⟨⟨u, upd_same, nu⟩, R.fresh0 h⟩
  · obtain ⟨w, hw, _⟩ := R.tracked ⟨a, o, e, hx⟩
    rw [upd_ne (ne_of_none hw h)]
/-- what is kept aside changes -/
theorem Rep.turn (R : Rep K Z H s) {p : Addr} {u u0 : HO} (z : Z p) (h0 : H p = some u0) (nt : notTup u0) (nu : notTup u) : Rep K Z (upd H p u) s ∧ Frn H (Ow Z s) (upd H p u) (Ow Z s) := by
  have f : Frn H (Ow Z s) (upd H p u) (Ow Z s) := fun q w hq n => ⟨by
    have ne : q ≠ p := fun e => n (.inr (by rw [e]; exact z))
    rw [upd_ne ne]; exact hq, n⟩
  refine ⟨⟨fun x zx => ?_, fun a o e => (R.at_ a o e).gen f (fun x hx => ?_) fun x xs hx => ?_, R.dis⟩, f⟩
  · obtain ⟨⟨w, hw, nw⟩, n⟩ := R.zed x zx
    by_cases hp : x = p
    · subst hp; exact ⟨⟨u, upd_same, nu⟩, n⟩
    · exact ⟨⟨w, by rw [upd_ne hp]; exact hw, nw⟩, n⟩
  · have ne : x ≠ p := fun e2 => (R.zed p z).2 (by rw [← e2]; exact ⟨a, o, e, hx⟩)
    rw [upd_ne ne]
  · have ne : x ≠ p := fun e2 => by subst e2; rw [h0] at hx; cases hx; exact nt
    rw [upd_ne ne]
    exact hx
/-- fewer are kept aside -/
theorem Rep.fewer {Z' : Addr → Prop} (R : Rep K Z' H s) (l : ∀ x, Z x → Z' x) : Rep K Z H s ∧ Frn H (Ow Z' s) H (Ow Z s) := by
  have f : Frn H (Ow Z' s) H (Ow Z s) := fun q w hq n => ⟨hq, fun z => z.elim (fun z => n (.inl z)) fun z => n (.inr (l q z))⟩
  exact ⟨⟨fun x z => R.zed x (l x z), fun a o e => (R.at_ a o e).gen f (fun _ _ => rfl) fun _ _ h => h, R.dis⟩, f⟩
/-- a new thing of data -/
theorem Rep.new (R : Rep K Z H s) {p : Addr} {u : HO} (h : H p = none) : Rep K Z (upd H p u) s ∧ Fr H s (upd H p u) s ∧ ¬ Ow Z s p := by
  obtain ⟨a, b⟩ := R.same (same_new (o := u) h)
  exact ⟨a, b, R.fresh h⟩
end
end Sk
namespace Sk
open PySem PySem.Spec PyProof.Rows L2
/-! ### readings over things -/
abbrev ASt := List (Option D)
abbrev AVK := D → Ah → Prop
abbrev AX := Value → Option Addr → Ah → Prop
abbrev ATE := ASt → Ah → AVK → AX → Prop
abbrev ATT := ASt → Ah → (Bool → Ah → Prop) → AX → Prop
abbrev ATA := ASt → Ah → (List D → Ah → Prop) → AX → Prop
structure AEnds where
  nx : ASt → Ah → Prop
  rt : AVK
  bk : ASt → Ah → Prop
  ct : ASt → Ah → Prop
  ex : Value → Option Addr → ASt → Ah → Prop
abbrev ATS := AEnds → ASt → Ah → Prop
def RSl (K : PySem.W.Frag) (H : Hp) (N : Addr → Prop) (as : ASt) (σ : L2.St) : Prop := ∀ (i : Nat) (d : D), as[i]? = some (some d) → ∃ v, σ[i]? = some (some v) ∧ Rp K H N d v
structure Rst (K : PySem.W.Frag) (Z : Addr → Prop) (σ : L2.St) (H : Hp) (as : ASt) (s : Ah) : Prop where
  rep : Rep K Z H s
  sl : RSl K H (Ow Z s) as σ
  len : as.length = σ.length
section
variable {K : PySem.W.Frag} {σ : L2.St} {H H' : Hp} {as : ASt} {s s' : Ah}
theorem Rst.fr (R : Rst K Z σ H as s) (R' : Rep K Z H' s') (f : Fr H s H' s') : Rst K Z σ H' as s' := ⟨R', fun i d e => let ⟨v, h1, h2⟩ := R.sl i d e; ⟨v, h1, h2.fr f⟩, R.len⟩
theorem Rst.set (R : Rst K Z σ H as s) {d : D} {v : V} (r : Rp K H (Ow Z s) d v) (i : Nat) : Rst K Z (σ.set i (some v)) H (as.set i (some d)) s := by
  refine ⟨R.rep, fun j e h => ?_, by rw [List.length_set, List.length_set]; exact R.len⟩
  by_cases hij : i = j
  · subst hij
    by_cases hl : i < as.length
    · rw [List.getElem?_set_self hl] at h
      cases h
      exact ⟨v, by rw [List.getElem?_set_self (by rw [← R.len]; exact hl)], r⟩
    · rw [List.getElem?_eq_none (by rw [List.length_set]; omega)] at h
      cases h
  · rw [List.getElem?_set_ne hij] at h
    obtain ⟨w, h1, h2⟩ := R.sl j e h
    exact ⟨w, by rw [List.getElem?_set_ne hij]; exact h1, h2⟩
end
/-- what follows, told by things and by values -/
def Lnk (K : PySem.W.Frag) (Z : Addr → Prop) (H : Hp) (s : Ah) (Q : AVK) (Qc : VK) : Prop := ∀ d s' v H', Rep K Z H' s' → Rp K H' (Ow Z s') d v → Fr H s H' s' → Q d s' → Qc v H'
def LnkX (K : PySem.W.Frag) (Z : Addr → Prop) (W : WX) (σ : L2.St) (H : Hp) (s : Ah) (E : AX) : Prop := ∀ c od s' H', Rep K Z H' s' → Fr H s H' s' → E c od s' → W c od σ H'
def concE (K : PySem.W.Frag) (W : WX) (a : ATE) : TE := fun σ H Qc => ∃ Z as s Q E, Rst K Z σ H as s ∧ a as s Q E ∧ Lnk K Z H s Q Qc ∧ LnkX K Z W σ H s E
def concT (K : PySem.W.Frag) (W : WX) (a : ATT) : TT := fun σ H Qc => ∃ Z as s Q E, Rst K Z σ H as s ∧ a as s Q E ∧ (∀ b s' H', Rep K Z H' s' → Fr H s H' s' → Q b s' → Qc b H') ∧ LnkX K Z W σ H s E
def concA (K : PySem.W.Frag) (W : WX) (a : ATA) : TA := fun σ H Qc => ∃ Z as s Q E, Rst K Z σ H as s ∧ a as s Q E ∧ (∀ ds s' vs H', Rep K Z H' s' → Rps K H' (Ow Z s') ds vs → Fr H s H' s' → Q ds s' → Qc vs H') ∧ LnkX K Z W σ H s E
structure LnkS (K : PySem.W.Frag) (Z : Addr → Prop) (W : WX) (H : Hp) (s : Ah) (A : AEnds) (C : Ends) : Prop where
  nx : ∀ as' s' σ' H', Rst K Z σ' H' as' s' → Fr H s H' s' → A.nx as' s' → C.nx σ' H'
  rt : Lnk K Z H s A.rt C.rt
  bk : ∀ as' s' σ' H', Rst K Z σ' H' as' s' → Fr H s H' s' → A.bk as' s' → C.bk σ' H'
  ct : ∀ as' s' σ' H', Rst K Z σ' H' as' s' → Fr H s H' s' → A.ct as' s' → C.ct σ' H'
  ex : ∀ c od as' s' σ' H', Rst K Z σ' H' as' s' → Fr H s H' s' → A.ex c od as' s' → W c od σ' H'
def concS (K : PySem.W.Frag) (W : WX) (a : ATS) : TS := fun C σ H => ∃ Z A as s, Rst K Z σ H as s ∧ a A as s ∧ LnkS K Z W H s A C
structure AE (X : Cx) (W : WX) (e : Expr) (a : ATE) : Prop where
  pe : PE X e (concE X.K W a)
structure AT (X : Cx) (W : WX) (e : Expr) (a : ATT) : Prop where
  pt : PT X e (concT X.K W a)
structure AW (X : Cx) (W : WX) (e : Expr) (a : ATT) : Prop where
  pw : PW X e (concT X.K W a)
structure AA (X : Cx) (W : WX) (es : List Expr) (a : ATA) : Prop where
  pa : PA X es (concA X.K W a)
structure AS (X : Cx) (W : WX) (st : Stmt) (a : ATS) : Prop where
  ps : PS X st (concS X.K W a)
structure ASs (X : Cx) (W : WX) (st : List Stmt) (a : ATS) : Prop where
  pss : PSs X st (concS X.K W a)
section
variable {X : Cx} {e : Expr} {es : List Expr} {st : Stmt} {sts : List Stmt}
theorem weakE {t t' : TE} (h : PE X e t) (k : ∀ σ H Q, t' σ H Q → t σ H Q) : PE X e t' := ⟨fun pins s σ H Q I q => h.run pins s σ H Q I (k σ H Q q)⟩
theorem weakT {t t' : TT} (h : PT X e t) (k : ∀ σ H Q, t' σ H Q → t σ H Q) : PT X e t' := ⟨fun pins s σ H Q I q => h.run pins s σ H Q I (k σ H Q q)⟩
theorem weakW {t t' : TT} (h : PW X e t) (k : ∀ σ H Q, t' σ H Q → t σ H Q) : PW X e t' := ⟨fun wh pins s σ H Q I q => h.run wh pins s σ H Q I (k σ H Q q)⟩
theorem weakA {t t' : TA} (h : PA X es t) (k : ∀ σ H Q, t' σ H Q → t σ H Q) : PA X es t' := ⟨fun pos pins s σ H Q I q => h.run pos pins s σ H Q I (k σ H Q q)⟩
theorem weakS {t t' : TS} (h : PS X st t) (k : ∀ D σ H, t' D σ H → t D σ H) : PS X st t' := ⟨fun pins s σ H D I q => h.run pins s σ H D I (k D σ H q)⟩
theorem weakSs {t t' : TS} (h : PSs X sts t) (k : ∀ D σ H, t' D σ H → t D σ H) : PSs X sts t' := ⟨fun pins s σ H D I q => h.run pins s σ H D I (k D σ H q)⟩
end
section
variable {K : PySem.W.Frag} {W : WX} {σ : L2.St} {H H1 : Hp} {s s1 : Ah} {Q : AVK} {Qc : VK} {E : AX}
theorem Lnk.here (L : Lnk K Z H s Q Qc) (R : Rep K Z H s) {d : D} {v : V} (r : Rp K H (Ow Z s) d v) (q : Q d s) : Qc v H := L d s v H R r (Fr.refl H s) q
theorem LnkX.fr (L : LnkX K Z W σ H s E) (f : Fr H s H1 s1) : LnkX K Z W σ H1 s1 E := fun c od s' H' R f' q => L c od s' H' R (f.trans f') q
theorem Lnk.fr (L : Lnk K Z H s Q Qc) (f : Fr H s H1 s1) : Lnk K Z H1 s1 Q Qc := fun d s' v H' R r f' q => L d s' v H' R r (f.trans f') q
/-- one after another -/
theorem conc_bind {a : ATE} {as : ASt} {E : AX} (R : Rst K Z σ H as s) (L : LnkX K Z W σ H s E) {Q1 : AVK} (q : a as s Q1 E) {Qc1 : VK}
    (k : ∀ d s' v H', Rst K Z σ H' as s' → Rp K H' (Ow Z s') d v → Fr H s H' s' → LnkX K Z W σ H' s' E → Q1 d s' → Qc1 v H') : concE K W a σ H Qc1 :=
  ⟨Z, as, s, Q1, E, R, q, fun d s' v H' R' r f q' => k d s' v H' (R.fr R' f) r f (L.fr f) q', L⟩
theorem conc_bindT {a : ATT} {as : ASt} {E : AX} (R : Rst K Z σ H as s) (L : LnkX K Z W σ H s E) {Q1 : Bool → Ah → Prop} (q : a as s Q1 E) {Qc1 : Bool → Hp → Prop}
    (k : ∀ b s' H', Rst K Z σ H' as s' → Fr H s H' s' → LnkX K Z W σ H' s' E → Q1 b s' → Qc1 b H') : concT K W a σ H Qc1 :=
  ⟨Z, as, s, Q1, E, R, q, fun b s' H' R' f q' => k b s' H' (R.fr R' f) f (L.fr f) q', L⟩
theorem conc_bindA {a : ATA} {as : ASt} {E : AX} (R : Rst K Z σ H as s) (L : LnkX K Z W σ H s E) {Q1 : List D → Ah → Prop} (q : a as s Q1 E) {Qc1 : List V → Hp → Prop}
    (k : ∀ ds s' vs H', Rst K Z σ H' as s' → Rps K H' (Ow Z s') ds vs → Fr H s H' s' → LnkX K Z W σ H' s' E → Q1 ds s' → Qc1 vs H') : concA K W a σ H Qc1 :=
  ⟨Z, as, s, Q1, E, R, q, fun ds s' vs H' R' r f q' => k ds s' vs H' (R.fr R' f) r f (L.fr f) q', L⟩
end
/-! ### what is asked of me -/
/-- a mark: what it marks is left alone by simp -/
structure Tg {α : Sort _} (a : α) : Type where
def Rq (p A : Prop) (_ : Tg A) : Prop := p ∧ A
theorem Rq_true {A : Prop} {t : Tg A} : Rq True A t = A := by simp [Rq]
def Br (b : Bool) (A B : Prop) (_ : Tg A) (_ : Tg B) : Prop := if b = true then A else B
theorem Br_true {A B : Prop} {t : Tg A} {u : Tg B} : Br true A B t u = A := by simp [Br]
theorem Br_false {A B : Prop} {t : Tg A} {u : Tg B} : Br false A B t u = B := by simp [Br]
section
variable {A B : Prop}
theorem br_dec {p : Prop} [Decidable p] (h1 : p → A) (h2 : ¬ p → B) : Br (decide p) A B ⟨⟩ ⟨⟩ := b_dec h1 h2
theorem br_ndec {p : Prop} [Decidable p] (h1 : ¬ p → A) (h2 : p → B) : Br (!decide p) A B ⟨⟩ ⟨⟩ := b_ndec h1 h2
theorem br_any {b : Bool} (h1 : b = true → A) (h2 : b = false → B) : Br b A B ⟨⟩ ⟨⟩ := b_any h1 h2
theorem br_t {b : Bool} (h : b = true) (k : A) : Br b A B ⟨⟩ ⟨⟩ := by rw [h]; exact b_t k
theorem br_f {b : Bool} (h : b = false) (k : B) : Br b A B ⟨⟩ ⟨⟩ := by rw [h]; exact b_f k
theorem br_p {p : Prop} [Decidable p] (h : p) (k : A) : Br (decide p) A B ⟨⟩ ⟨⟩ := br_t (decide_eq_true h) k
theorem br_n {p : Prop} [Decidable p] (h : ¬ p) (k : B) : Br (decide p) A B ⟨⟩ ⟨⟩ := br_f (decide_eq_false h) k
end
/-! ### expressions -/
def getS : ASt → Nat → Option D
  | [], _ => none
  | x :: _, 0 => x
  | _ :: r, i + 1 => getS r i
def setS : ASt → Nat → D → ASt
  | [], _, _ => []
  | _ :: r, 0, d => some d :: r
  | x :: r, i + 1, d => x :: setS r i d
theorem getS_eq : ∀ {as : ASt} {i : Nat} {d : D}, getS as i = some d → as[i]? = some (some d)
  | [], _, _, h => by cases h
  | _ :: _, 0, _, h => by simpa [getS] using h
  | _ :: r, i + 1, _, h => by simpa using getS_eq (as := r) (i := i) h
theorem setS_eq : ∀ {as : ASt} {i : Nat} {d : D}, setS as i d = as.set i (some d)
  | [], _, _ => rfl
  | _ :: _, 0, _ => rfl
  | x :: r, i + 1, d => congrArg (x :: ·) (setS_eq (as := r))
def opt {α : Type} (o : Option α) (k : α → Prop) (_ : Tg k) : Prop := match o with
  | some d => k d
  | none => False
theorem opt_some {α : Type} {d : α} {k : α → Prop} {t : Tg k} : opt (some d) k t = k d := rfl
theorem opt_of {α : Type} {o : Option α} {k : α → Prop} {t : Tg k} (h : opt o k t) : ∃ d, o = some d ∧ k d := by
  cases o with
  | none => exact h.elim
  | some d => exact ⟨d, rfl, h⟩
def aVar (i : Nat) : ATE := fun as s Q _ => opt (getS as i) (fun d => Q d s) ⟨⟩
def aC (d : D) : ATE := fun _ s Q _ => Q d s
abbrev AR2 := D → D → Ah → AVK → Prop
abbrev AR1 := D → Ah → AVK → Prop
abbrev ARL := List D → Ah → AVK → Prop
abbrev ARM := D → List D → Ah → AVK → Prop
def aOp (f : AR2) (a b : ATE) : ATE := fun as s Q E => a as s (fun x s1 => b as s1 (fun y s2 => f x y s2 Q) E) E
def aUn (f : AR1) (a : ATE) : ATE := fun as s Q E => a as s (fun x s1 => f x s1 Q) E
def aCB (f : ARL) (a : ATA) : ATE := fun as s Q E => a as s (fun xs s1 => f xs s1 Q) E
def aM (f : ARM) (a : ATE) (b : ATA) : ATE := fun as s Q E => a as s (fun x s1 => b as s1 (fun ys s2 => f x ys s2 Q) E) E
def aNil : ATA := fun _ s Q _ => Q [] s
def aCons (a : ATE) (b : ATA) : ATA := fun as s Q E => a as s (fun x s1 => b as s1 (fun xs s2 => Q (x :: xs) s2) E) E
def SR (K : PySem.W.Frag) (r : R2) (f : AR2) : Prop := ∀ Z H s x y v u Q Qc, Rep K Z H s → Rp K H (Ow Z s) x v → Rp K H (Ow Z s) y u → f x y s Q → Lnk K Z H s Q Qc → r v u H Qc
def SR1 (K : PySem.W.Frag) (r : V → Hp → VK → Prop) (f : AR1) : Prop := ∀ Z H s x v Q Qc, Rep K Z H s → Rp K H (Ow Z s) x v → f x s Q → Lnk K Z H s Q Qc → r v H Qc
def SRL (K : PySem.W.Frag) (r : List V → Hp → VK → Prop) (f : ARL) : Prop := ∀ Z H s xs vs Q Qc, Rep K Z H s → Rps K H (Ow Z s) xs vs → f xs s Q → Lnk K Z H s Q Qc → r vs H Qc
def SRM (K : PySem.W.Frag) (r : V → List V → Hp → VK → Prop) (f : ARM) : Prop := ∀ Z H s x xs v vs Q Qc, Rep K Z H s → Rp K H (Ow Z s) x v → Rps K H (Ow Z s) xs vs → f x xs s Q → Lnk K Z H s Q Qc → r v vs H Qc
section
variable {X : Cx} {W : WX} {a b : Expr} {es : List Expr} {ta tb : ATE} {t : ATA} {pos : Pos}
theorem ae_var {i : Nat} {x : Str} (hN : X.N[i]? = some x) (hv : Vis X.env.scope x) (hd : (x == ("__debug__" : Str)) = false := by decide) (hcd : (x == ("__classdict__" : Str)) = false := by decide) : AE X W (.Name x pos) (aVar i) :=
  ⟨weakE (pe_var hN hv hd hcd) fun σ H Qc => by
    rintro ⟨Z, as, s, Q, E, R, q, L, _⟩
    obtain ⟨d, e, q⟩ := opt_of q
    obtain ⟨v, h1, h2⟩ := R.sl i d (getS_eq e)
    exact ⟨v, h1, L.here R.rep h2 q⟩⟩
theorem ae_c {d : D} {v : V} (h : PE X a (tC v)) (r : ∀ H N, Rp X.K H N d v) : AE X W a (aC d) := ⟨weakE h fun σ H Qc => by
    rintro ⟨Z, as, s, Q, E, R, q, L, _⟩
    exact L.here R.rep (r _ _) q⟩
theorem ae_int {i j} : AE X W (.Constant (.int i) j pos) (aC (.int i)) := ae_c pe_int fun _ _ => .int i
theorem ae_bl {b j} : AE X W (.Constant (.bool b) j pos) (aC (.bl b)) := ae_c pe_bl fun _ _ => .bl b
theorem ae_non {j} : AE X W (.Constant .none j pos) (aC .non) := ae_c pe_non fun _ _ => .non
theorem ae_str {x j} : AE X W (.Constant (.str x) j pos) (aC (.str x.cps.toList)) := ae_c pe_str fun _ _ => Rp.str x.cps.toList
theorem ae_gint {x : Str} {i : Int} (c : ∃ t, X.mg x = some (.int i t)) (hg : Gl X x) (hd : (x == ("__debug__" : Str)) = false := by decide) : AE X W (.Name x pos) (aC (.int i)) :=
  let ⟨_, c⟩ := c; ae_c (v := .int i) (pe_glob hg c ⟨_, rfl⟩ hd) fun _ _ => .int i
theorem ae_gstr {x z : Str} (c : ∃ t, X.mg x = some (.str z t)) (hg : Gl X x) (hd : (x == ("__debug__" : Str)) = false := by decide) : AE X W (.Name x pos) (aC (.str z.cps.toList)) :=
  let ⟨_, c⟩ := c; ae_c (v := .str z) (pe_glob hg c ⟨_, rfl⟩ hd) fun _ _ => Rp.str z.cps.toList
theorem ae_gref {x : Str} {C : Addr} (c : X.mg x = some (.ref C)) (hg : Gl X x) (hd : (x == ("__debug__" : Str)) = false := by decide) : AE X W (.Name x pos) (aC (.ref C)) := ae_c (v := .ref C) (pe_glob hg c rfl hd) fun _ _ => .ref C
theorem ae_bty {x : Str} {n : String} (hg : Gl X x) (hm : X.mg x = none) (hv : bootBuiltins x = some (.type n)) (hn : x ≠ "__name__" := by decide) (hd : (x == ("__debug__" : Str)) = false := by decide) : AE X W (.Name x pos) (aC (.ty n)) :=
  ae_c (v := .ty n) (pe_bltn hg hm hv rfl hn hd) fun _ _ => .ty n
theorem conc_op {K : PySem.W.Frag} {r : R2} {f : AR2} (h : SR K r f) : ∀ σ H Qc, concE K W (aOp f ta tb) σ H Qc → tOp r (concE K W ta) (concE K W tb) σ H Qc := by
  rintro σ H Qc ⟨Z, as, s, Q, E, R, q, L, LX⟩
  show concE K W ta σ H fun v H1 => concE K W tb σ H1 fun u H2 => r v u H2 Qc
  refine conc_bind (Q1 := fun x s1 => tb as s1 (fun y s2 => f x y s2 Q) E) R LX q fun x s1 v H1 R1 r1 f1 L1 q1 => ?_
  refine conc_bind (Q1 := fun y s2 => f x y s2 Q) R1 L1 q1 fun y s2 u H2 R2 r2 f2 L2 q2 => ?_
  exact h Z H2 s2 x y v u Q Qc R2.rep (r1.fr f2) r2 q2 (L.fr (f1.trans f2))
theorem ae_op {op : Operator} {r : R2} {f : AR2} (ho : OpR X (binaryOp op) r) (hs : SR X.K r f) (ha : AE X W a ta) (hb : AE X W b tb) : AE X W (.BinOp a op b pos) (aOp f ta tb) := ⟨weakE (pe_op ho ha.pe hb.pe) (conc_op hs)⟩
theorem ae_cmp {op : CmpOp} {r : R2} {f : AR2} (ho : OpR X (compareOp op) r) (hs : SR X.K r f) (ha : AE X W a ta) (hb : AE X W b tb) (hm : behindInMarks op b = false) : AE X W (.Compare a [op] [b] pos) (aOp f ta tb) := ⟨weakE (pe_cmpR ho ha.pe hb.pe hm) (conc_op hs)⟩
theorem ae_un {op : UnaryOp} {r : V → Hp → VK → Prop} {f : AR1} (ho : UnR X (unaryOp op) r) (hs : SR1 X.K r f) (ha : AE X W a ta) : AE X W (.UnaryOp op a pos) (aUn f ta) := by
  refine ⟨weakE (pe_un ho ha.pe) ?_⟩
  rintro σ H Qc ⟨Z, as, s, Q, E, R, q, L, LX⟩
  show concE X.K W ta σ H fun v H1 => r v H1 Qc
  exact conc_bind (Q1 := fun x s1 => f x s1 Q) R LX q fun x s1 v H1 R1 r1 f1 L1 q1 => hs Z H1 s1 x v Q Qc R1.rep r1 q1 (L.fr f1)
theorem aa_nil : AA X W [] aNil := ⟨weakA pa_nil fun σ H Qc => by
    rintro ⟨Z, as, s, Q, E, R, q, L, _⟩
    exact L [] s [] H R.rep .nil (Fr.refl H s) q⟩
theorem aa_cons (ha : AE X W a ta) (hr : AA X W es t) (he : starEach (a :: es) X.env = (false, eval a X.env) :: starEach es X.env := by rfl) : AA X W (a :: es) (aCons ta t) := by
  refine ⟨weakA (pa_cons ha.pe hr.pa he) ?_⟩
  rintro σ H Qc ⟨Z, as, s, Q, E, R, q, L, LX⟩
  show concE X.K W ta σ H fun v H1 => concA X.K W t σ H1 fun us H2 => Qc (v :: us) H2
  refine conc_bind (Q1 := fun x s1 => t as s1 (fun xs s2 => Q (x :: xs) s2) E) R LX q fun x s1 v H1 R1 r1 f1 L1 q1 => ?_
  refine conc_bindA (Q1 := fun xs s2 => Q (x :: xs) s2) R1 L1 q1 fun ys s2 us H2 R2 r2 f2 L2 q2 => ?_
  exact L _ s2 _ H2 R2.rep (.cons (r1.fr f2) r2) (f1.trans f2) q2
theorem conc_CB {K : PySem.W.Frag} {r : List V → Hp → VK → Prop} {f : ARL} (h : SRL K r f) : ∀ σ H Qc, concE K W (aCB f t) σ H Qc → tCB r (concA K W t) σ H Qc := by
  rintro σ H Qc ⟨Z, as, s, Q, E, R, q, L, LX⟩
  show concA K W t σ H fun vs H1 => r vs H1 Qc
  exact conc_bindA (Q1 := fun xs s1 => f xs s1 Q) R LX q fun xs s1 vs H1 R1 r1 f1 L1 q1 => h Z H1 s1 xs vs Q Qc R1.rep r1 q1 (L.fr f1)
end
end Sk
namespace Sk
open PySem PySem.Spec PyProof.Rows L2
/-! ### what a thing is, read through the store -/
def viewO (a : Addr) : Option Ob → D
  | some (.lst ds) => .lst ds
  | _ => .ref a
def view (s : Ah) : D → D
  | .ref a => viewO a (s a)
  | .scr ds => .lst ds
  | d => d
section
variable {K : PySem.W.Frag} {H : Hp} {s : Ah} {d : D} {v : V}
theorem view_lst (R : Rep K Z H s) (r : Rp K H (Ow Z s) d v) {ds : List D} (e : view s d = .lst ds) : ∃ p vs, v = .ref p ∧ SqL K H p vs ∧ Rps K H (Ow Z s) ds vs := by
  cases r with
  | lst h n r => cases e; exact ⟨_, _, rfl, SqL.of h, r⟩
  | scr h r => cases e; exact ⟨_, _, rfl, h.sq, r⟩
  | ref a =>
    have e : viewO a (s a) = .lst ds := e
    cases es : s a with
    | none => rw [es] at e; cases e
    | some o =>
      rw [es] at e
      cases o with
      | lst es' =>
        cases e
        obtain ⟨vs, h, r⟩ := R.at_ _ _ es
        exact ⟨a, vs, rfl, SqL.of h, r⟩
      | _ => cases e
  | _ => cases e
theorem view_tup (r : Rp K H (Ow Z s) d v) {ds : List D} (e : view s d = .tup ds) : ∃ p vs, v = .ref p ∧ H p = some (.tup vs) ∧ ¬ Ow Z s p ∧ Rps K H (Ow Z s) ds vs := by
  cases r with
  | tup h n r => cases e; exact ⟨_, _, rfl, h, n, r⟩
  | ref a =>
    have e : viewO a (s a) = .tup ds := e
    cases es : s a with
    | none => rw [es] at e; cases e
    | some o => rw [es] at e; cases o <;> cases e
  | _ => cases e
theorem view_int (r : Rp K H (Ow Z s) d v) {i : Int} (e : view s d = .int i) : v = .int i := by
  cases r with
  | int j => cases e; rfl
  | ref a =>
    have e : viewO a (s a) = .int i := e
    cases es : s a with
    | none => rw [es] at e; cases e
    | some o => rw [es] at e; cases o <;> cases e
  | _ => cases e
theorem view_str (r : Rp K H (Ow Z s) d v) {z : List Nat} (e : view s d = .str z) : v = .str (ofL z) := by
  cases r with
  | str j => cases e; rfl
  | ref a =>
    have e : viewO a (s a) = .str z := e
    cases es : s a with
    | none => rw [es] at e; cases e
    | some o => rw [es] at e; cases o <;> cases e
  | _ => cases e
theorem view_bl (r : Rp K H (Ow Z s) d v) {b : Bool} (e : view s d = .bl b) : v = .bl b := by
  cases r with
  | bl j => cases e; rfl
  | ref a =>
    have e : viewO a (s a) = .bl b := e
    cases es : s a with
    | none => rw [es] at e; cases e
    | some o => rw [es] at e; cases o <;> cases e
  | _ => cases e
theorem view_non (r : Rp K H (Ow Z s) d v) (e : view s d = .non) : v = .non := by
  cases r with
  | non => rfl
  | ref a =>
    have e : viewO a (s a) = .non := e
    cases es : s a with
    | none => rw [es] at e; cases e
    | some o => rw [es] at e; cases o <;> cases e
  | _ => cases e
theorem view_ref (r : Rp K H (Ow Z s) d v) {a : Addr} (e : view s d = .ref a) : v = .ref a := by
  cases r with
  | ref b =>
    have e : viewO b (s b) = .ref a := e
    cases es : s b with
    | none => rw [es] at e; cases e; rfl
    | some o => rw [es] at e; cases o <;> first | (cases e; done) | (cases e; rfl)
  | _ => cases e
/-- what is seen of a thing is told by its value, too -/
theorem view_rp (R : Rep K Z H s) (r : Rp K H (Ow Z s) d v) : Rp K H (Ow Z s) (view s d) v ∨ ∃ ds, view s d = .lst ds := by
  cases r with
  | scr h r => exact .inr ⟨_, rfl⟩
  | ref a =>
    show Rp K H (Ow Z s) (viewO a (s a)) (.ref a) ∨ ∃ ds, viewO a (s a) = .lst ds
    cases es : s a with
    | none => exact .inl (.ref a)
    | some o => cases o <;> first | exact .inr ⟨_, rfl⟩ | exact .inl (.ref a)
  | non => exact .inl .non
  | bl b => exact .inl (.bl b)
  | int i => exact .inl (.int i)
  | str z => exact .inl (.str z)
  | ty n => exact .inl (.ty n)
  | lst h n r => exact .inr ⟨_, rfl⟩
  | tup h n r => exact .inl (.tup h n r)
end
theorem ofL_add (a b : List Nat) : ofL a ++ ofL b = ofL (a ++ b) := by
  show (⟨a.toArray ++ b.toArray⟩ : Str) = ⟨(a ++ b).toArray⟩
  rw [List.append_toArray]
theorem ofL_len (a : List Nat) : (ofL a).length = a.length := by
  show (a.toArray).size = a.length
  rw [List.size_toArray]
theorem ofL_eq (a b : List Nat) : decide (ofL a = ofL b) = decide (a = b) := by
  by_cases h : a = b
  · subst h; simp
  · have : ¬ ofL a = ofL b := fun z => h (ofL_inj z)
    simp [h, this]
theorem rp_str {K : PySem.W.Frag} {H : Hp} {N : Addr → Prop} {z : Str} {l : List Nat} (h : z = ofL l) : Rp K H N (.str l) (.str z) := by rw [h]; exact .str l
/-! ### operations by what is seen -/
abbrev DP := D × Prop
abbrev F2 := D → D → Option DP
def bOp (f : F2) : AR2 := fun x y s Q => opt (f (view s x) (view s y)) (fun r => Rq r.2 (Q r.1 s) ⟨⟩) ⟨⟩
def addD : F2
  | .int i, .int j => some (.int (i + j), True)
  | .str y, .str z => some (.str (y ++ z), y.length + z.length ≤ 16777216)
  | .lst xs, .lst ys => some (.lst (xs ++ ys), xs.length + ys.length ≤ 16777216)
  | .tup xs, .tup ys => some (.tup (xs ++ ys), xs.length + ys.length ≤ 16777216)
  | _, _ => none
def subD : F2
  | .int i, .int j => some (.int (i - j), True)
  | _, _ => none
def MulOk (i j : Int) : Prop := CMul i j ∨ CMulW i j
def mulD : F2
  | .int i, .int j => some (.int (i * j), Sk.MulOk i j)
  | .str y, .int k => some (.str (List.replicate k.toNat y).flatten, ((y.length ≤ 16 ∧ k ≤ 1048576) ∨ (y.length ≤ 1024 ∧ k ≤ 16384) ∨ (y.length ≤ 65536 ∧ k ≤ 256)) ∧ 0 ≤ k)
  | .lst xs, .int k => some (.lst (List.replicate k.toNat xs).flatten, 0 ≤ k ∧ k < 9223372036854775808 ∧ xs.length * k.toNat ≤ 16777216)
  | _, _ => none
def DivOk (j : Int) : Prop := 0 < j ∧ j.natAbs.log2 < 9000
def divD : F2
  | .int i, .int j => some (.int (i / j), DivOk j)
  | _, _ => none
def modD : F2
  | .int i, .int j => some (.int (i % j), 0 < j)
  | _, _ => none
def powD : F2
  | .int i, .int j => some (.int (i ^ j.toNat), CPow i j)
  | _, _ => none
def ltD : F2
  | .int i, .int j => some (.bl (decide (i < j)), True)
  | .str y, .str z => some (.bl (decide (y < z)), True)
  | _, _ => none
def leD : F2
  | .int i, .int j => some (.bl (decide (i ≤ j)), True)
  | .str y, .str z => some (.bl (!decide (z < y)), True)
  | _, _ => none
def gtD : F2
  | .int i, .int j => some (.bl (decide (j < i)), True)
  | _, _ => none
def geD : F2
  | .int i, .int j => some (.bl (decide (j ≤ i)), True)
  | _, _ => none
/-- plain data, as the library has it -/
def D.py : D → PyData
  | .non => .none
  | .bl b => .bool b
  | .int i => .int i
  | .str z => .str (ofL z)
  | .ty _ => .none
  | .ref _ => .none
  | .lst ds => .list (pys ds)
  | .tup ds => .tuple (pys ds)
  | .scr ds => .list (pys ds)
where pys : List D → List PyData
  | [] => []
  | d :: r => D.py d :: pys r
def D.pure : D → Bool
  | .ty _ => false
  | .ref _ => false
  | .lst ds => pures ds
  | .tup ds => pures ds
  | .scr ds => pures ds
  | _ => true
where pures : List D → Bool
  | [] => true
  | d :: r => D.pure d && pures r
def okD (d : D) : Prop := d.pure = true ∧ SeqAt.shaped d.py = true
def deq (d e : D) : Bool := PyData.eqv d.py e.py
def eqD : F2
  | .int i, .int j => some (.bl (decide (i = j)), True)
  | .str y, .str z => some (.bl (decide (y = z)), True)
  | .bl a, .bl b => some (.bl (decide (a = b)), True)
  | .non, .non => some (.bl true, True)
  | .non, .int _ => some (.bl false, True)
  | .int _, .non => some (.bl false, True)
  | .str _, .non => some (.bl false, True)
  | .non, .str _ => some (.bl false, True)
  | .non, .bl _ => some (.bl false, True)
  | .bl _, .non => some (.bl false, True)
  | .str _, .int _ => some (.bl false, True)
  | .int _, .str _ => some (.bl false, True)
  | .str _, .bl _ => some (.bl false, True)
  | .bl _, .str _ => some (.bl false, True)
  | x, y => some (.bl (deq x y), okD x ∧ okD y)
def D.neg : D → D
  | .bl b => .bl (!b)
  | d => d
def notF (f : F2) : F2 := fun x y => (f x y).map fun r => (r.1.neg, r.2)
def D.isNon : D → Bool
  | .non => true
  | _ => false
def isD : F2
  | x, .non => some (.bl x.isNon, True)
  | .bl a, .bl b => some (.bl (decide (a = b)), True)
  | _, _ => none
section
variable {K : PySem.W.Frag}
/-- the way through a reading by what is seen -/
theorem sr_of {r : R2} {f : F2} (h : ∀ Z H s x y v u z p, Rep K Z H s → Rp K H (Ow Z s) x v → Rp K H (Ow Z s) y u → f (view s x) (view s y) = some (z, p) → p → ∀ Qc : VK, (∀ w, Rp K H (Ow Z s) z w → Qc w H) →
    (∀ o : HO, (∀ q, H q = none → ∃ w, Rp K (upd H q o) (Ow Z s) z w ∧ w = .ref q) → ∀ q, H q = none → Qc (.ref q) (upd H q o)) → r v u H Qc) : SR K r (bOp f) := by
  intro Z H s x y v u Q Qc R rx ry q L
  obtain ⟨⟨z, p⟩, e, hp, q⟩ := opt_of q
  refine h Z H s x y v u z p R rx ry e hp Qc (fun w rw' => L.here R rw' q) fun o ho a ha => ?_
  obtain ⟨R', f', _⟩ := R.new (u := o) ha
  obtain ⟨w, rw', ew⟩ := ho a ha
  subst ew
  exact L _ s _ _ R' rw' f' q
end
theorem rp_newL {K : PySem.W.Frag} {H : Hp} {s : Ah} {ds : List D} {vs : List V} (R : Rep K Z H s) (r : Rps K H (Ow Z s) ds vs) {p : Addr} (h : H p = none) : Rp K (upd H p (.lst vs)) (Ow Z s) (.lst ds) (.ref p) :=
  let ⟨_, f, n⟩ := R.new (u := .lst vs) h
  .lst upd_same n (r.fr f)
theorem rp_newT {K : PySem.W.Frag} {H : Hp} {s : Ah} {ds : List D} {vs : List V} (R : Rep K Z H s) (r : Rps K H (Ow Z s) ds vs) {p : Addr} (h : H p = none) : Rp K (upd H p (.tup vs)) (Ow Z s) (.tup ds) (.ref p) :=
  let ⟨_, f, n⟩ := R.new (u := .tup vs) h
  .tup upd_same n (r.fr f)
def or2 (r r' : R2) : R2 := fun x y H Q => r x y H Q ∨ r' x y H Q
theorem opr_or {X : Cx} {f : Value → Value → Sem Value} {r r' : R2} (h : OpR X f r) (h' : OpR X f r') : OpR X f (or2 r r') := OpR.or h h'
def rAddAll (K : PySem.W.Frag) : R2 := or2 (rI0 fun i j => .int (i + j)) (or2 (fun x y H Q => ∃ i j, x = .str i ∧ y = .str j ∧ i.length + j.length ≤ sizeLine ∧ Q (.str (i ++ j)) H) (or2 (rCatL K) (rCatA K)))
theorem op_addAll {X : Cx} : OpR X (binaryOp .Add) (rAddAll X.K) := opr_or op_add (opr_or op_add_str (opr_or op_catL op_catA))
theorem sr_add {K : PySem.W.Frag} : SR K (rAddAll K) (bOp addD) := by
  refine sr_of fun Z H s x y v u z p R rx ry e hp Qc k kn => ?_
  unfold addD at e
  split at e
  · rename_i i j e1 e2
    cases e
    cases view_int rx e1; cases view_int ry e2
    exact .inl ⟨i, j, rfl, rfl, k _ (.int _)⟩
  · rename_i a b e1 e2
    cases e
    cases view_str rx e1; cases view_str ry e2
    exact .inr (.inl ⟨_, _, rfl, rfl, by rw [ofL_len, ofL_len]; exact hp, k _ (rp_str (ofL_add a b))⟩)
  · rename_i a b e1 e2
    cases e
    obtain ⟨p1, vs, rfl, h1, r1⟩ := view_lst R rx e1
    obtain ⟨p2, ws, rfl, h2, r2⟩ := view_lst R ry e2
    exact .inr (.inr (.inl ⟨p1, p2, vs, ws, rfl, rfl, h1, h2, by rw [← r1.len, ← r2.len]; exact hp, kn _ fun q hq => ⟨_, rp_newL R (r1.app r2) hq, rfl⟩⟩))
  · rename_i a b e1 e2
    cases e
    obtain ⟨p1, vs, rfl, h1, n1, r1⟩ := view_tup rx e1
    obtain ⟨p2, ws, rfl, h2, n2, r2⟩ := view_tup ry e2
    refine .inr (.inr (.inr ⟨p1, p2, vs, ws, rfl, rfl, SqT.of h1, SqT.of h2, by rw [← r1.len, ← r2.len]; exact hp, fun ev => k _ ?_, fun _ ew => k _ ?_, fun _ _ => kn _ fun q hq => ⟨_, rp_newT R (r1.app r2) hq, rfl⟩⟩))
    · subst ev
      cases r1
      exact .tup h2 n2 r2
    · subst ew
      cases r2
      rw [List.append_nil]
      exact .tup h1 n1 r1
  · cases e
theorem sr_sub {K : PySem.W.Frag} : SR K (rI0 fun i j => .int (i - j)) (bOp subD) := by
  refine sr_of fun Z H s x y v u z p R rx ry e hp Qc k kn => ?_
  unfold subD at e
  split at e
  · rename_i i j e1 e2
    cases e
    cases view_int rx e1; cases view_int ry e2
    exact ⟨i, j, rfl, rfl, k _ (.int _)⟩
  · cases e
theorem rep_fold (l : List Nat) : ∀ (n : Nat) (a : Array Nat), ((List.replicate n l.toArray).foldl (· ++ ·) a).toList = a.toList ++ (List.replicate n l).flatten
  | 0, a => by simp
  | n + 1, a => by
    rw [List.replicate_succ, List.foldl_cons, rep_fold l n, List.replicate_succ, List.flatten_cons]
    simp
theorem txt_mul (z : Str) (k : Int) (h : 0 ≤ k) : Txt.mul z k = ofL (List.replicate k.toNat z.cps.toList).flatten := by
  refine str_ext ?_
  rw [ofL_list]
  unfold Txt.mul
  by_cases h1 : k < 1
  · rw [if_pos h1]
    obtain rfl : k = 0 := by omega
    rfl
  · rw [if_neg h1]
    by_cases h2 : (k == 1 || z.length == 0) = true
    · rw [if_pos h2]
      rw [Bool.or_eq_true] at h2
      rcases h2 with h2 | h2
      · have : k = 1 := by simpa using h2
        subst this
        simp
      · have : z.cps.toList = [] := by
          have h3 : z.length = 0 := by simpa using h2
          rw [str_len] at h3
          exact List.length_eq_zero_iff.mp h3
        rw [this]
        simp
    · rw [if_neg h2]
      have h3 := rep_fold z.cps.toList k.toNat #[]
      simpa using h3
/-- a text so many times -/
theorem op_repStr {X : Cx} : OpR X (binaryOp .Mult) (fun x y H Q => ∃ (z : Str) (k : Int), x = .str z ∧ y = .int k ∧ ((z.length ≤ 16 ∧ k ≤ 1048576) ∨ (z.length ≤ 1024 ∧ k ≤ 16384) ∨ (z.length ≤ 65536 ∧ k ≤ 256)) ∧ 0 ≤ k ∧ Q (.str (ofL (List.replicate k.toNat z.cps.toList).flatten)) H) := by
  intro pins s σ H x y v u Q I rx ry h
  obtain ⟨z, k, rfl, rfl, h12, h3, q⟩ := h
  obtain ⟨t, rfl⟩ := rx
  obtain ⟨t', rfl⟩ := ry
  have e : Txt.mul z k = ofL (List.replicate k.toNat z.cps.toList).flatten := txt_mul z k h3
  rcases h12 with ⟨h1, h2⟩ | ⟨h1, h2⟩ | ⟨h1, h2⟩
  · refine PySem.W.KXi.mul (n := z.length) rfl h1 (by omega) h2 fun t' tk _ _ => ⟨.str _, H, I.tok _, ⟨_, rfl⟩, ?_⟩
    rw [e]
    exact q
  · refine SB.mul (mulOk_of 1024 16384 h1 h2 (by omega) (by decide) (by decide)) fun t' tk => ⟨.str _, H, I.tok _, ⟨_, rfl⟩, ?_⟩
    rw [e]
    exact q
  · refine SB.mul (mulOk_of 65536 256 h1 h2 (by omega) (by decide) (by decide)) fun t' tk => ⟨.str _, H, I.tok _, ⟨_, rfl⟩, ?_⟩
    rw [e]
    exact q
def rMulAll : R2 := or2 (rI CMul fun i j => .int (i * j)) (or2 (rI CMulW fun i j => .int (i * j)) (or2 (fun x y H Q => ∃ (z : Str) (k : Int), x = .str z ∧ y = .int k ∧ ((z.length ≤ 16 ∧ k ≤ 1048576) ∨ (z.length ≤ 1024 ∧ k ≤ 16384) ∨ (z.length ≤ 65536 ∧ k ≤ 256)) ∧ 0 ≤ k ∧ Q (.str (ofL (List.replicate k.toNat z.cps.toList).flatten)) H) rRep))
theorem op_mulAll {X : Cx} : OpR X (binaryOp .Mult) rMulAll := opr_or op_mul (opr_or op_mulW (opr_or op_repStr op_rep))
/-- as seen, the script aside -/
def viewH (s : Ah) : D → D
  | .ref a => viewO a (s a)
  | d => d
theorem viewH_eq {s : Ah} {d e : D} (h : viewH s d = e) (n : ∀ ds, e ≠ .scr ds) : view s d = e := by
  cases d <;> first | exact h | exact absurd h.symm (n _)
theorem viewH_lst {K : PySem.W.Frag} {H : Hp} {s : Ah} {d : D} {v : V} (R : Rep K Z H s) (r : Rp K H (Ow Z s) d v) {ds : List D} (e : viewH s d = .lst ds) : ∃ p vs, v = .ref p ∧ H p = some (.lst vs) ∧ Rps K H (Ow Z s) ds vs := by
  cases r with
  | lst h n r => cases e; exact ⟨_, _, rfl, h, r⟩
  | scr h r => cases e
  | ref a =>
    have e : viewO a (s a) = .lst ds := e
    cases es : s a with
    | none => rw [es] at e; cases e
    | some o =>
      rw [es] at e
      cases o with
      | lst es' =>
        cases e
        obtain ⟨vs, h, r⟩ := R.at_ _ _ es
        exact ⟨a, vs, rfl, h, r⟩
      | _ => cases e
  | _ => cases e
def bOpH (f : F2) : AR2 := fun x y s Q => opt (f (viewH s x) (viewH s y)) (fun r => Rq r.2 (Q r.1 s) ⟨⟩) ⟨⟩
theorem sr_ofH {K : PySem.W.Frag} {r : R2} {f : F2} (h : ∀ Z H s x y v u z p, Rep K Z H s → Rp K H (Ow Z s) x v → Rp K H (Ow Z s) y u → f (viewH s x) (viewH s y) = some (z, p) → p → ∀ Qc : VK, (∀ w, Rp K H (Ow Z s) z w → Qc w H) →
    (∀ o : HO, (∀ q, H q = none → ∃ w, Rp K (upd H q o) (Ow Z s) z w ∧ w = .ref q) → ∀ q, H q = none → Qc (.ref q) (upd H q o)) → r v u H Qc) : SR K r (bOpH f) := by
  intro Z H s x y v u Q Qc R rx ry q L
  obtain ⟨⟨z, p⟩, e, hp, q⟩ := opt_of q
  refine h Z H s x y v u z p R rx ry e hp Qc (fun w rw' => L.here R rw' q) fun o ho a ha => ?_
  obtain ⟨R', f', _⟩ := R.new (u := o) ha
  obtain ⟨w, rw', ew⟩ := ho a ha
  subst ew
  exact L _ s _ _ R' rw' f' q
theorem sr_mul {K : PySem.W.Frag} : SR K rMulAll (bOpH mulD) := by
  refine sr_ofH fun Z H s x y v u z p R rx ry e hp Qc k kn => ?_
  unfold mulD at e
  split at e
  · rename_i i j e1 e2
    cases e
    cases view_int rx (viewH_eq e1 nofun); cases view_int ry (viewH_eq e2 nofun)
    rcases hp with hp | hp
    · exact .inl ⟨i, j, rfl, rfl, hp, k _ (.int _)⟩
    · exact .inr (.inl ⟨i, j, rfl, rfl, hp, k _ (.int _)⟩)
  · rename_i y j e1 e2
    cases e
    cases view_str rx (viewH_eq e1 nofun); cases view_int ry (viewH_eq e2 nofun)
    obtain ⟨h1, h3⟩ := hp
    exact .inr (.inr (.inl ⟨_, _, rfl, rfl, by rw [ofL_len]; exact h1, h3, k _ (.str _)⟩))
  · rename_i xs j e1 e2
    cases e
    obtain ⟨p1, vs, rfl, h1, r1⟩ := viewH_lst R rx e1
    cases view_int ry (viewH_eq e2 nofun)
    obtain ⟨g1, g2, g3⟩ := hp
    exact .inr (.inr (.inr ⟨p1, j, vs, rfl, rfl, h1, by omega, g2, by rw [← r1.len]; exact g3, kn _ fun q hq => ⟨_, rp_newL R (r1.rep _) hq, rfl⟩⟩))
  · cases e
theorem sr_div {K : PySem.W.Frag} : SR K (rI CDivW fun i j => .int (i / j)) (bOp divD) := by
  refine sr_of fun Z H s x y v u z p R rx ry e hp Qc k kn => ?_
  unfold divD at e
  split at e
  · rename_i i j e1 e2
    cases e
    cases view_int rx e1; cases view_int ry e2
    exact ⟨i, j, rfl, rfl, hp, k _ (.int _)⟩
  · cases e
theorem sr_mod {K : PySem.W.Frag} : SR K (rI (fun _ j => 0 < j) fun i j => .int (i % j)) (bOp modD) := by
  refine sr_of fun Z H s x y v u z p R rx ry e hp Qc k kn => ?_
  unfold modD at e
  split at e
  · rename_i i j e1 e2
    cases e
    cases view_int rx e1; cases view_int ry e2
    exact ⟨i, j, rfl, rfl, hp, k _ (.int _)⟩
  · cases e
theorem sr_pow {K : PySem.W.Frag} : SR K (rI CPow fun i j => .int (i ^ j.toNat)) (bOp powD) := by
  refine sr_of fun Z H s x y v u z p R rx ry e hp Qc k kn => ?_
  unfold powD at e
  split at e
  · rename_i i j e1 e2
    cases e
    cases view_int rx e1; cases view_int ry e2
    exact ⟨i, j, rfl, rfl, hp, k _ (.int _)⟩
  · cases e
def rLtAll : R2 := or2 (rI0 fun i j => .bl (decide (i < j))) (fun x y H Q => ∃ i j, x = .str i ∧ y = .str j ∧ Q (.bl (decide (i.cps.toList < j.cps.toList))) H)
theorem op_ltAll {X : Cx} : OpR X (compareOp .Lt) rLtAll := opr_or op_lt op_lt_str
theorem sr_lt {K : PySem.W.Frag} : SR K rLtAll (bOp ltD) := by
  refine sr_of fun Z H s x y v u z p R rx ry e hp Qc k kn => ?_
  unfold ltD at e
  split at e
  · rename_i i j e1 e2
    cases e
    cases view_int rx e1; cases view_int ry e2
    exact .inl ⟨i, j, rfl, rfl, k _ (.bl _)⟩
  · rename_i i j e1 e2
    cases e
    cases view_str rx e1; cases view_str ry e2
    exact .inr ⟨_, _, rfl, rfl, k _ (.bl _)⟩
  · cases e
def rLeAll : R2 := or2 (rI0 fun i j => .bl (decide (i ≤ j))) (fun x y H Q => ∃ i j, x = .str i ∧ y = .str j ∧ Q (.bl (!decide (j.cps.toList < i.cps.toList))) H)
theorem op_leAll {X : Cx} : OpR X (compareOp .LtE) rLeAll := opr_or op_le op_le_str
theorem sr_le {K : PySem.W.Frag} : SR K rLeAll (bOp leD) := by
  refine sr_of fun Z H s x y v u z p R rx ry e hp Qc k kn => ?_
  unfold leD at e
  split at e
  · rename_i i j e1 e2
    cases e
    cases view_int rx e1; cases view_int ry e2
    exact .inl ⟨i, j, rfl, rfl, k _ (.bl _)⟩
  · rename_i i j e1 e2
    cases e
    cases view_str rx e1; cases view_str ry e2
    exact .inr ⟨_, _, rfl, rfl, k _ (.bl _)⟩
  · cases e
theorem sr_gt {K : PySem.W.Frag} : SR K (rI0 fun i j => .bl (decide (j < i))) (bOp gtD) := by
  refine sr_of fun Z H s x y v u z p R rx ry e hp Qc k kn => ?_
  unfold gtD at e
  split at e
  · rename_i i j e1 e2
    cases e
    cases view_int rx e1; cases view_int ry e2
    exact ⟨i, j, rfl, rfl, k _ (.bl _)⟩
  · cases e
theorem sr_ge {K : PySem.W.Frag} : SR K (rI0 fun i j => .bl (decide (j ≤ i))) (bOp geD) := by
  refine sr_of fun Z H s x y v u z p R rx ry e hp Qc k kn => ?_
  unfold geD at e
  split at e
  · rename_i i j e1 e2
    cases e
    cases view_int rx e1; cases view_int ry e2
    exact ⟨i, j, rfl, rfl, k _ (.bl _)⟩
  · cases e
/-! ### equality -/
mutual
theorem rp_dp {K : PySem.W.Frag} {H : Hp} {N : Addr → Prop} : ∀ {d : D} {v : V}, Rp K H N d v → d.pure = true → Dp K H v d.py
  | _, _, .non, _ => .non
  | _, _, .bl b, _ => .bl b
  | _, _, .int i, _ => .int i
  | _, _, .str z, _ => .str (ofL z)
  | _, _, .ty n, h => by cases h
  | _, _, .ref a, h => by cases h
  | _, _, .lst h n r, p => .lst (SqL.of h) (rps_dp r p)
  | _, _, .tup h n r, p => .tup (SqT.of h) (rps_dp r p)
  | _, _, .scr h r, p => .lst h.sq (rps_dp r p)
theorem rps_dp {K : PySem.W.Frag} {H : Hp} {N : Addr → Prop} : ∀ {ds : List D} {vs : List V}, Rps K H N ds vs → D.pure.pures ds = true → DpAll K H vs (D.py.pys ds)
  | _, _, .nil, _ => .nil
  | _, _, .cons h t, p => by
    have p := Bool.and_eq_true_iff.mp p
    exact .cons (rp_dp h p.1) (rps_dp t p.2)
end
/-- what is seen, as data -/
theorem view_dp {K : PySem.W.Frag} {H : Hp} {s : Ah} {d : D} {v : V} (R : Rep K Z H s) (r : Rp K H (Ow Z s) d v) (p : (view s d).pure = true) : Dp K H v (view s d).py := by
  rcases view_rp R r with h | ⟨ds, e⟩
  · exact rp_dp h p
  · obtain ⟨q, vs, rfl, h1, r1⟩ := view_lst R r e
    rw [e] at p ⊢
    exact .lst h1 (rps_dp r1 p)
theorem sr_eq_scal {x y : V} {z : Bool} {H : Hp} {Qc : VK} {K : PySem.W.Frag} {N : Addr → Prop} (h : scal x y = true) (e : decide (x = y) = z) (k : ∀ w, Rp K H N (.bl z) w → Qc w H) : rEq x y H Qc := by
  refine ⟨h, ?_⟩
  rw [e]
  exact k _ (.bl _)
theorem sr_ne_scal {x y : V} {z : Bool} {H : Hp} {Qc : VK} {K : PySem.W.Frag} {N : Addr → Prop} (h : scal x y = true) (e : decide (x = y) = z) (k : ∀ w, Rp K H N (.bl (!z)) w → Qc w H) : rNe x y H Qc := by
  refine ⟨h, ?_⟩
  rw [e]
  exact k _ (.bl _)
theorem dec_vint (i j : Int) : decide (V.int i = V.int j) = decide (i = j) := by by_cases h : i = j <;> simp [h]
theorem dec_vbl (i j : Bool) : decide (V.bl i = V.bl j) = decide (i = j) := by by_cases h : i = j <;> simp [h]
theorem dec_vstr (i j : List Nat) : decide (V.str (ofL i) = V.str (ofL j)) = decide (i = j) := by
  rw [← ofL_eq]
  by_cases h : ofL i = ofL j <;> simp [h]
def rEqAll (K : PySem.W.Frag) : R2 := or2 rEq (rEqD K)
def rNeAll (K : PySem.W.Frag) : R2 := or2 rNe (rNeD K)
theorem op_eqAll {X : Cx} (hu : X.A.units + 64 < cLine) : OpR X (compareOp .Eq) (rEqAll X.K) := opr_or op_eq (op_eqD hu)
theorem op_neAll {X : Cx} (hu : X.A.units + 64 < cLine) : OpR X (compareOp .NotEq) (rNeAll X.K) := opr_or op_ne (op_neD hu)
/-- scalars that are told apart by their values -/
theorem eqD_cases {x y z : D} {p : Prop} (e : eqD x y = some (z, p)) : (∃ b, z = .bl b ∧ p = True ∧ ∀ {K : PySem.W.Frag} {H : Hp} {s : Ah} {x' y' : D} {v u : V}, Rp K H (Ow Z s) x' v → Rp K H (Ow Z s) y' u → view s x' = x → view s y' = y → scal v u = true ∧ decide (v = u) = b) ∨
    (z = .bl (deq x y) ∧ p = (okD x ∧ okD y)) := by
  unfold eqD at e
  split at e
  · cases e; exact .inl ⟨_, rfl, rfl, fun r1 r2 e1 e2 => by cases view_int r1 e1; cases view_int r2 e2; exact ⟨rfl, dec_vint _ _⟩⟩
  · cases e; exact .inl ⟨_, rfl, rfl, fun r1 r2 e1 e2 => by cases view_str r1 e1; cases view_str r2 e2; exact ⟨rfl, dec_vstr _ _⟩⟩
  · cases e; exact .inl ⟨_, rfl, rfl, fun r1 r2 e1 e2 => by cases view_bl r1 e1; cases view_bl r2 e2; exact ⟨rfl, dec_vbl _ _⟩⟩
  · cases e; exact .inl ⟨_, rfl, rfl, fun r1 r2 e1 e2 => by cases view_non r1 e1; cases view_non r2 e2; exact ⟨rfl, rfl⟩⟩
  · cases e; exact .inl ⟨_, rfl, rfl, fun r1 r2 e1 e2 => by cases view_non r1 e1; cases view_int r2 e2; exact ⟨rfl, by simp⟩⟩
  · cases e; exact .inl ⟨_, rfl, rfl, fun r1 r2 e1 e2 => by cases view_int r1 e1; cases view_non r2 e2; exact ⟨rfl, by simp⟩⟩
  · cases e; exact .inl ⟨_, rfl, rfl, fun r1 r2 e1 e2 => by cases view_str r1 e1; cases view_non r2 e2; exact ⟨rfl, by simp⟩⟩
  · cases e; exact .inl ⟨_, rfl, rfl, fun r1 r2 e1 e2 => by cases view_non r1 e1; cases view_str r2 e2; exact ⟨rfl, by simp⟩⟩
  · cases e; exact .inl ⟨_, rfl, rfl, fun r1 r2 e1 e2 => by cases view_non r1 e1; cases view_bl r2 e2; exact ⟨rfl, by simp⟩⟩
  · cases e; exact .inl ⟨_, rfl, rfl, fun r1 r2 e1 e2 => by cases view_bl r1 e1; cases view_non r2 e2; exact ⟨rfl, by simp⟩⟩
  · cases e; exact .inl ⟨_, rfl, rfl, fun r1 r2 e1 e2 => by cases view_str r1 e1; cases view_int r2 e2; exact ⟨rfl, by simp⟩⟩
  · cases e; exact .inl ⟨_, rfl, rfl, fun r1 r2 e1 e2 => by cases view_int r1 e1; cases view_str r2 e2; exact ⟨rfl, by simp⟩⟩
  · cases e; exact .inl ⟨_, rfl, rfl, fun r1 r2 e1 e2 => by cases view_str r1 e1; cases view_bl r2 e2; exact ⟨rfl, by simp⟩⟩
  · cases e; exact .inl ⟨_, rfl, rfl, fun r1 r2 e1 e2 => by cases view_bl r1 e1; cases view_str r2 e2; exact ⟨rfl, by simp⟩⟩
  · cases e; exact .inr ⟨rfl, rfl⟩
theorem sr_eq {K : PySem.W.Frag} : SR K (rEqAll K) (bOp eqD) := by
  refine sr_of fun Z H s x y v u z p R rx ry e hp Qc k kn => ?_
  rcases eqD_cases e with ⟨b, rfl, rfl, h⟩ | ⟨rfl, rfl⟩
  · obtain ⟨h1, h2⟩ := h rx ry rfl rfl
    exact .inl (sr_eq_scal h1 h2 k)
  · exact .inr ⟨_, _, view_dp R rx hp.1.1, view_dp R ry hp.2.1, hp.1.2, hp.2.2, k _ (.bl _)⟩
theorem sr_ne {K : PySem.W.Frag} : SR K (rNeAll K) (bOp (notF eqD)) := by
  refine sr_of fun Z H s x y v u z p R rx ry e hp Qc k kn => ?_
  obtain ⟨⟨z', p'⟩, e', e2⟩ := Option.map_eq_some_iff.mp e
  cases e2
  rcases eqD_cases e' with ⟨b, rfl, rfl, h⟩ | ⟨rfl, rfl⟩
  · obtain ⟨h1, h2⟩ := h rx ry rfl rfl
    exact .inl (sr_ne_scal h1 h2 k)
  · exact .inr ⟨_, _, view_dp R rx hp.1.1, view_dp R ry hp.2.1, hp.1.2, hp.2.2, k _ (.bl _)⟩
def rIsAll : R2 := or2 (fun x y H Q => y = .non ∧ Q (.bl (decide (x = .non))) H) (fun x y H Q => ∃ a b, x = .bl a ∧ y = .bl b ∧ Q (.bl (decide (a = b))) H)
def rIsNotAll : R2 := or2 (fun x y H Q => y = .non ∧ Q (.bl (!decide (x = .non))) H) (fun x y H Q => ∃ a b, x = .bl a ∧ y = .bl b ∧ Q (.bl (!decide (a = b))) H)
theorem op_isAll {X : Cx} : OpR X (compareOp .Is) rIsAll := opr_or op_isN op_is_bl
theorem op_isNotAll {X : Cx} : OpR X (compareOp .IsNot) rIsNotAll := opr_or op_notN op_isnot_bl
theorem isNon_of {K : PySem.W.Frag} {H : Hp} {s : Ah} {d : D} {v : V} (R : Rep K Z H s) (r : Rp K H (Ow Z s) d v) : decide (v = .non) = (view s d).isNon := by
  rcases view_rp R r with h | ⟨ds, e⟩
  · generalize view s d = e at h
    cases h <;> simp [D.isNon]
  · obtain ⟨q, vs, rfl, _⟩ := view_lst R r e
    rw [e]
    simp [D.isNon]
theorem sr_is {K : PySem.W.Frag} : SR K rIsAll (bOp isD) := by
  refine sr_of fun Z H s x y v u z p R rx ry e hp Qc k kn => ?_
  unfold isD at e
  split at e
  · rename_i x' y' e2
    cases e
    cases view_non ry e2
    refine .inl ⟨rfl, ?_⟩
    rw [isNon_of R rx]
    exact k _ (.bl _)
  · rename_i a b e1 e2
    cases e
    cases view_bl rx e1; cases view_bl ry e2
    exact .inr ⟨_, _, rfl, rfl, k _ (.bl _)⟩
  · cases e
theorem sr_isNot {K : PySem.W.Frag} : SR K rIsNotAll (bOp (notF isD)) := by
  refine sr_of fun Z H s x y v u z p R rx ry e hp Qc k kn => ?_
  obtain ⟨⟨z', p'⟩, e', e2⟩ := Option.map_eq_some_iff.mp e
  cases e2
  unfold isD at e'
  split at e'
  · rename_i x' y' e2
    cases e'
    cases view_non ry e2
    refine .inl ⟨rfl, ?_⟩
    rw [isNon_of R rx]
    exact k _ (.bl _)
  · rename_i a b e1 e2
    cases e'
    cases view_bl rx e1; cases view_bl ry e2
    exact .inr ⟨_, _, rfl, rfl, k _ (.bl _)⟩
  · cases e'
end Sk
namespace Sk
open PySem PySem.Spec PyProof.Rows L2
/-! ### dicts -/
section
variable {κ : Type} [DecidableEq κ]
def valA (kvs : List (κ × D)) (k : κ) : Option D := (kvs.find? fun kv => decide (kv.1 = k)).map (·.2)
def putA (kvs : List (κ × D)) (k : κ) (v : D) : List (κ × D) :=
  if (kvs.any fun kv => decide (kv.1 = k)) = true then kvs.map (fun kv => if kv.1 = k then (kv.1, v) else kv) else kvs ++ [(k, v)]
def dropA (kvs : List (κ × D)) (k : κ) : List (κ × D) := kvs.filter fun kv => decide (kv.1 ≠ k)
variable {K : PySem.W.Frag} {H : Hp} {N : Addr → Prop} {kvs : List (κ × D)} {ws : List (κ × V)}
theorem rkv_len (r : Rkv K H N kvs ws) : kvs.length = ws.length := Paired.length r
theorem rkv_val (r : Rkv K H N kvs ws) (k : κ) : (∀ d, valA kvs k = some d → ∃ v, valV ws k = some v ∧ Rp K H N d v) ∧ (valA kvs k = none → valV ws k = none) := by
  induction r with
  | nil => exact ⟨fun d h => (by cases h), fun _ => rfl⟩
  | @cons p q r1 r2 h t ih =>
    obtain ⟨h1, h2⟩ := h
    by_cases e : p.1 = k
    · have e2 : q.1 = k := by rw [← h1]; exact e
      rw [valV_pos e2]
      have : valA (p :: r1) k = some p.2 := by simp [valA, List.find?_cons, e]
      rw [this]
      exact ⟨fun d h => (by cases h; exact ⟨_, rfl, h2⟩), fun h => (by cases h)⟩
    · have e2 : ¬ q.1 = k := by rw [← h1]; exact e
      rw [valV_neg e2]
      have : valA (p :: r1) k = valA r1 k := by simp [valA, List.find?_cons, e]
      rw [this]
      exact ih
theorem rkv_any (r : Rkv K H N kvs ws) (k : κ) : (kvs.any fun kv => decide (kv.1 = k)) = ws.any fun kv => decide (kv.1 = k) := by
  induction r with
  | nil => rfl
  | cons h t ih => rw [List.any_cons, List.any_cons, ih, h.1]
theorem rkv_upd (r : Rkv K H N kvs ws) (k : κ) {d : D} {v : V} (h : Rp K H N d v) : Rkv K H N (kvs.map (fun kv => if kv.1 = k then (kv.1, d) else kv)) (ws.map (fun kv => if kv.1 = k then (kv.1, v) else kv)) := by
  induction r with
  | nil => exact .nil
  | @cons p q r1 r2 g t ih =>
    rw [List.map_cons, List.map_cons]
    refine .cons ?_ ih
    by_cases e : p.1 = k
    · have e2 : q.1 = k := by rw [← g.1]; exact e
      rw [if_pos e, if_pos e2]
      exact ⟨g.1, h⟩
    · have e2 : ¬ q.1 = k := by rw [← g.1]; exact e
      rw [if_neg e, if_neg e2]
      exact g
theorem rkv_snoc (r : Rkv K H N kvs ws) (k : κ) {d : D} {v : V} (h : Rp K H N d v) : Rkv K H N (kvs ++ [(k, d)]) (ws ++ [(k, v)]) := by
  induction r with
  | nil => exact .cons ⟨rfl, h⟩ .nil
  | cons g t ih => exact .cons g ih
theorem rkv_put (r : Rkv K H N kvs ws) (k : κ) {d : D} {v : V} (h : Rp K H N d v) : Rkv K H N (putA kvs k d) (putK ws k v) := by
  unfold putA putK
  rw [rkv_any r k]
  split
  · exact rkv_upd r k h
  · exact rkv_snoc r k h
theorem rkv_drop (r : Rkv K H N kvs ws) (k : κ) : Rkv K H N (dropA kvs k) (dropK ws k) := by
  induction r with
  | nil => exact .nil
  | @cons p q _ _ g t ih =>
    unfold dropA dropK at ih ⊢
    rw [List.filter_cons, List.filter_cons, g.1]
    split
    · exact .cons g ih
    · exact ih
end
def keyD : D → Option Key
  | .int i => some (.inl i)
  | .str z => some (.inr (ofL z))
  | _ => none
def keysD : List D → Option (List Key)
  | [] => some []
  | d :: r => match keyD d with
    | some k => (keysD r).map (k :: ·)
    | none => none
theorem keyD_v {K : PySem.W.Frag} {H : Hp} {N : Addr → Prop} {d : D} {v : V} {k : Key} (r : Rp K H N d v) (e : keyD d = some k) : v = kV k := by
  cases r <;> first | (cases e; rfl) | cases e
theorem keysD_v {K : PySem.W.Frag} {H : Hp} {N : Addr → Prop} : ∀ {ds : List D} {vs : List V} {k : List Key}, Rps K H N ds vs → keysD ds = some k → vs = k.map kV
  | _, _, _, .nil, e => by cases e; rfl
  | _, _, _, .cons (d := d) h t, e => by
    unfold keysD at e
    cases hk : keyD d with
    | none => rw [hk] at e; cases e
    | some k1 =>
      rw [hk] at e
      obtain ⟨k2, e2, rfl⟩ := Option.map_eq_some_iff.mp e
      rw [keyD_v h hk, keysD_v t e2]
      rfl
/-- what a dict that is owned holds -/
def getA (s : Ah) (a : Addr) (y : D) : Option (Option D) := match s a with
  | some (.dK kvs) => (keyD y).map fun k => valA kvs k
  | some (.dT kvs) => match y with
    | .tup ds => (keysD ds).map fun k => valA kvs k
    | _ => none
  | _ => none
theorem getA_ok {K : PySem.W.Frag} {H : Hp} {s : Ah} (R : Rep K Z H s) {a : Addr} {y : D} {v : V} (r : Rp K H (Ow Z s) y v) {o : Option D} (e : getA s a y = some o) : (∀ d, o = some d → ∃ w, DGet H a v (some w) ∧ Rp K H (Ow Z s) d w) ∧ (o = none → DGet H a v none) := by
  unfold getA at e
  split at e
  · rename_i kvs es
    obtain ⟨k, ek, rfl⟩ := Option.map_eq_some_iff.mp e
    obtain ⟨ws, h, rk⟩ := R.at_ _ _ es
    obtain rfl := keyD_v r ek
    obtain ⟨h1, h2⟩ := rkv_val rk k
    refine ⟨fun d hd => ?_, fun hn => ?_⟩
    · obtain ⟨w, e1, e2⟩ := h1 d hd
      exact ⟨w, by rw [← e1]; exact DGet.k h, e2⟩
    · rw [← h2 hn]
      exact DGet.k h
  · rename_i kvs es
    split at e
    · rename_i ds
      obtain ⟨k, ek, rfl⟩ := Option.map_eq_some_iff.mp e
      obtain ⟨ws, h, rk⟩ := R.at_ _ _ es
      cases r with
      | tup hp n rs =>
        have := keysD_v rs ek
        subst this
        obtain ⟨h1, h2⟩ := rkv_val rk k
        refine ⟨fun d hd => ?_, fun hn => ?_⟩
        · obtain ⟨w, e1, e2⟩ := h1 d hd
          exact ⟨w, by rw [← e1]; exact DGet.t h hp, e2⟩
        · rw [← h2 hn]
          exact DGet.t h hp
    · cases e
  · cases e
abbrev FS2 := Ah → D → D → Option DP
def bOpS (f : FS2) : AR2 := fun x y s Q => opt (f s x y) (fun r => Rq r.2 (Q r.1 s) ⟨⟩) ⟨⟩
theorem sr_ofS {K : PySem.W.Frag} {r : R2} {f : FS2} (h : ∀ Z H s x y v u z p, Rep K Z H s → Rp K H (Ow Z s) x v → Rp K H (Ow Z s) y u → f s x y = some (z, p) → p → ∀ Qc : VK, (∀ w, Rp K H (Ow Z s) z w → Qc w H) → r v u H Qc) : SR K r (bOpS f) := by
  intro Z H s x y v u Q Qc R rx ry q L
  obtain ⟨⟨z, p⟩, e, hp, q⟩ := opt_of q
  exact h Z H s x y v u z p R rx ry e hp Qc (fun w rw' => L.here R rw' q)
/-! ### in -/
def D.flat : D → Bool
  | .non => true
  | .bl _ => true
  | .int _ => true
  | .str _ => true
  | _ => false
def D.isRef : D → Option Addr
  | .ref a => some a
  | _ => none
def inD : F2
  | .str c, .str z => match c with
    | [c] => some (.bl (decide (c ∈ z)), True)
    | _ => none
  | x, .lst ys => some (.bl (ys.any fun y => deq y x), (x.flat = true ∧ ys.all D.flat = true) ∨ (okD x ∧ okD (.lst ys)))
  | x, .tup ys => some (.bl (ys.any fun y => deq y x), x.flat = true ∧ ys.all D.flat = true)
  | _, _ => none
def inA : FS2 := fun s x y => match y with
  | .ref a => match getA s a x with
    | some o => some (.bl o.isSome, True)
    | none => inD (view s x) (view s y)
  | y => inD (view s x) (view s y)
def notA (f : FS2) : FS2 := fun s x y => (f s x y).map fun r => (r.1.neg, r.2)
def rInDict : R2 := fun y x H Q => ∃ a o, x = .ref a ∧ DGet H a y o ∧ Q (.bl o.isSome) H
def rNotInDict : R2 := fun y x H Q => ∃ a o, x = .ref a ∧ DGet H a y o ∧ Q (.bl (!o.isSome)) H
theorem op_inDict {X : Cx} (hu : X.A.units + 64 < cLine) : OpR X (compareOp .In) rInDict := by
  intro pins s σ H y x u v Q I ry rx h
  obtain ⟨a, o, rfl, g, q⟩ := h
  cases rx
  exact d_in (by omega) I g ry fun s3 I3 => ⟨.bl o.isSome, H, I3, rfl, q⟩
theorem op_notInDict {X : Cx} (hu : X.A.units + 64 < cLine) : OpR X (compareOp .NotIn) rNotInDict := by
  intro pins s σ H y x u v Q I ry rx h
  obtain ⟨a, o, rfl, g, q⟩ := h
  cases rx
  exact d_notIn (by omega) I g ry fun s3 I3 => ⟨.bl (!o.isSome), H, I3, rfl, q⟩
def rInSg : R2 := fun x y H Q => ∃ (c : Nat) (z : Str), x = .str ⟨#[c]⟩ ∧ y = .str z ∧ Q (.bl (decide (c ∈ z.cps.toList))) H
def rNotInSg : R2 := fun x y H Q => ∃ (c : Nat) (z : Str), x = .str ⟨#[c]⟩ ∧ y = .str z ∧ Q (.bl (!decide (c ∈ z.cps.toList))) H
def rInAll (K : PySem.W.Frag) : R2 := or2 rInDict (or2 rInSg (or2 (rIn K false) (rInD K)))
def rNotInAll (K : PySem.W.Frag) : R2 := or2 rNotInDict (or2 rNotInSg (or2 (rIn K true) (rNotInD K)))
theorem Room.units1 {k : Nat} {A : Around} (r : Room k A) : A.units + 65 < cLine := by have := r.un; omega
theorem op_inAll {X : Cx} (hu : X.A.units + 65 < cLine) : OpR X (compareOp .In) (rInAll X.K) := opr_or (op_inDict (by omega)) (opr_or op_in_sign (opr_or op_in_seq (op_inD hu)))
theorem op_notInAll {X : Cx} (hu : X.A.units + 65 < cLine) : OpR X (compareOp .NotIn) (rNotInAll X.K) := opr_or (op_notInDict (by omega)) (opr_or op_notIn_sign (opr_or op_notIn_seq (op_notInD hu)))
theorem flat_v {K : PySem.W.Frag} {H : Hp} {N : Addr → Prop} {d : D} {v : V} (r : Rp K H N d v) (f : d.flat = true) : flatV v = true := by
  cases r <;> first | rfl | cases f
theorem flat_eq {K : PySem.W.Frag} {H : Hp} {N : Addr → Prop} {d e : D} {v u : V} (r : Rp K H N d v) (q : Rp K H N e u) (f : d.flat = true) (g : e.flat = true) : eqV v u = deq d e := by
  cases r <;> first | cases f | skip
  all_goals (cases q <;> first | cases g | skip)
  all_goals (unfold deq D.py; simp only [PyData.eqv]; rfl)
theorem flat_all {K : PySem.W.Frag} {H : Hp} {N : Addr → Prop} : ∀ {ds : List D} {vs : List V}, Rps K H N ds vs → ds.all D.flat = true → vs.all flatV = true
  | _, _, .nil, _ => rfl
  | _, _, .cons h t, f => by
    rw [List.all_cons, Bool.and_eq_true] at f ⊢
    exact ⟨flat_v h f.1, flat_all t f.2⟩
theorem flat_any {K : PySem.W.Frag} {H : Hp} {N : Addr → Prop} {x : D} {u : V} (q : Rp K H N x u) (g : x.flat = true) : ∀ {ds : List D} {vs : List V}, Rps K H N ds vs → ds.all D.flat = true → inV u vs = ds.any fun y => deq y x
  | _, _, .nil, _ => rfl
  | _, _, .cons h t, f => by
    rw [List.all_cons, Bool.and_eq_true] at f
    unfold inV
    rw [List.any_cons, List.any_cons, flat_eq h q f.1 g]
    have := flat_any q g t f.2
    unfold inV at this
    rw [this]
theorem any_py (ds : List D) (x : D) : ((D.py.pys ds).any fun z => PyData.eqv z x.py) = ds.any fun y => deq y x := by
  induction ds with
  | nil => rfl
  | cons d r ih =>
    show (PyData.eqv d.py x.py || (D.py.pys r).any _) = _
    rw [ih]
    rfl
theorem view_flat {K : PySem.W.Frag} {H : Hp} {s : Ah} {d : D} {v : V} (R : Rep K Z H s) (r : Rp K H (Ow Z s) d v) (f : (view s d).flat = true) : Rp K H (Ow Z s) (view s d) v := by
  rcases view_rp R r with h | ⟨ds, e⟩
  · exact h
  · rw [e] at f; cases f
theorem inD_ok {K : PySem.W.Frag} {H : Hp} {s : Ah} {x y : D} {v u : V} (R : Rep K Z H s) (rx : Rp K H (Ow Z s) x v) (ry : Rp K H (Ow Z s) y u) {z : D} {p : Prop} (e : inD (view s x) (view s y) = some (z, p)) (hp : p) :
    ∃ b, z = .bl b ∧ (∀ Qc : VK, Qc (.bl b) H → or2 rInSg (or2 (rIn K false) (rInD K)) v u H Qc) ∧ ∀ Qc : VK, Qc (.bl (!b)) H → or2 rNotInSg (or2 (rIn K true) (rNotInD K)) v u H Qc := by
  unfold inD at e
  split at e
  · rename_i c z' e1 e2
    split at e
    · cases e
      cases view_str rx e1; cases view_str ry e2
      exact ⟨_, rfl, fun Qc k => .inl ⟨_, _, rfl, rfl, k⟩, fun Qc k => .inl ⟨_, _, rfl, rfl, k⟩⟩
    · cases e
  · rename_i ys e2
    cases e
    obtain ⟨q, vs, rfl, h1, r1⟩ := view_lst R ry e2
    refine ⟨_, rfl, ?_⟩
    rcases hp with ⟨f1, f2⟩ | ⟨o1, o2⟩
    · have rx' := view_flat R rx f1
      have fa := flat_any rx' f1 r1 f2
      refine ⟨fun Qc k => .inr (.inl ⟨q, vs, rfl, .inl h1, flat_v rx' f1, flat_all r1 f2, ?_⟩), fun Qc k => .inr (.inl ⟨q, vs, rfl, .inl h1, flat_v rx' f1, flat_all r1 f2, ?_⟩)⟩
      · rw [fa]; exact k
      · rw [fa]; exact k
    · have d1 := view_dp R rx o1.1
      have d2 : Dp K H (.ref q) (.list (D.py.pys ys)) := .lst h1 (rps_dp r1 o2.1)
      refine ⟨fun Qc k => .inr (.inr ⟨_, _, d1, d2, o1.2, o2.2, ?_⟩), fun Qc k => .inr (.inr ⟨_, _, d1, d2, o1.2, o2.2, ?_⟩)⟩
      · rw [any_py]; exact k
      · rw [any_py]; exact k
  · rename_i ys e2
    cases e
    obtain ⟨q, vs, rfl, h1, n1, r1⟩ := view_tup ry e2
    obtain ⟨f1, f2⟩ := hp
    have rx' := view_flat R rx f1
    have fa := flat_any rx' f1 r1 f2
    refine ⟨_, rfl, fun Qc k => .inr (.inl ⟨q, vs, rfl, .inr (SqT.of h1), flat_v rx' f1, flat_all r1 f2, ?_⟩), fun Qc k => .inr (.inl ⟨q, vs, rfl, .inr (SqT.of h1), flat_v rx' f1, flat_all r1 f2, ?_⟩)⟩
    · rw [fa]; exact k
    · rw [fa]; exact k
  · cases e
theorem inA_ok {K : PySem.W.Frag} {H : Hp} {s : Ah} {x y : D} {v u : V} (R : Rep K Z H s) (rx : Rp K H (Ow Z s) x v) (ry : Rp K H (Ow Z s) y u) {z : D} {p : Prop} (e : inA s x y = some (z, p)) (hp : p) :
    ∃ b, z = .bl b ∧ (∀ Qc : VK, Qc (.bl b) H → rInAll K v u H Qc) ∧ ∀ Qc : VK, Qc (.bl (!b)) H → rNotInAll K v u H Qc := by
  have go : inD (view s x) (view s y) = some (z, p) → ∃ b, z = .bl b ∧ (∀ Qc : VK, Qc (.bl b) H → rInAll K v u H Qc) ∧ ∀ Qc : VK, Qc (.bl (!b)) H → rNotInAll K v u H Qc := fun e => by
    obtain ⟨b, h1, h2, h3⟩ := inD_ok R rx ry e hp
    exact ⟨b, h1, fun Qc k => .inr (h2 Qc k), fun Qc k => .inr (h3 Qc k)⟩
  unfold inA at e
  split at e
  · rename_i a
    split at e
    · rename_i o eo
      cases e
      cases ry
      obtain ⟨g1, g2⟩ := getA_ok R rx eo
      cases o with
      | none => exact ⟨_, rfl, fun Qc k => .inl ⟨a, none, rfl, g2 rfl, k⟩, fun Qc k => .inl ⟨a, none, rfl, g2 rfl, k⟩⟩
      | some d =>
        obtain ⟨w, gd, _⟩ := g1 d rfl
        exact ⟨_, rfl, fun Qc k => .inl ⟨a, some w, rfl, gd, k⟩, fun Qc k => .inl ⟨a, some w, rfl, gd, k⟩⟩
    · exact go e
  · exact go e
theorem sr_in {K : PySem.W.Frag} : SR K (rInAll K) (bOpS inA) := by
  refine sr_ofS fun Z H s x y v u z p R rx ry e hp Qc k => ?_
  obtain ⟨b, rfl, h1, _⟩ := inA_ok R rx ry e hp
  exact h1 Qc (k _ (.bl _))
theorem sr_notIn {K : PySem.W.Frag} : SR K (rNotInAll K) (bOpS (notA inA)) := by
  refine sr_ofS fun Z H s x y v u z p R rx ry e hp Qc k => ?_
  obtain ⟨⟨z', p'⟩, e', e2⟩ := Option.map_eq_some_iff.mp e
  cases e2
  obtain ⟨b, rfl, _, h1⟩ := inA_ok R rx ry e' hp
  exact h1 Qc (k _ (.bl _))
/-! ### subscripts -/
def ixD : F2
  | .lst ds, .int i => (atI ds i).map fun d => (d, True)
  | .tup ds, .int i => (atI ds i).map fun d => (d, True)
  | .str z, .int i => (atI z i).map fun c => (.str [c], z.length ≤ 16777216)
  | _, _ => none
def ixA : FS2 := fun s x y => match x with
  | .ref a => match getA s a y with
    | some (some d) => some (d, True)
    | _ => ixD (view s x) (view s y)
  | x => ixD (view s x) (view s y)
theorem rps_atI {K : PySem.W.Frag} {H : Hp} {N : Addr → Prop} {ds : List D} {vs : List V} (r : Rps K H N ds vs) {i : Int} {d : D} (e : atI ds i = some d) : ∃ v, atI vs i = some v ∧ Rp K H N d v := by
  unfold atI at e ⊢
  rw [r.len] at e
  cases h : ixN vs.length i with
  | none => rw [h] at e; cases e
  | some j =>
    rw [h] at e
    exact r.get e
def rIxDict : R2 := fun x y H Q => ∃ a v, x = .ref a ∧ DGet H a y (some v) ∧ Q v H
theorem ix_dict {X : Cx} (hu : X.A.units + 65 < cLine) : IxR X rIxDict := by
  intro value slice pins s σ H x y v u Q I rx ry h hs
  obtain ⟨a, w, rfl, g, q⟩ := h
  cases rx
  exact tail_any (dict_typeIs I g) PySem.F.slot_dict_getitem.lookup (d_getItem (by omega) I g ry fun w' s3 I3 rw' => ⟨w, H, I3, rw', q⟩) hs
theorem ixr_or {X : Cx} {r r' : R2} (h : IxR X r) (h' : IxR X r') : IxR X (or2 r r') := IxR.or h h'
def rIxAll (K : PySem.W.Frag) : R2 := or2 rIxDict (or2 (rIxL K) (or2 (rIxT K) rIxS))
theorem ix_all {X : Cx} (hu : X.A.units + 65 < cLine) : IxR X (rIxAll X.K) := ixr_or (ix_dict hu) (ixr_or ix_list (ixr_or ix_tup ix_str))
theorem ixD_ok {K : PySem.W.Frag} {H : Hp} {s : Ah} {x y : D} {v u : V} (R : Rep K Z H s) (rx : Rp K H (Ow Z s) x v) (ry : Rp K H (Ow Z s) y u) {z : D} {p : Prop} (e : ixD (view s x) (view s y) = some (z, p)) (hp : p)
    {Qc : VK} (k : ∀ w, Rp K H (Ow Z s) z w → Qc w H) : or2 (rIxL K) (or2 (rIxT K) rIxS) v u H Qc := by
  unfold ixD at e
  split at e
  · rename_i ds i e1 e2
    obtain ⟨d, ed, e3⟩ := Option.map_eq_some_iff.mp e
    cases e3
    obtain ⟨q, vs, rfl, h1, r1⟩ := view_lst R rx e1
    cases view_int ry e2
    obtain ⟨w, a1, a2⟩ := rps_atI r1 ed
    exact .inl ⟨q, vs, i, w, rfl, rfl, h1, a1, k _ a2⟩
  · rename_i ds i e1 e2
    obtain ⟨d, ed, e3⟩ := Option.map_eq_some_iff.mp e
    cases e3
    obtain ⟨q, vs, rfl, h1, n1, r1⟩ := view_tup rx e1
    cases view_int ry e2
    obtain ⟨w, a1, a2⟩ := rps_atI r1 ed
    exact .inr (.inl ⟨q, vs, i, w, rfl, rfl, SqT.of h1, a1, k _ a2⟩)
  · rename_i ds i e1 e2
    obtain ⟨d, ed, e3⟩ := Option.map_eq_some_iff.mp e
    cases e3
    cases view_str rx e1; cases view_int ry e2
    exact .inr (.inr ⟨_, i, d, rfl, rfl, by rw [ofL_len]; exact hp, ed, k _ (.str [d])⟩)
  · cases e
theorem sr_ix {K : PySem.W.Frag} : SR K (rIxAll K) (bOpS ixA) := by
  refine sr_ofS fun Z H s x y v u z p R rx ry e hp Qc k => ?_
  unfold ixA at e
  split at e
  · rename_i a
    split at e
    · rename_i d ed
      cases e
      cases rx
      obtain ⟨g1, _⟩ := getA_ok R ry ed
      obtain ⟨w, gd, rw'⟩ := g1 _ rfl
      exact .inl ⟨a, w, rfl, gd, k _ rw'⟩
    · exact .inr (ixD_ok R rx ry e hp k)
  · exact .inr (ixD_ok R rx ry e hp k)
section
variable {X : Cx} {W : WX} {a b : Expr} {ta tb : ATE} {pos : Pos}
theorem ae_ix {r : R2} {f : AR2} (hr : IxR X r) (hs : SR X.K r f) (ha : AE X W a ta) (hb : AE X W b tb) (hp : PlainIx b) : AE X W (.Subscript a b pos) (aOp f ta tb) := ⟨weakE (pe_ix hr ha.pe hb.pe hp) (conc_op hs)⟩
end
/-! ### slices -/
def cut {α : Type} (xs : List α) (lo hi : Option Int) : List α := (xs.drop (HT.sIx xs.length 0 lo)).take (HT.sIx xs.length xs.length hi - HT.sIx xs.length 0 lo)
def slD : D → Option Int → Option Int → Option DP
  | .str z, lo, hi => some (.str (cut z lo hi), z.length ≤ 16777216)
  | .lst ds, lo, hi => some (.lst (cut ds lo hi), True)
  | .tup ds, lo, hi => some (.tup (cut ds lo hi), True)
  | _, _, _ => none
abbrev ATO := ASt → Ah → (Option Int → Ah → Prop) → AX → Prop
def intD : D → Option Int
  | .int i => some i
  | _ => none
def aNoPart : ATO := fun _ s Q _ => Q none s
def aPart (a : ATE) : ATO := fun as s Q E => a as s (fun x s1 => opt (intD x) (fun i => Q (some i) s1) ⟨⟩) E
def aSl (a : ATE) (lo hi : ATO) : ATE := fun as s Q E => a as s (fun x s1 => lo as s1 (fun l s2 => hi as s2 (fun u s3 => opt (slD (view s3 x) l u) (fun r => Rq r.2 (Q r.1 s3) ⟨⟩) ⟨⟩) E) E) E
def concO (K : PySem.W.Frag) (W : WX) (a : ATO) : TO := fun σ H Qc => ∃ Z as s Q E, Rst K Z σ H as s ∧ a as s Q E ∧ (∀ o s' H', Rep K Z H' s' → Fr H s H' s' → Q o s' → Qc o H') ∧ LnkX K Z W σ H s E
structure AO (X : Cx) (W : WX) (e : Option Expr) (a : ATO) : Prop where
  po : PO X e (concO X.K W a)
theorem intD_v {K : PySem.W.Frag} {H : Hp} {N : Addr → Prop} {d : D} {v : V} {i : Int} (r : Rp K H N d v) (e : intD d = some i) : v = .int i := by
  cases r <;> first | (cases e; rfl) | cases e
section
variable {X : Cx} {W : WX} {e : Expr} {te : ATE} {lo hi : Option Expr} {tl th : ATO} {pos p2 : Pos}
theorem weakO {eo : Option Expr} {t t' : TO} (h : PO X eo t) (k : ∀ σ H Q, t' σ H Q → t σ H Q) : PO X eo t' := ⟨fun pins s σ H Q I q => h.run pins s σ H Q I (k σ H Q q)⟩
theorem ao_none : AO X W none aNoPart := ⟨weakO po_none fun σ H Qc => by
  rintro ⟨Z, as, s, Q, E, R, q, L, _⟩
  exact L none s H R.rep (Fr.refl H s) q⟩
theorem ao_some (h : AE X W e te) : AO X W (some e) (aPart te) := ⟨weakO (po_some h.pe) fun σ H Qc => by
  rintro ⟨Z, as, s, Q, E, R, q, L, LX⟩
  show concE X.K W te σ H fun x H1 => ∃ i, x = .int i ∧ Qc (some i) H1
  refine conc_bind (Q1 := fun x s1 => opt (intD x) (fun i => Q (some i) s1) ⟨⟩) R LX q fun x s1 v H1 R1 r1 f1 L1 q1 => ?_
  obtain ⟨i, ei, q2⟩ := opt_of q1
  exact ⟨i, intD_v r1 ei, L _ s1 H1 R1.rep f1 q2⟩⟩
theorem slr_or {r r' : V → Option Int → Option Int → Hp → VK → Prop} (h : SlR X r) (h' : SlR X r') : SlR X (fun x lo hi H Q => r x lo hi H Q ∨ r' x lo hi H Q) := SlR.or h h'
theorem cutS_ofL (z : List Nat) (lo hi : Option Int) : cutS (ofL z) lo hi = ofL (cut z lo hi) := by
  unfold cutS cut
  rw [ofL_len]
  rfl
theorem ae_slice (he : AE X W e te) (hl : AO X W lo tl) (hu : AO X W hi th) : AE X W (.Subscript e (.Slice lo hi none p2) pos) (aSl te tl th) := by
  refine ⟨weakE (pe_slice (slr_or sl_str (slr_or sl_list sl_tupA)) he.pe hl.po hu.po) ?_⟩
  rintro σ H Qc ⟨Z, as, s, Q, E, R, q, L, LX⟩
  refine conc_bind (Q1 := fun x s1 => tl as s1 (fun l s2 => th as s2 (fun u s3 => opt (slD (view s3 x) l u) (fun r => Rq r.2 (Q r.1 s3) ⟨⟩) ⟨⟩) E) E) R LX q fun x s1 v H1 R1 r1 f1 L1 q1 => ?_
  refine ⟨Z, as, s1, fun l s2 => th as s2 (fun u s3 => opt (slD (view s3 x) l u) (fun r => Rq r.2 (Q r.1 s3) ⟨⟩) ⟨⟩) E, E, R1, q1, fun l s2 H2 R2 f2 q2 => ?_, L1⟩
  refine ⟨Z, as, s2, fun u s3 => opt (slD (view s3 x) l u) (fun r => Rq r.2 (Q r.1 s3) ⟨⟩) ⟨⟩, E, R1.fr R2 f2, q2, fun u s3 H3 R3 f3 q3 => ?_, L1.fr f2⟩
  have rx := (r1.fr f2).fr f3
  have LL := L.fr ((f1.trans f2).trans f3)
  obtain ⟨⟨z, p⟩, ez, hp, q4⟩ := opt_of q3
  unfold slD at ez
  split at ez
  · rename_i l u _ _ _ z' e1
    cases ez
    cases view_str rx e1
    exact .inl ⟨_, rfl, by rw [ofL_len]; exact hp, LL.here R3 (rp_str (cutS_ofL z' l u)) q4⟩
  · rename_i l u _ _ _ ds e1
    cases ez
    obtain ⟨a, vs, rfl, h1, r2⟩ := view_lst R3 rx e1
    refine .inr (.inl ⟨a, vs, rfl, h1, fun p0 hp0 => ?_⟩)
    obtain ⟨R', f', _⟩ := R3.new (u := .lst (cutV vs l u)) hp0
    refine LL _ s3 _ _ R' (rp_newL R3 ?_ hp0) f' q4
    unfold cut cutV
    rw [r2.len]
    exact (r2.drop _).take _
  · rename_i l u _ _ _ ds e1
    cases ez
    obtain ⟨a, vs, rfl, h1, n1, r2⟩ := view_tup rx e1
    refine .inr (.inr ⟨a, vs, rfl, SqT.of h1, fun hw => ?_, fun hw p0 hp0 => ?_⟩)
    · refine LL.here R3 ?_ q4
      have : cut ds l u = ds := by
        unfold cut
        rw [r2.len, hw.1, hw.2, List.drop_zero, Nat.sub_zero, ← r2.len, List.take_length]
      rw [this]
      exact .tup h1 n1 r2
    · obtain ⟨R', f', _⟩ := R3.new (u := .tup (cutV vs l u)) hp0
      refine LL _ s3 _ _ R' (rp_newT R3 ?_ hp0) f' q4
      unfold cut cutV
      rw [r2.len]
      exact (r2.drop _).take _
  · cases ez
end
end Sk
namespace Sk
open PySem PySem.Spec PyProof.Rows L2
/-! ### tests -/
def truD : D → Option (Bool × Prop)
  | .non => some (false, True)
  | .bl b => some (b, True)
  | .int i => some (!decide (i = 0), True)
  | .str z => some (!z.isEmpty, z.length ≤ 16777216)
  | .lst ds => some (!ds.isEmpty, True)
  | .tup ds => some (!ds.isEmpty, True)
  | _ => none
def truO : Option Ob → Option (Bool × Prop)
  | some (.dK kvs) => some (!kvs.isEmpty, True)
  | _ => none
def truA (s : Ah) (x : D) : Option (Bool × Prop) := match truD (view s x) with
  | some r => some r
  | none => match x with
    | .ref a => truO (s a)
    | _ => none
theorem rps_empty {K : PySem.W.Frag} {H : Hp} {N : Addr → Prop} {ds : List D} {vs : List V} (r : Rps K H N ds vs) : vs.isEmpty = ds.isEmpty := by cases r <;> rfl
theorem rkv_empty {κ : Type} {K : PySem.W.Frag} {H : Hp} {N : Addr → Prop} {ds : List (κ × D)} {vs : List (κ × V)} (r : Rkv K H N ds vs) : vs.isEmpty = ds.isEmpty := by cases r <;> rfl
theorem truA_ok {K : PySem.W.Frag} {Z : Addr → Prop} {H : Hp} {s : Ah} {x : D} {v : V} (R : Rep K Z H s) (r : Rp K H (Ow Z s) x v) {b : Bool} {p : Prop} (e : truA s x = some (b, p)) (hp : p) : TruV K v H b := by
  unfold truA at e
  split at e
  · rename_i q e1
    cases e
    unfold truD at e1
    split at e1
    · rename_i e2; cases e1; cases view_non r e2; rfl
    · rename_i e2; cases e1; cases view_bl r e2; rfl
    · rename_i e2
      cases e1
      cases view_int r e2
      show _ = (_ != _)
      rw [bne, Bool.beq_eq_decide_eq]
    · rename_i z e2
      cases e1
      cases view_str r e2
      refine ⟨by rw [ofL_len]; exact hp, ?_⟩
      rw [ofL_len]
      cases z with
      | nil => rfl
      | cons c t =>
        rw [bne, Bool.beq_eq_decide_eq]
        symm
        rw [decide_eq_false (by rw [List.length_cons]; omega)]
        rfl
    · rename_i ds e2
      cases e1
      obtain ⟨a, vs, rfl, h1, r1⟩ := view_lst R r e2
      exact .inl ⟨vs, h1, by rw [rps_empty r1]⟩
    · rename_i ds e2
      cases e1
      obtain ⟨a, vs, rfl, h1, _, r1⟩ := view_tup r e2
      exact .inr (.inl ⟨vs, SqT.of h1, by rw [rps_empty r1]⟩)
    · cases e1
  · split at e
    · rename_i a
      unfold truO at e
      split at e
      · rename_i kvs e2
        cases e
        cases r
        obtain ⟨ws, h, rk⟩ := R.at_ _ _ e2
        exact .inr (.inr ⟨ws, h, by rw [rkv_empty rk]⟩)
      · cases e
    · cases e
def blD : D → Option Bool
  | .bl b => some b
  | _ => none
def asB : D → Bool → D
  | .bl _, b => .bl b
  | x, _ => x
def aTest (a : ATE) : ATT := fun as s Q E => a as s (fun x s1 => opt (blD x) (fun b => Q b s1) ⟨⟩) E
def aTruth (a : ATE) : ATT := fun as s Q E => a as s (fun x s1 => opt (truA s1 x) (fun r => Rq r.2 (Q r.1 s1) ⟨⟩) ⟨⟩) E
def aAnd (t u : ATT) : ATT := fun as s Q E => t as s (fun c s1 => Br c (u as s1 Q E) (Q false s1) ⟨⟩ ⟨⟩) E
def aOr (t u : ATT) : ATT := fun as s Q E => t as s (fun c s1 => Br c (Q true s1) (u as s1 Q E) ⟨⟩ ⟨⟩) E
def aNot (t : ATT) : ATT := fun as s Q E => t as s (fun c s1 => Q (!c) s1) E
def aAndV (ta tb : ATE) : ATE := fun as s Q E => ta as s (fun x s1 => opt (truA s1 x) (fun r => Rq r.2 (Br r.1 (tb as s1 Q E) (Q (asB x false) s1) ⟨⟩ ⟨⟩) ⟨⟩) ⟨⟩) E
def aOrV (ta tb : ATE) : ATE := fun as s Q E => ta as s (fun x s1 => opt (truA s1 x) (fun r => Rq r.2 (Br r.1 (Q (asB x true) s1) (tb as s1 Q E) ⟨⟩ ⟨⟩) ⟨⟩) ⟨⟩) E
def aNotV (ta : ATE) : ATE := fun as s Q E => ta as s (fun x s1 => opt (truA s1 x) (fun r => Rq r.2 (Q (.bl (!r.1)) s1) ⟨⟩) ⟨⟩) E
def aIf (t : ATT) (ta tb : ATE) : ATE := fun as s Q E => t as s (fun c s1 => Br c (ta as s1 Q E) (tb as s1 Q E) ⟨⟩ ⟨⟩) E
def aChain (f g : AR2) (ta tb tc : ATE) : ATE := fun as s Q E => ta as s (fun x s1 => tb as s1 (fun y s2 => f x y s2 fun z s3 => opt (blD z) (fun k => Br k (tc as s3 (fun w s4 => g y w s4 Q) E) (Q (.bl false) s3) ⟨⟩ ⟨⟩) ⟨⟩) E) E
theorem blD_v {K : PySem.W.Frag} {H : Hp} {N : Addr → Prop} {d : D} {v : V} {b : Bool} (r : Rp K H N d v) (e : blD d = some b) : v = .bl b := by
  cases r <;> first | (cases e; rfl) | cases e
theorem asB_rp {K : PySem.W.Frag} {H : Hp} {s : Ah} {x : D} {v : V} {b : Bool} (r : Rp K H (Ow Z s) x v) (h : truA s x = some (b, p)) : Rp K H (Ow Z s) (asB x b) v := by
  cases x <;> first | exact r | skip
  have e : (some (_, True) : Option (Bool × Prop)) = some (b, p) := h
  cases e
  exact r
section
variable {X : Cx} {W : WX} {a b c : Expr} {ta tb tc : ATE} {tA tB' : ATT} {rest : List Expr} {pos : Pos}
theorem conc_test {K : PySem.W.Frag} {σ : L2.St} {H : Hp} {Qc : Bool → Hp → Prop} (h : concT K W (aTest ta) σ H Qc) : concE K W ta σ H (fun x H' => ∃ k, x = .bl k ∧ Qc k H') := by
  obtain ⟨Z, as, s, Q, E, R, q, L, LX⟩ := h
  refine ⟨Z, as, s, _, E, R, q, fun d s' v H' R' r f q' => ?_, LX⟩
  obtain ⟨k, ek, q2⟩ := opt_of q'
  exact ⟨k, blD_v r ek, L k s' H' R' f q2⟩
theorem at_cmp {op : CmpOp} {r : R2} {f : AR2} (ho : OpR X (compareOp op) r) (hs : SR X.K r f) (ha : AE X W a ta) (hb : AE X W b tb) (hm : behindInMarks op b = false) : AT X W (.Compare a [op] [b] pos) (aTest (aOp f ta tb)) :=
  ⟨weakT (pt_cmpR ho ha.pe hb.pe hm) fun σ H Qc h => conc_op hs _ _ _ (conc_test h)⟩
theorem at_truth (ha : AE X W a ta) (he : ∀ whole, isTrue a X.env whole = (do let v ← whole; standAt a.pos; holding [v] (truthy v))) : AT X W a (aTruth ta) := by
  refine ⟨weakT (pt_truth ha.pe he) ?_⟩
  rintro σ H Qc ⟨Z, as, s, Q, E, R, q, L, LX⟩
  refine ⟨Z, as, s, _, E, R, q, fun d s' v H' R' r f q' => ?_, LX⟩
  obtain ⟨⟨k, p⟩, ek, hp, q2⟩ := opt_of q'
  exact ⟨k, truA_ok R' r ek hp, L k s' H' R' f q2⟩
theorem aw_and1 (ha : AT X W a tA) : AW X W (.BoolOp .And [a] pos) tA := ⟨pw_and1 ha.pt⟩
theorem aw_or1 (ha : AT X W a tA) : AW X W (.BoolOp .Or [a] pos) tA := ⟨pw_or1 ha.pt⟩
theorem AW.at_ {e : Expr} {t : ATT} (h : AW X W e t) : AT X W e t := ⟨h.pw.pt⟩
theorem aw_and (ha : AT X W a tA) (hb : AW X W (.BoolOp .And (b :: rest) pos) tB') : AW X W (.BoolOp .And (a :: b :: rest) pos) (aAnd tA tB') := by
  refine ⟨weakW (pw_and ha.pt hb.pw) ?_⟩
  rintro σ H Qc ⟨Z, as, s, Q, E, R, q, L, LX⟩
  show concT X.K W tA σ H fun c H1 => if c = true then concT X.K W tB' σ H1 Qc else Qc false H1
  refine conc_bindT (Q1 := fun c s1 => Br c (tB' as s1 Q E) (Q false s1) ⟨⟩ ⟨⟩) R LX q fun c s1 H1 R1 f1 L1 q1 => ?_
  cases c with
  | true => exact b_t ⟨Z, as, s1, Q, E, R1, by rw [Br_true] at q1; exact q1, fun b s' H' R' f' q' => L b s' H' R' (f1.trans f') q', L1⟩
  | false => exact b_f (L false s1 H1 R1.rep f1 (by rw [Br_false] at q1; exact q1))
theorem aw_or (ha : AT X W a tA) (hb : AW X W (.BoolOp .Or (b :: rest) pos) tB') : AW X W (.BoolOp .Or (a :: b :: rest) pos) (aOr tA tB') := by
  refine ⟨weakW (pw_or ha.pt hb.pw) ?_⟩
  rintro σ H Qc ⟨Z, as, s, Q, E, R, q, L, LX⟩
  show concT X.K W tA σ H fun c H1 => if c = true then Qc true H1 else concT X.K W tB' σ H1 Qc
  refine conc_bindT (Q1 := fun c s1 => Br c (Q true s1) (tB' as s1 Q E) ⟨⟩ ⟨⟩) R LX q fun c s1 H1 R1 f1 L1 q1 => ?_
  cases c with
  | true => exact b_t (L true s1 H1 R1.rep f1 (by rw [Br_true] at q1; exact q1))
  | false => exact b_f ⟨Z, as, s1, Q, E, R1, by rw [Br_false] at q1; exact q1, fun b s' H' R' f' q' => L b s' H' R' (f1.trans f') q', L1⟩
theorem at_not (ha : AT X W a tA) : AT X W (.UnaryOp .Not a pos) (aNot tA) := by
  refine ⟨weakT (pt_not ha.pt) ?_⟩
  rintro σ H Qc ⟨Z, as, s, Q, E, R, q, L, LX⟩
  exact ⟨Z, as, s, _, E, R, q, fun c s1 H1 R1 f1 q1 => L (!c) s1 H1 R1 f1 q1, LX⟩
theorem ae_one {op} (h : AE X W a ta) : AE X W (.BoolOp op [a] pos) ta := ⟨pe_one h.pe⟩
theorem ae_and (ha : AE X W a ta) (hb : AE X W (.BoolOp .And (b :: rest) pos) tb) : AE X W (.BoolOp .And (a :: b :: rest) pos) (aAndV ta tb) := by
  refine ⟨weakE (pe_andT ha.pe hb.pe) ?_⟩
  rintro σ H Qc ⟨Z, as, s, Q, E, R, q, L, LX⟩
  refine conc_bind (Q1 := fun x s1 => opt (truA s1 x) (fun r => Rq r.2 (Br r.1 (tb as s1 Q E) (Q (asB x false) s1) ⟨⟩ ⟨⟩) ⟨⟩) ⟨⟩) R LX q fun x s1 v H1 R1 r1 f1 L1 q1 => ?_
  obtain ⟨⟨k, p⟩, ek, hp, q2⟩ := opt_of q1
  refine ⟨k, truA_ok R1.rep r1 ek hp, ?_⟩
  cases k with
  | true => exact b_t ⟨Z, as, s1, Q, E, R1, by rw [Br_true] at q2; exact q2, L.fr f1, L1⟩
  | false => exact b_f (L _ s1 _ H1 R1.rep (asB_rp r1 ek) f1 (by rw [Br_false] at q2; exact q2))
theorem ae_or (ha : AE X W a ta) (hb : AE X W (.BoolOp .Or (b :: rest) pos) tb) : AE X W (.BoolOp .Or (a :: b :: rest) pos) (aOrV ta tb) := by
  refine ⟨weakE (pe_orT ha.pe hb.pe) ?_⟩
  rintro σ H Qc ⟨Z, as, s, Q, E, R, q, L, LX⟩
  refine conc_bind (Q1 := fun x s1 => opt (truA s1 x) (fun r => Rq r.2 (Br r.1 (Q (asB x true) s1) (tb as s1 Q E) ⟨⟩ ⟨⟩) ⟨⟩) ⟨⟩) R LX q fun x s1 v H1 R1 r1 f1 L1 q1 => ?_
  obtain ⟨⟨k, p⟩, ek, hp, q2⟩ := opt_of q1
  refine ⟨k, truA_ok R1.rep r1 ek hp, ?_⟩
  cases k with
  | true => exact b_t (L _ s1 _ H1 R1.rep (asB_rp r1 ek) f1 (by rw [Br_true] at q2; exact q2))
  | false => exact b_f ⟨Z, as, s1, Q, E, R1, by rw [Br_false] at q2; exact q2, L.fr f1, L1⟩
theorem ae_not (ha : AE X W a ta) : AE X W (.UnaryOp .Not a pos) (aNotV ta) := by
  refine ⟨weakE (pe_notT ha.pe) ?_⟩
  rintro σ H Qc ⟨Z, as, s, Q, E, R, q, L, LX⟩
  refine conc_bind (Q1 := fun x s1 => opt (truA s1 x) (fun r => Rq r.2 (Q (.bl (!r.1)) s1) ⟨⟩) ⟨⟩) R LX q fun x s1 v H1 R1 r1 f1 L1 q1 => ?_
  obtain ⟨⟨k, p⟩, ek, hp, q2⟩ := opt_of q1
  exact ⟨k, truA_ok R1.rep r1 ek hp, L _ s1 _ H1 R1.rep (.bl _) f1 q2⟩
theorem ae_ifExp (hc : AT X W c tA) (ha : AE X W a ta) (hb : AE X W b tb) : AE X W (.IfExp c a b pos) (aIf tA ta tb) := by
  refine ⟨weakE (pe_ifExp hc.pt ha.pe hb.pe) ?_⟩
  rintro σ H Qc ⟨Z, as, s, Q, E, R, q, L, LX⟩
  show concT X.K W tA σ H fun c H1 => if c = true then concE X.K W ta σ H1 Qc else concE X.K W tb σ H1 Qc
  refine conc_bindT (Q1 := fun c s1 => Br c (ta as s1 Q E) (tb as s1 Q E) ⟨⟩ ⟨⟩) R LX q fun c s1 H1 R1 f1 L1 q1 => ?_
  cases c with
  | true => exact b_t ⟨Z, as, s1, Q, E, R1, by rw [Br_true] at q1; exact q1, L.fr f1, L1⟩
  | false => exact b_f ⟨Z, as, s1, Q, E, R1, by rw [Br_false] at q1; exact q1, L.fr f1, L1⟩
theorem conc_chain {K : PySem.W.Frag} {r r' : R2} {f g : AR2} (h : SR K r f) (h' : SR K r' g) : ∀ σ H Qc, concE K W (aChain f g ta tb tc) σ H Qc → tChain r r' (concE K W ta) (concE K W tb) (concE K W tc) σ H Qc := by
  rintro σ H Qc ⟨Z, as, s, Q, E, R, q, L, LX⟩
  refine conc_bind (Q1 := fun x s1 => tb as s1 (fun y s2 => f x y s2 fun z s3 => opt (blD z) (fun k => Br k (tc as s3 (fun w s4 => g y w s4 Q) E) (Q (.bl false) s3) ⟨⟩ ⟨⟩) ⟨⟩) E) R LX q fun x s1 v H1 R1 r1 f1 L1 q1 => ?_
  refine conc_bind (Q1 := fun y s2 => f x y s2 fun z s3 => opt (blD z) (fun k => Br k (tc as s3 (fun w s4 => g y w s4 Q) E) (Q (.bl false) s3) ⟨⟩ ⟨⟩) ⟨⟩) R1 L1 q1 fun y s2 u H2 R2 r2 f2 L2 q2 => ?_
  refine h Z H2 s2 x y v u _ _ R2.rep (r1.fr f2) r2 q2 fun z s3 w H3 R3 r3 f3 q3 => ?_
  obtain ⟨k, ek, q4⟩ := opt_of q3
  refine ⟨k, blD_v r3 ek, ?_⟩
  have f13 := (f1.trans f2).trans f3
  cases k with
  | true =>
    rw [Br_true] at q4
    refine b_t (conc_bind (Q1 := fun w s4 => g y w s4 Q) (R2.fr R3 f3) (L2.fr f3) q4 fun w' s4 v' H4 R4 r4 f4 L4 q5 => ?_)
    exact h' Z H4 s4 y w' _ _ Q Qc R4.rep ((r2.fr f3).fr f4) r4 q5 (L.fr (f13.trans f4))
  | false =>
    rw [Br_false] at q4
    exact b_f (L _ s3 _ H3 R3 (.bl _) f13 q4)
theorem ae_chain {op op' : CmpOp} {r r' : R2} {f g : AR2} (ho : OpR X (compareOp op) r) (hs : SR X.K r f) (ho' : OpR X (compareOp op') r') (hs' : SR X.K r' g) (ha : AE X W a ta) (hb : AE X W b tb) (hc : AE X W c tc)
    (hm : lastMarks [op, op'] [b, c] = false := by with_unfolding_all rfl) : AE X W (.Compare a [op, op'] [b, c] pos) (aChain f g ta tb tc) := ⟨weakE (pe_chain ho ho' ha.pe hb.pe hc.pe hm) (conc_chain hs hs')⟩
theorem at_chain {op op' : CmpOp} {r r' : R2} {f g : AR2} (ho : OpR X (compareOp op) r) (hs : SR X.K r f) (ho' : OpR X (compareOp op') r') (hs' : SR X.K r' g) (ha : AE X W a ta) (hb : AE X W b tb) (hc : AE X W c tc)
    (hm : lastMarks [op, op'] [b, c] = false := by with_unfolding_all rfl) : AT X W (.Compare a [op, op'] [b, c] pos) (aTest (aChain f g ta tb tc)) :=
  ⟨weakT (pt_chain ho ho' ha.pe hb.pe hc.pe hm) fun σ H Qc h => conc_chain hs hs' _ _ _ (conc_test h)⟩
end
/-! ### displays -/
/-- a new own address -/
def New (s : Ah) (k : Addr → Prop) (_ : Tg k) : Prop := ∀ p, s p = none → k p
def aLst (t : ATA) : ATE := fun as s Q E => t as s (fun ds s1 => Rq (ds.length ≤ 16777216) (Q (.lst ds) s1) ⟨⟩) E
def aLstO (t : ATA) : ATE := fun as s Q E => t as s (fun ds s1 => Rq (ds.length ≤ 16777216) (New s1 (fun p => Q (.ref p) (aup s1 p (.lst ds))) ⟨⟩) ⟨⟩) E
def aTup (t : ATA) : ATE := fun as s Q E => t as s (fun ds s1 => Rq (ds.length ≤ 16777216) (Q (.tup ds) s1) ⟨⟩) E
def aDnewK : ATE := fun _ s Q _ => New s (fun p => Q (.ref p) (aup s p (.dK []))) ⟨⟩
def aDnewT : ATE := fun _ s Q _ => New s (fun p => Q (.ref p) (aup s p (.dT []))) ⟨⟩
theorem new_own {K : PySem.W.Frag} {Z : Addr → Prop} {H : Hp} {s : Ah} (R : Rep K Z H s) {p : Addr} (h : H p = none) {u : HO} {o : Ob} (hp : o.priv = []) (ro : Fr H s (upd H p u) (aup s p o) → RO K (upd H p u) (Ow Z (aup s p o)) p o) : Rep K Z (upd H p u) (aup s p o) ∧ Fr H s (upd H p u) (aup s p o) :=
  R.set (fun x w e n _ => by rw [upd_ne n]; exact e) (.inr ⟨h, fun x z => by rw [hp] at z; cases z⟩) ro
theorem set_own {K : PySem.W.Frag} {Z : Addr → Prop} {H : Hp} {s : Ah} (R : Rep K Z H s) {p : Addr} {o0 : Ob} (h : s p = some o0) {u : HO} {o : Ob} (hp0 : o0.priv = []) (hp : o.priv = []) (ro : Fr H s (upd H p u) (aup s p o) → RO K (upd H p u) (Ow Z (aup s p o)) p o) : Rep K Z (upd H p u) (aup s p o) ∧ Fr H s (upd H p u) (aup s p o) :=
  R.set (fun x w e n _ => by rw [upd_ne n]; exact e) (.inl ⟨o0, h, by rw [hp0, hp]⟩) ro
section
variable {X : Cx} {W : WX} {es : List Expr} {t : ATA} {pos : Pos}
theorem ae_lst (h : AA X W es t) : AE X W (.List es pos) (aLst t) := by
  refine ⟨weakE (pe_lst h.pa) ?_⟩
  rintro σ H Qc ⟨Z, as, s, Q, E, R, q, L, LX⟩
  refine conc_bindA (Q1 := fun ds s1 => Rq (ds.length ≤ 16777216) (Q (.lst ds) s1) ⟨⟩) R LX q fun ds s1 vs H1 R1 r1 f1 L1 q1 => ?_
  refine ⟨by rw [← r1.len]; exact q1.1, fun p hp => ?_⟩
  obtain ⟨R', f', _⟩ := R1.rep.new (u := .lst vs) hp
  exact L _ s1 _ _ R' (rp_newL R1.rep r1 hp) (f1.trans f') q1.2
theorem ae_lstO (h : AA X W es t) : AE X W (.List es pos) (aLstO t) := by
  refine ⟨weakE (pe_lst h.pa) ?_⟩
  rintro σ H Qc ⟨Z, as, s, Q, E, R, q, L, LX⟩
  refine conc_bindA (Q1 := fun ds s1 => Rq (ds.length ≤ 16777216) (New s1 (fun p => Q (.ref p) (aup s1 p (.lst ds))) ⟨⟩) ⟨⟩) R LX q fun ds s1 vs H1 R1 r1 f1 L1 q1 => ?_
  refine ⟨by rw [← r1.len]; exact q1.1, fun p hp => ?_⟩
  obtain ⟨R', f'⟩ := new_own R1.rep hp (u := .lst vs) (o := .lst ds) rfl fun f => ⟨vs, upd_same, r1.fr f⟩
  exact L _ _ _ _ R' (.ref p) (f1.trans f') (q1.2 p (R1.rep.no hp))
theorem ae_tup {x1} (h : AA X W es t) : AE X W (.Tuple es x1 pos) (aTup t) := by
  refine ⟨weakE (pe_tup h.pa) ?_⟩
  rintro σ H Qc ⟨Z, as, s, Q, E, R, q, L, LX⟩
  refine conc_bindA (Q1 := fun ds s1 => Rq (ds.length ≤ 16777216) (Q (.tup ds) s1) ⟨⟩) R LX q fun ds s1 vs H1 R1 r1 f1 L1 q1 => ?_
  refine ⟨by rw [← r1.len]; exact q1.1, fun p hp => ?_⟩
  obtain ⟨R', f', _⟩ := R1.rep.new (u := .tup vs) hp
  exact L _ s1 _ _ R' (rp_newT R1.rep r1 hp) (f1.trans f') q1.2
theorem ae_dnewK : AE X W (.Dict [] [] pos) aDnewK := by
  refine ⟨weakE pe_dnewK ?_⟩
  rintro σ H Qc ⟨Z, as, s, Q, E, R, q, L, LX⟩ p hp
  obtain ⟨R', f'⟩ := new_own R.rep hp (u := .dK []) (o := .dK []) rfl fun f => ⟨[], upd_same, .nil⟩
  exact L _ _ _ _ R' (.ref p) f' (q p (R.rep.no hp))
theorem ae_dnewT : AE X W (.Dict [] [] pos) aDnewT := by
  refine ⟨weakE pe_dnewT ?_⟩
  rintro σ H Qc ⟨Z, as, s, Q, E, R, q, L, LX⟩ p hp
  obtain ⟨R', f'⟩ := new_own R.rep hp (u := .dT []) (o := .dT []) rfl fun f => ⟨[], upd_same, .nil⟩
  exact L _ _ _ _ R' (.ref p) f' (q p (R.rep.no hp))
end
end Sk
namespace Sk
open PySem PySem.Spec PyProof.Rows L2
/-! ### statements -/
def aNext : ATS := fun A as s => A.nx as s
def aSeq (t u : ATS) : ATS := fun A as s => t { A with nx := u A } as s
def aDrop (a : ATE) : ATS := fun A as s => a as s (fun _ s1 => A.nx as s1) (fun c p s1 => A.ex c p as s1)
def aRet (a : ATE) : ATS := fun A as s => a as s A.rt (fun c p s1 => A.ex c p as s1)
def aRetN : ATS := fun A _ s => A.rt .non s
def aIfS (c : ATT) (t u : ATS) : ATS := fun A as s => c as s (fun b s1 => Br b (t A as s1) (u A as s1) ⟨⟩ ⟨⟩) (fun c p s1 => A.ex c p as s1)
def aBreak : ATS := fun A as s => A.bk as s
def aCont : ATS := fun A as s => A.ct as s
def aNever : ATS := fun _ _ _ => False
section
variable {K : PySem.W.Frag} {Z : Addr → Prop} {W : WX} {H H1 : Hp} {s s1 : Ah} {A : AEnds} {C : Ends}
theorem LnkS.fr (L : LnkS K Z W H s A C) (f : Fr H s H1 s1) : LnkS K Z W H1 s1 A C :=
  ⟨fun a b c d R f' q => L.nx a b c d R (f.trans f') q, L.rt.fr f, fun a b c d R f' q => L.bk a b c d R (f.trans f') q, fun a b c d R f' q => L.ct a b c d R (f.trans f') q, fun a b c d e g R f' q => L.ex a b c d e g R (f.trans f') q⟩
theorem LnkS.x (L : LnkS K Z W H s A C) {σ : L2.St} {as : ASt} (R0 : Rst K Z σ H as s) : LnkX K Z W σ H s fun c p s1 => A.ex c p as s1 := fun c od s' H' R f q => L.ex c od as s' σ H' (R0.fr R f) f q
end
section
variable {X : Cx} {W : WX} {st : Stmt} {rest : List Stmt} {t u : ATS} {e : Expr} {te : ATE} {pos : Pos}
theorem as_nil : ASs X W [] aNext := ⟨weakSs pss_nil fun C σ H => by
  rintro ⟨Z, A, as, s, R, q, L⟩
  exact L.nx as s σ H R (Fr.refl H s) q⟩
theorem as_cons (h1 : AS X W st t) (h2 : ASs X W rest u) : ASs X W (st :: rest) (aSeq t u) := ⟨weakSs (pss_cons h1.ps h2.pss) fun C σ H => by
  rintro ⟨Z, A, as, s, R, q, L⟩
  exact ⟨Z, { A with nx := u A }, as, s, R, q, ⟨fun as' s' σ' H' R' f q' => ⟨Z, A, as', s', R', q', L.fr f⟩, L.rt, L.bk, L.ct, L.ex⟩⟩⟩
theorem as_one (h1 : AS X W st t) : ASs X W [st] t := ⟨pss_one h1.ps⟩
theorem as_pass : AS X W (.Pass pos) aNext := ⟨weakS ps_pass fun C σ H => by
  rintro ⟨Z, A, as, s, R, q, L⟩
  exact L.nx as s σ H R (Fr.refl H s) q⟩
theorem as_break : AS X W (.Break pos) aBreak := ⟨weakS ps_break fun C σ H => by
  rintro ⟨Z, A, as, s, R, q, L⟩
  exact L.bk as s σ H R (Fr.refl H s) q⟩
theorem as_continue : AS X W (.Continue pos) aCont := ⟨weakS ps_continue fun C σ H => by
  rintro ⟨Z, A, as, s, R, q, L⟩
  exact L.ct as s σ H R (Fr.refl H s) q⟩
theorem as_expr (he : AE X W e te) (hs : swapsWith e none pos.line X.env = pure false := by rfl) : AS X W (.Expr e pos) (aDrop te) := ⟨weakS (ps_expr he.pe hs) fun C σ H => by
  rintro ⟨Z, A, as, s, R, q, L⟩
  exact conc_bind (Q1 := fun _ s1 => A.nx as s1) R (L.x R) q fun d s1 v H1 R1 r1 f1 L1 q1 => L.nx as s1 σ H1 R1 f1 q1⟩
theorem as_ret (he : AE X W e te) : AS X W (.Return (some e) pos) (aRet te) := ⟨weakS (ps_ret he.pe) fun C σ H => by
  rintro ⟨Z, A, as, s, R, q, L⟩
  exact ⟨Z, as, s, A.rt, _, R, q, L.rt, L.x R⟩⟩
theorem as_retN : AS X W (.Return none pos) aRetN := ⟨weakS ps_retN fun C σ H => by
  rintro ⟨Z, A, as, s, R, q, L⟩
  exact L.rt.here R.rep .non q⟩
theorem as_if {c : Expr} {a b : List Stmt} {tc : ATT} (hc : AT X W c tc) (ha : ASs X W a t) (hb : ASs X W b u) : AS X W (.If c a b pos) (aIfS tc t u) := ⟨weakS (ps_if hc.pt ha.pss hb.pss) fun C σ H => by
  rintro ⟨Z, A, as, s, R, q, L⟩
  refine conc_bindT (Q1 := fun b s1 => Br b (t A as s1) (u A as s1) ⟨⟩ ⟨⟩) R (L.x R) q fun c s1 H1 R1 f1 L1 q1 => ?_
  cases c with
  | true => exact b_t ⟨Z, A, as, s1, R1, by rw [Br_true] at q1; exact q1, L.fr f1⟩
  | false => exact b_f ⟨Z, A, as, s1, R1, by rw [Br_false] at q1; exact q1, L.fr f1⟩⟩
theorem as_never : AS X W st aNever := ⟨weakS ps_never fun C σ H => by
  rintro ⟨Z, A, as, s, R, q, L⟩
  exact q.elim⟩
theorem ass_never {sts : List Stmt} : ASs X W sts aNever := ⟨weakSs pss_never fun C σ H => by
  rintro ⟨Z, A, as, s, R, q, L⟩
  exact q.elim⟩
end
/-! ### targets -/
abbrev ATG := D → ASt → Ah → (ASt → Ah → Prop) → Prop
abbrev ATGs := List D → ASt → Ah → (ASt → Ah → Prop) → Prop
def noX : AX := fun _ _ _ => False
def Off (ws : List Nat) (σ σ' : L2.St) : Prop := σ'.length = σ.length ∧ ∀ i, i ∉ ws → σ'[i]? = σ[i]?
theorem Off.refl (ws : List Nat) (σ : L2.St) : Off ws σ σ := ⟨rfl, fun _ _ => rfl⟩
theorem Off.trans {ws vs : List Nat} {a b c : L2.St} (h : Off ws a b) (k : Off vs b c) : Off (ws ++ vs) a c := ⟨k.1.trans h.1, fun i hi => by
  rw [List.mem_append, not_or] at hi
  exact (k.2 i hi.2).trans (h.2 i hi.1)⟩
def concG (K : PySem.W.Frag) (ws : List Nat) (g : ATG) : TG := fun v σ H Qc => ∃ Z d as s Q, Rst K Z σ H as s ∧ Rp K H (Ow Z s) d v ∧ g d as s Q ∧ ∀ as' s' σ' H', Rst K Z σ' H' as' s' → Fr H s H' s' → Off ws σ σ' → Q as' s' → Qc σ' H'
def concGs (K : PySem.W.Frag) (ws : List Nat) (g : ATGs) : TGs := fun vs σ H Qc => ∃ Z ds as s Q, Rst K Z σ H as s ∧ Rps K H (Ow Z s) ds vs ∧ g ds as s Q ∧ ∀ as' s' σ' H', Rst K Z σ' H' as' s' → Fr H s H' s' → Off ws σ σ' → Q as' s' → Qc σ' H'
structure AG (X : Cx) (tg : Expr) (ws : List Nat) (g : ATG) : Prop where
  pg : PG X tg (concG X.K ws g)
structure AGs (X : Cx) (tg : List Expr) (ws : List Nat) (g : ATGs) : Prop where
  pgs : PGs X tg (concGs X.K ws g)
def agName (i : Nat) : ATG := fun d as s Q => Q (setS as i d) s
def agNil : ATGs := fun ds as s Q => Rq (ds = []) (Q as s) ⟨⟩
def unc : List D → Option (D × List D)
  | [] => none
  | d :: r => some (d, r)
def agCons (t : ATG) (u : ATGs) : ATGs := fun ds as s Q => opt (unc ds) (fun p => t p.1 as s fun as' s' => u p.2 as' s' Q) ⟨⟩
def tupD : D → Option (List D)
  | .tup ds => some ds
  | _ => none
def lstD : D → Option (List D)
  | .lst ds => some ds
  | _ => none
def agTup (n : Nat) (t : ATGs) : ATG := fun d as s Q => opt (tupD (view s d)) (fun ds => Rq (ds.length = n) (t ds as s Q) ⟨⟩) ⟨⟩
def agLst (n : Nat) (t : ATGs) : ATG := fun d as s Q => opt (lstD (view s d)) (fun ds => Rq (ds.length = n) (t ds as s Q) ⟨⟩) ⟨⟩
theorem tupD_eq {d : D} {ds : List D} (h : tupD d = some ds) : d = .tup ds := by
  cases d <;> first | (cases h; rfl) | cases h
theorem lstD_eq {d : D} {ds : List D} (h : lstD d = some ds) : d = .lst ds := by
  cases d <;> first | (cases h; rfl) | cases h
/-- a store by values -/
abbrev ASet := D → D → D → Ah → (Ah → Prop) → Prop
def SSet (K : PySem.W.Frag) (r : TSet) (f : ASet) : Prop := ∀ Z H s o i d ov iv v Q Qc, Rep K Z H s → Rp K H (Ow Z s) o ov → Rp K H (Ow Z s) i iv → Rp K H (Ow Z s) d v → f o i d s Q → (∀ s' H', Rep K Z H' s' → Fr H s H' s' → Q s' → Qc H') → r ov iv v H Qc
def agSub (to ti : ATE) (f : ASet) : ATG := fun d as s Q => to as s (fun o s1 => ti as s1 (fun i s2 => f o i d s2 fun s3 => Q as s3) noX) noX
section
variable {X : Cx} {pos : Pos}
theorem weakG {tg : Expr} {t t' : TG} (h : PG X tg t) (k : ∀ v σ H Q, t' v σ H Q → t v σ H Q) : PG X tg t' := ⟨fun pins s σ H v u Q I r q => h.run pins s σ H v u Q I r (k v σ H Q q)⟩
theorem weakGs {tg : List Expr} {t t' : TGs} (h : PGs X tg t) (k : ∀ v σ H Q, t' v σ H Q → t v σ H Q) : PGs X tg t' := ⟨fun pins s σ H v u Q I r q => h.run pins s σ H v u Q I r (k v σ H Q q)⟩
theorem off_set (i : Nat) (v : V) (σ : L2.St) : Off [i] σ (σ.set i (some v)) := ⟨List.length_set, fun j hj => by
  have : i ≠ j := fun e => hj (by rw [e]; exact List.mem_singleton.mpr rfl)
  rw [List.getElem?_set_ne this]⟩
theorem ag_name {i : Nat} {x : Str} (hN : X.N.Nodup) (hi : X.N[i]? = some x) (hx : Loc X.env.scope x) (hf : X.fn x = true ∨ X.env.scope.names.lookup x = some .local := by first | exact .inl rfl | exact .inr rfl | assumption) : AG X (.Name x pos) [i] (agName i) :=
  ⟨weakG (pg_name hN hi hx hf) fun v σ H Qc => by
    rintro ⟨Z, d, as, s, Q, R, r, q, L⟩
    refine L _ s _ H (R.set r i) (Fr.refl H s) (off_set i v σ) ?_
    rw [← setS_eq]
    exact q⟩
theorem ags_nil : AGs X [] [] agNil := ⟨weakGs pgs_nil fun v σ H Qc => by
  rintro ⟨Z, d, as, s, Q, R, r, ⟨e, q⟩, L⟩
  subst e
  cases r
  exact ⟨rfl, L as s σ H R (Fr.refl H s) (Off.refl [] σ) q⟩⟩
theorem ags_cons {e : Expr} {es : List Expr} {t : ATG} {u : ATGs} {ws vs : List Nat} (h1 : AG X e ws t) (h2 : AGs X es vs u) (hs : (assignEach (e :: es) X.env).map (·.2) = assign e X.env :: (assignEach es X.env).map (·.2) := by rfl) : AGs X (e :: es) (ws ++ vs) (agCons t u) :=
  ⟨weakGs (pgs_cons h1.pg h2.pgs hs) fun v σ H Qc => by
    rintro ⟨Z, ds, as, s, Q, R, r, q, L⟩
    obtain ⟨⟨d, rs⟩, e1, q⟩ := opt_of q
    cases ds with
    | nil => cases e1
    | cons d' r' =>
      cases e1
      cases r with
      | cons rd rr =>
        refine ⟨_, _, rfl, Z, d, as, s, _, R, rd, q, fun as' s' σ' H' R' f o q' => ?_⟩
        exact ⟨Z, rs, as', s', Q, R', rr.fr f, q', fun as2 s2 σ2 H2 R2 f2 o2 q2 => L as2 s2 σ2 H2 R2 (f.trans f2) (o.trans o2) q2⟩⟩
theorem ag_tup {es : List Expr} {k : Nat} {t : ATGs} {n : Nat} {ws : List Nat} (hc : X.calm = true) (h : AGs X es ws t)
    (hn : (assignEach es X.env).length = n := by rfl) (hst : (assignEach es X.env).findIdx? (·.1) = none := by rfl) : AG X (.Tuple es k pos) ws (agTup n t) :=
  ⟨weakG (pg_tup hc h.pgs hn hst) fun v σ H Qc => by
    rintro ⟨Z, d, as, s, Q, R, r, q, L⟩
    obtain ⟨ds, e1, hl, q⟩ := opt_of q
    obtain ⟨a, vs, rfl, h1, _, r1⟩ := view_tup r (tupD_eq e1)
    exact ⟨a, vs, rfl, SqT.of h1, by rw [← r1.len]; exact hl, Z, ds, as, s, Q, R, r1, q, L⟩⟩
theorem ag_lst {es : List Expr} {k : Nat} {t : ATGs} {n : Nat} {ws : List Nat} (hc : X.calm = true) (h : AGs X es ws t)
    (hn : (assignEach es X.env).length = n := by rfl) (hst : (assignEach es X.env).findIdx? (·.1) = none := by rfl) : AG X (.Tuple es k pos) ws (agLst n t) :=
  ⟨weakG (pg_lst hc h.pgs hn hst) fun v σ H Qc => by
    rintro ⟨Z, d, as, s, Q, R, r, q, L⟩
    obtain ⟨ds, e1, hl, q⟩ := opt_of q
    obtain ⟨a, vs, rfl, h1, r1⟩ := view_lst R.rep r (lstD_eq e1)
    exact ⟨a, vs, rfl, h1, by rw [← r1.len]; exact hl, Z, ds, as, s, Q, R, r1, q, L⟩⟩
theorem noX_lnk {K : PySem.W.Frag} {Z : Addr → Prop} {W : WX} {σ : L2.St} {H : Hp} {s : Ah} : LnkX K Z W σ H s noX := fun _ _ _ _ _ _ q => q.elim
theorem ag_sub {W : WX} {o i : Expr} {to ti : ATE} {r : TSet} {f : ASet} (ho : AE X W o to) (hi : AE X W i ti) (hs : PSet X r) (hf : SSet X.K r f)
    (ha : ∀ v, assign (.Subscript o i pos) X.env v = (do
      let ov ← holding [v] (eval o X.env)
      let iv ← holding [v, ov] (eval i X.env)
      standAt pos
      holding [v, ov, iv] (setItem ov iv v)
      release [v, ov, iv] []) := by intro _; rfl) : AG X (.Subscript o i pos) [] (agSub to ti f) :=
  ⟨weakG (pg_sub ho.pe hi.pe hs ha) fun v σ H Qc => by
    rintro ⟨Z, d, as, s, Q, R, r, q, L⟩
    refine conc_bind (Q1 := fun o s1 => ti as s1 (fun i s2 => f o i d s2 fun s3 => Q as s3) noX) R noX_lnk q fun x s1 ov H1 R1 r1 f1 L1 q1 => ?_
    refine conc_bind (Q1 := fun i s2 => f x i d s2 fun s3 => Q as s3) R1 noX_lnk q1 fun y s2 iv H2 R2 r2 f2 L2 q2 => ?_
    exact hf Z H2 s2 x y d ov iv v _ _ R2.rep (r1.fr f2) r2 ((r.fr f1).fr f2) q2 fun s3 H3 R3 f3 q3 => L as s3 σ H3 (R2.fr R3 f3) ((f1.trans f2).trans f3) (Off.refl [] σ) q3⟩
end
/-- a[i] = d -/
def setIt : ASet := fun o i d s Q => match o with
  | .ref a => match s a with
    | some (.lst ds) => match i with
      | .int k => opt (ixN ds.length k) (fun j => Q (aup s a (.lst (ds.set j d)))) ⟨⟩
      | _ => False
    | some (.dK kvs) => opt (keyD i) (fun k => Rq (kvs.length < 16777216) (Q (aup s a (.dK (putA kvs k d)))) ⟨⟩) ⟨⟩
    | some (.dT kvs) => match i with
      | .tup ks => opt (keysD ks) (fun k => Rq (kvs.length < 16777216) (Q (aup s a (.dT (putA kvs k d)))) ⟨⟩) ⟨⟩
      | _ => False
    | _ => False
  | _ => False
def rSetDict : TSet := fun o i v H Q => ∃ a H', o = .ref a ∧ DPut H a i v H' ∧ Q H'
theorem set_dict {X : Cx} (hu : X.A.units + 65 < cLine) : PSet X rSetDict := by
  intro pins s σ H o i v ov iv u Q I ro ri rv h
  obtain ⟨a, H', rfl, g, q⟩ := h
  cases ro
  exact d_setItem (by omega) I g ri rv fun s4 I4 => ⟨H', I4, q⟩
def rSetAll : TSet := fun o i v H Q => rSetDict o i v H Q ∨ rSetL o i v H Q
theorem set_all {X : Cx} (hu : X.A.units + 65 < cLine) : PSet X rSetAll := by
  intro pins s σ H o i v ov iv u Q I ro ri rv h
  rcases h with h | h
  · exact set_dict hu pins s σ H o i v ov iv u Q I ro ri rv h
  · exact set_list pins s σ H o i v ov iv u Q I ro ri rv h
theorem ss_all {K : PySem.W.Frag} : SSet K rSetAll setIt := by
  intro Z H s o i d ov iv v Q Qc R ro ri rv q L
  unfold setIt at q
  split at q
  · rename_i a
    cases ro
    split at q
    · rename_i ds es
      split at q
      · rename_i k
        cases ri
        obtain ⟨j, ej, q⟩ := opt_of q
        obtain ⟨vs, h, r⟩ := R.at_ _ _ es
        obtain ⟨R', f'⟩ := set_own R es (u := .lst (vs.set j v)) (o := .lst (ds.set j d)) rfl rfl fun f => ⟨_, upd_same, (r.fr f).set (rv.fr f) j⟩
        exact .inr ⟨a, vs, k, j, rfl, rfl, h, by rw [← r.len]; exact ej, L _ _ R' f' q⟩
      · exact q.elim
    · rename_i kvs es
      obtain ⟨k, ek, hl, q⟩ := opt_of q
      obtain ⟨ws, h, r⟩ := R.at_ _ _ es
      obtain rfl := keyD_v ri ek
      obtain ⟨R', f'⟩ := set_own R es (u := .dK (putK ws k v)) (o := .dK (putA kvs k d)) rfl rfl fun f => ⟨_, upd_same, rkv_put (r.fr f) k (rv.fr f)⟩
      exact .inl ⟨a, _, rfl, DPut.k h (by rw [← rkv_len r]; exact hl), L _ _ R' f' q⟩
    · rename_i kvs es
      split at q
      · rename_i ks
        obtain ⟨k, ek, hl, q⟩ := opt_of q
        obtain ⟨ws, h, r⟩ := R.at_ _ _ es
        cases ri with
        | tup hp n rs =>
          have := keysD_v rs ek
          subst this
          obtain ⟨R', f'⟩ := set_own R es (u := .dT (putK ws k v)) (o := .dT (putA kvs k d)) rfl rfl fun f => ⟨_, upd_same, rkv_put (r.fr f) k (rv.fr f)⟩
          exact .inl ⟨a, _, rfl, DPut.t h hp (by rw [← rkv_len r]; exact hl), L _ _ R' f' q⟩
      · exact q.elim
    · exact q.elim
  · exact q.elim
def aAsg (a : ATE) (g : ATG) : ATS := fun A as s => a as s (fun x s1 => g x as s1 A.nx) (fun c p s1 => A.ex c p as s1)
def two : List D → Option (D × D)
  | [a, b] => some (a, b)
  | _ => none
def aPar (i j : Nat) (a : ATA) : ATS := fun A as s => a as s (fun ds s1 => opt (two ds) (fun p => A.nx (setS (setS as i p.1) j p.2) s1) ⟨⟩) (fun c p s1 => A.ex c p as s1)
section
variable {X : Cx} {W : WX} {pos : Pos}
theorem as_asg {tg e : Expr} {te : ATE} {ws : List Nat} {g : ATG} (he : AE X W e te) (hg : AG X tg ws g) (hs : swapsWithSole [tg] e pos.line X.env = pure false := by rfl) (hw : swappedStores [tg] e X.env = pure none := by rfl)
    (h1 : (assignEach [tg] X.env).map (·.2) = [assign tg X.env] := by rfl) : AS X W (.Assign [tg] e pos) (aAsg te g) := ⟨weakS (ps_asg he.pe hg.pg hs hw h1) fun C σ H => by
  rintro ⟨Z, A, as, s, R, q, L⟩
  refine conc_bind (Q1 := fun x s1 => g x as s1 A.nx) R (L.x R) q fun d s1 v H1 R1 r1 f1 L1 q1 => ?_
  exact ⟨Z, d, as, s1, _, R1, r1, q1, fun as' s' σ' H' R' f _ q' => L.nx as' s' σ' H' R' (f1.trans f) q'⟩⟩
theorem as_set {i : Nat} {x : Str} {e : Expr} {te : ATE} {pos' : Pos} (hN : X.N.Nodup) (hi : X.N[i]? = some x) (hx : Loc X.env.scope x) (he : AE X W e te) (hs : swapsWith e (some (.Name x pos')) pos.line X.env = pure false := by rfl) (hf : X.fn x = true ∨ X.env.scope.names.lookup x = some .local := by first | exact .inl rfl | exact .inr rfl | assumption) :
    AS X W (.Assign [.Name x pos'] e pos) (aAsg te (agName i)) := ⟨weakS (ps_set hN hi hx he.pe hs hf) fun C σ H => by
  rintro ⟨Z, A, as, s, R, q, L⟩
  refine conc_bind (Q1 := fun x s1 => A.nx (setS as i x) s1) R (L.x R) q fun d s1 v H1 R1 r1 f1 L1 q1 => ?_
  refine L.nx _ s1 _ H1 (R1.set r1 i) f1 ?_
  rw [← setS_eq]
  exact q1⟩
theorem as_par {i j : Nat} {x y : Str} {a b : Expr} {ta : ATA} {px py pt : Pos} {kt k2 pt2} (hc : X.calm = true) (hN : X.N.Nodup) (hi : X.N[i]? = some x) (hj : X.N[j]? = some y) (hij : i ≠ j)
    (hx : X.env.scope.names.lookup x = some .local) (hy : X.env.scope.names.lookup y = some .local) (ha : AA X W [a, b] ta)
    (hw : swappedStores [.Tuple [.Name x px, .Name y py] kt pt] (.Tuple [a, b] k2 pt2) X.env = pure (some [x, y]))
    (hs : swapsWithSole [.Tuple [.Name x px, .Name y py] kt pt] (.Tuple [a, b] k2 pt2) pos.line X.env = pure false := by rfl) :
    AS X W (.Assign [.Tuple [.Name x px, .Name y py] kt pt] (.Tuple [a, b] k2 pt2) pos) (aPar i j ta) := ⟨weakS (ps_par hc hN hi hj hij hx hy ha.pa hw hs) fun C σ H => by
  rintro ⟨Z, A, as, s, R, q, L⟩
  refine conc_bindA (Q1 := fun ds s1 => opt (two ds) (fun p => A.nx (setS (setS as i p.1) j p.2) s1) ⟨⟩) R (L.x R) q fun ds s1 vs H1 R1 r1 f1 L1 q1 => ?_
  obtain ⟨⟨d, e⟩, e1, q2⟩ := opt_of q1
  unfold two at e1
  split at e1
  · cases e1
    cases r1 with
    | cons rd rr =>
      cases rr with
      | cons re rn =>
        cases rn
        refine ⟨_, _, rfl, L.nx _ s1 _ H1 ((R1.set rd i).set re j) f1 ?_⟩
        rw [← setS_eq, ← setS_eq]
        exact q2
  · cases e1⟩
end
end Sk
namespace Sk
open PySem PySem.Spec PyProof.Rows L2
/-! ### less is known -/
/-- what is known of slots and store is weakened: slots are forgotten, own things are let go, or are own no more -/
def Cv (as : ASt) (s : Ah) (as' : ASt) (s' : Ah) : Prop := ∀ K Z H σ, Rst K Z σ H as s → Rst K Z σ H as' s' ∧ Fr H s H s'
def CvD (d : D) (s : Ah) (d' : D) (s' : Ah) : Prop := ∀ K Z H v, Rep K Z H s → Rp K H (Ow Z s) d v → Rep K Z H s' ∧ Rp K H (Ow Z s') d' v ∧ Fr H s H s'
def Le (s' s : Ah) : Prop := ∀ a o, s' a = some o → s a = some o
theorem Le.refl (s : Ah) : Le s s := fun _ _ h => h
theorem Le.trans {a b c : Ah} (h : Le a b) (k : Le b c) : Le a c := fun x o e => k x o (h x o e)
theorem Le.new {s' s : Ah} {p : Addr} {o : Ob} (h : Le s' s) (n : s p = none) : Le s' (aup s p o) := fun a u e => by
  by_cases ha : a = p
  · subst ha
    have := h _ _ e
    rw [n] at this
    cases this
  · rw [aup_ne ha]; exact h a u e
theorem Le.up {s' s : Ah} {p : Addr} {o : Ob} (h : Le s' s) : Le (aup s' p o) (aup s p o) := fun a u e => by
  by_cases ha : a = p
  · subst ha; rw [aup_same] at e ⊢; exact e
  · rw [aup_ne ha] at e ⊢; exact h a u e
theorem Le.own {s' s : Ah} (h : Le s' s) {x : Addr} (o : Own s' x) : Own s x := let ⟨a, u, e, k⟩ := o; ⟨a, u, h a u e, k⟩
theorem Cv.refl (as : ASt) (s : Ah) : Cv as s as s := fun _ _ H _ R => ⟨R, Fr.refl H s⟩
theorem Cv.trans {as as1 as2 : ASt} {s s1 s2 : Ah} (h : Cv as s as1 s1) (k : Cv as1 s1 as2 s2) : Cv as s as2 s2 := fun K Z H σ R => let ⟨R1, f1⟩ := h K Z H σ R; let ⟨R2, f2⟩ := k K Z H σ R1; ⟨R2, f1.trans f2⟩
theorem Cv.less {as : ASt} {s s' : Ah} (l : Le s' s) : Cv as s as s' := fun K Z H σ R => by
  obtain ⟨R', f⟩ := R.rep.less l
  exact ⟨R.fr R' f, f⟩
/-- slots are forgotten -/
def Fgt : ASt → ASt → Prop
  | [], [] => True
  | a :: r, b :: t => (b = none ∨ b = a) ∧ Fgt r t
  | _, _ => False
theorem Fgt.len : ∀ {as as' : ASt}, Fgt as as' → as'.length = as.length
  | [], [], _ => rfl
  | _ :: _, _ :: _, h => by rw [List.length_cons, List.length_cons, Fgt.len h.2]
theorem Fgt.get : ∀ {as as' : ASt} {i : Nat} {d : D}, Fgt as as' → as'[i]? = some (some d) → as[i]? = some (some d)
  | [], [], _, _, _, e => e
  | a :: r, b :: t, 0, d, h, e => by
    simp at e ⊢
    rcases h.1 with h | h
    · rw [h] at e; cases e
    · rw [← h]; exact e
  | a :: r, b :: t, i + 1, d, h, e => by
    simp at e ⊢
    exact Fgt.get h.2 e
theorem Cv.forget {as as' : ASt} {s : Ah} (h : Fgt as as') : Cv as s as' s := fun K Z H σ R => ⟨⟨R.rep, fun i d e => R.sl i d (h.get e), by rw [h.len]; exact R.len⟩, Fr.refl H s⟩
theorem CvD.refl (d : D) (s : Ah) : CvD d s d s := fun _ _ H _ R r => ⟨R, r, Fr.refl H s⟩
theorem CvD.trans {d d1 d2 : D} {s s1 s2 : Ah} (h : CvD d s d1 s1) (k : CvD d1 s1 d2 s2) : CvD d s d2 s2 := fun K Z H v R r => let ⟨R1, r1, f1⟩ := h K Z H v R r; let ⟨R2, r2, f2⟩ := k K Z H v R1 r1; ⟨R2, r2, f1.trans f2⟩
theorem CvD.less {d : D} {s s' : Ah} (l : Le s' s) : CvD d s d s' := fun K Z H v R r => by
  obtain ⟨R', f⟩ := R.less l
  exact ⟨R', r.fr f, f⟩
/-- without one -/
def adel (s : Ah) (a : Addr) : Ah := fun b => if b = a then none else s b
theorem adel_same {s : Ah} {a : Addr} : adel s a a = none := by unfold adel; rw [if_pos rfl]
theorem adel_ne {s : Ah} {a b : Addr} (h : b ≠ a) : adel s a b = s b := by unfold adel; rw [if_neg h]
theorem adel_up {s : Ah} {a : Addr} {o : Ob} (h : s a = none) : adel (aup s a o) a = s := by
  funext b
  by_cases e : b = a
  · subst e; rw [adel_same, h]
  · rw [adel_ne e, aup_ne e]
theorem Le.del (s : Ah) (a : Addr) : Le (adel s a) s := fun b o e => by
  by_cases h : b = a
  · subst h; rw [adel_same] at e; cases e
  · rw [adel_ne h] at e; exact e
/-- an own list becomes data -/
theorem thaw {K : PySem.W.Frag} {Z : Addr → Prop} {H : Hp} {s : Ah} (R : Rep K Z H s) {l : Addr} {ds : List D} (h : s l = some (.lst ds)) : Rp K H (Ow Z (adel s l)) (.lst ds) (.ref l) := by
  obtain ⟨R', f⟩ := R.less (Le.del s l)
  obtain ⟨vs, e, r⟩ := R.at_ _ _ h
  refine .lst e (fun z => ?_) (r.fr f)
  rcases z with ⟨a, o, e1, z⟩ | z
  · have ha : a ≠ l := fun z => by rw [z, adel_same] at e1; cases e1
    rw [adel_ne ha] at e1
    rcases z with rfl | z
    · exact ha rfl
    · exact (R.dis a l o _ e1 h ha).1 z
  · exact (R.zed l z).2 ⟨l, _, h, .inl rfl⟩
theorem CvD.thaw {s : Ah} {l : Addr} {ds : List D} (h : s l = some (.lst ds)) : CvD (.ref l) s (.lst ds) (adel s l) := fun K Z H v R r => by
  obtain ⟨R', f⟩ := R.less (Le.del s l)
  cases r
  exact ⟨R', Sk.thaw R h, f⟩
theorem Cv.thaw {as : ASt} {s : Ah} {i : Nat} {l : Addr} {ds : List D} (hi : getS as i = some (.ref l)) (h : s l = some (.lst ds)) : Cv as s (setS as i (.lst ds)) (adel s l) := fun K Z H σ R => by
  obtain ⟨R', f⟩ := R.rep.less (Le.del s l)
  obtain ⟨v, e1, r⟩ := R.sl i _ (getS_eq hi)
  cases r
  refine ⟨?_, f⟩
  have q := (R.fr R' f).set (Sk.thaw R.rep h) i
  rw [← setS_eq] at q
  have : σ.set i (some (V.ref l)) = σ := by
    refine List.ext_getElem? fun j => ?_
    by_cases hj : i = j
    · subst hj
      rw [e1, List.getElem?_set_self (lt_of_get e1)]
    · rw [List.getElem?_set_ne hj]
  rw [this] at q
  exact q
def CvP (P : ASt → Ah → Prop) (as : ASt) (s : Ah) : Prop := ∃ as' s', Cv as s as' s' ∧ P as' s'
theorem CvP.of {P : ASt → Ah → Prop} {as : ASt} {s : Ah} (h : P as s) : CvP P as s := ⟨as, s, Cv.refl as s, h⟩
def CvR (Q : AVK) (d : D) (s : Ah) : Prop := ∃ d' s', CvD d s d' s' ∧ Q d' s'
theorem CvR.of {Q : AVK} {d : D} {s : Ah} (h : Q d s) : CvR Q d s := ⟨d, s, CvD.refl d s, h⟩
/-! ### what is walked -/
structure WkD (K : PySem.W.Frag) (Z : Addr → Prop) (H0 : Hp) (s0 : Ah) (ds : List D) (G : Ah → Prop) (J : It) : Prop where
  go : ∀ i Z2 H s, i < ds.length → Rep K Z2 H s → Frn H0 (Ow Z s0) H (Ow Z2 s) → G s → J.go i H
  stop : ∀ Z2 H s, Rep K Z2 H s → Frn H0 (Ow Z s0) H (Ow Z2 s) → G s → J.stop ds.length H
  yld : ∀ i d Z2 H s x H', ds[i]? = some d → Rep K Z2 H s → Frn H0 (Ow Z s0) H (Ow Z2 s) → G s → J.yld i H x H' → Rep K Z2 H' s ∧ Fr H s H' s ∧ Rp K H' (Ow Z2 s) d x
abbrev ATI := ASt → Ah → (List D → (Ah → Prop) → Ah → Prop) → AX → Prop
def concI (K : PySem.W.Frag) (W : WX) (a : ATI) : TI := fun σ H Rc => ∃ Z as s Q E, Rst K Z σ H as s ∧ a as s Q E ∧ (∀ J ds G H' s', Rst K Z σ H' as s' → Fr H s H' s' → WkD K Z H' s' ds G J → Q ds G s' → Rc J H') ∧ LnkX K Z W σ H s E
structure AI (X : Cx) (W : WX) (tg iter : Expr) (a : ATI) : Prop where
  pi : PI X tg iter (concI X.K W a)
theorem weakI {X : Cx} {tg iter : Expr} {t t' : TI} (h : PI X tg iter t) (k : ∀ σ H Q, t' σ H Q → t σ H Q) : PI X tg iter t' := ⟨fun pins s σ H R I q => h.run pins s σ H R I (k σ H R q)⟩
def tt_ : Ah → Prop := fun _ => True
/-- a for -/
def AskFor (ds : List D) (G : Ah → Prop) (g : ATG) (tb : ATS) (as : ASt) (s : Ah) (A : AEnds) (_ : Tg A) : Prop := ∃ P : Nat → ASt → Ah → Prop, CvP (P 0) as s ∧ (∀ i as s, i ≤ ds.length → P i as s → G s) ∧
  (∀ i d as s, ds[i]? = some d → P i as s → g d as s fun as' s' => tb { A with nx := CvP (P (i + 1)), ct := CvP (P (i + 1)), bk := A.nx } as' s') ∧ ∀ as s, P ds.length as s → A.nx as s
def aFor (wi : ATI) (g : ATG) (tb : ATS) : ATS := fun A as s => wi as s (fun ds G s1 => AskFor ds G g tb as s1 A ⟨⟩) (fun c p s1 => A.ex c p as s1)
theorem as_for {X : Cx} {W : WX} {tg iter : Expr} {body : List Stmt} {wi : ATI} {ws : List Nat} {g : ATG} {tb : ATS} {pos : Pos} (hp : PassesOwn (model X.prog X.w) X.A X.env X.xe) (hc : X.calm = true) (hi : AI X W tg iter wi) (hg : AG X tg ws g) (hb : ASs X W body tb)
    (hs : ∀ x, foldedSetIterable iter X.env x = pure x := by intro _; rfl) : AS X W (.For tg iter body [] pos) (aFor wi g tb) := ⟨weakS (ps_for hp hc hi.pi hg.pg hb.pss hs) fun C σ0 H0 => by
  rintro ⟨Z, A, as0, s0, R0, q, L0⟩
  refine ⟨Z, as0, s0, _, _, R0, q, fun J ds G H1 s1 R1 f1 wk hq => ?_, L0.x R0⟩
  obtain ⟨P, ⟨as', s', cv, p0⟩, hG, step, done⟩ := hq
  obtain ⟨R', f'⟩ := cv X.K Z H1 σ0 R1
  refine ⟨fun i m σ H => ∃ as s, m = ds.length - i ∧ i ≤ ds.length ∧ Rst X.K Z σ H as s ∧ Fr H1 s1 H s ∧ P i as s, ⟨ds.length, as', s', by simp, Nat.zero_le _, R', f', p0⟩, ?_⟩
  rintro i m σ H ⟨as, s, rfl, hi, R, f, p⟩
  have hg := hG i as s hi p
  by_cases hlt : i < ds.length
  · refine .inr ⟨wk.go i Z H s hlt R.rep f.n hg, fun σ' H' => ∃ as' s', Rst X.K Z σ' H' as' s' ∧ Fr H1 s1 H' s' ∧ P (i + 1) as' s', fun σ' H' ⟨as', s', h1, h2, h3⟩ => ⟨ds.length - (i + 1), by omega, as', s', rfl, hlt, h1, h2, h3⟩, fun x H' y => ?_⟩
    obtain ⟨Rr, fr, rx⟩ := wk.yld i _ Z H s x H' (List.getElem?_eq_getElem hlt) R.rep f.n hg y
    have st := step i _ as s (List.getElem?_eq_getElem hlt) p
    refine ⟨Z, _, as, s, _, R.fr Rr fr, rx, st, fun as2 s2 σ2 H2 R2 f2 _ q2 => ?_⟩
    have fAll := (f.trans fr).trans f2
    have back : ∀ as3 s3 σ3 H3, Rst X.K Z σ3 H3 as3 s3 → Fr H2 s2 H3 s3 → CvP (P (i + 1)) as3 s3 → ∃ as' s', Rst X.K Z σ3 H3 as' s' ∧ Fr H1 s1 H3 s' ∧ P (i + 1) as' s' := fun as3 s3 σ3 H3 R3 f3 ⟨as4, s4, cv4, p4⟩ => by
      obtain ⟨R4, f4⟩ := cv4 X.K Z H3 σ3 R3
      exact ⟨as4, s4, R4, (fAll.trans f3).trans f4, p4⟩
    have LL := (L0.fr f1).fr fAll
    exact ⟨Z, _, as2, s2, R2, q2, ⟨back, LL.rt, fun as3 s3 σ3 H3 R3 f3 q3 => LL.nx as3 s3 σ3 H3 R3 f3 q3, back, LL.ex⟩⟩
  · have e : i = ds.length := by omega
    subst e
    exact .inl ⟨wk.stop Z H s R.rep f.n hg, L0.nx as s σ H R (f1.trans f) (done as s p)⟩⟩
/-- a while -/
def AskWhile (c : ATT) (tb : ATS) (as : ASt) (s : Ah) (A : AEnds) (_ : Tg A) : Prop := ∃ P : Nat → ASt → Ah → Prop, (∃ m, CvP (P m) as s) ∧ ∀ m as s, P m as s → c as s (fun b s1 => Br b (tb { A with nx := fun as' s' => ∃ m', m' < m ∧ CvP (P m') as' s', ct := fun as' s' => ∃ m', m' < m ∧ CvP (P m') as' s', bk := A.nx } as s1) (A.nx as s1) ⟨⟩ ⟨⟩) (fun c p s1 => A.ex c p as s1)
def aWhile (c : ATT) (tb : ATS) : ATS := fun A as s => AskWhile c tb as s A ⟨⟩
theorem as_while {X : Cx} {W : WX} {c : Expr} {body : List Stmt} {tc : ATT} {tb : ATS} {pos : Pos} (hp : PassesOwn (model X.prog X.w) X.A X.env X.xe) (hc : AT X W c tc) (hb : ASs X W body tb) : AS X W (.While c body [] pos) (aWhile tc tb) := ⟨weakS (ps_while hp hc.pt hb.pss) fun C σ0 H0 => by
  rintro ⟨Z, A, as0, s0, R0, ⟨P, ⟨m0, as', s', cv, p0⟩, step⟩, L0⟩
  obtain ⟨R', f'⟩ := cv X.K Z H0 σ0 R0
  refine ⟨fun m σ H => ∃ as s, Rst X.K Z σ H as s ∧ Fr H0 s0 H s ∧ P m as s, ⟨m0, as', s', R', f', p0⟩, ?_⟩
  rintro m σ H ⟨as, s, R, f, p⟩
  have LL := L0.fr f
  refine conc_bindT (Q1 := fun b s1 => Br b (tb { A with nx := fun as' s' => ∃ m', m' < m ∧ CvP (P m') as' s', ct := fun as' s' => ∃ m', m' < m ∧ CvP (P m') as' s', bk := A.nx } as s1) (A.nx as s1) ⟨⟩ ⟨⟩) R (LL.x R) (step m as s p) fun b s1 H1 R1 f1 L1 q1 => ?_
  cases b with
  | true =>
    rw [Br_true] at q1
    have back : ∀ as3 s3 σ3 H3, Rst X.K Z σ3 H3 as3 s3 → Fr H1 s1 H3 s3 → (∃ m', m' < m ∧ CvP (P m') as3 s3) → ∃ m', m' < m ∧ ∃ as s, Rst X.K Z σ3 H3 as s ∧ Fr H0 s0 H3 s ∧ P m' as s := fun as3 s3 σ3 H3 R3 f3 ⟨m', hm, as4, s4, cv4, p4⟩ => by
      obtain ⟨R4, f4⟩ := cv4 X.K Z H3 σ3 R3
      exact ⟨m', hm, as4, s4, R4, ((f.trans f1).trans f3).trans f4, p4⟩
    refine b_t ⟨fun σ' H' => ∃ m', m' < m ∧ ∃ as s, Rst X.K Z σ' H' as s ∧ Fr H0 s0 H' s ∧ P m' as s, fun σ' H' h => h, ?_⟩
    have L2' := LL.fr f1
    exact ⟨Z, _, as, s1, R1, q1, ⟨back, L2'.rt, L2'.nx, back, L2'.ex⟩⟩
  | false =>
    rw [Br_false] at q1
    exact b_f (LL.nx as s1 σ H1 R1 f1 q1)⟩
end Sk
namespace Sk
open PySem PySem.Spec PyProof.Rows L2
/-! ### the things that are walked -/
def sgs (z : List Nat) : List D := z.map fun c => .str [c]
def rng (lo : Int) (n : Nat) : List D := (List.range n).map fun i : Nat => .int (lo + i)
def rngC (lo c : Int) (n : Nat) : List D := (List.range n).map fun i : Nat => .int (lo + i * c)
def enumD (ds : List D) : List D := ds.mapIdx fun i d => .tup [.int i, d]
def zipD (ds es : List D) : List D := List.zipWith (fun d e => .tup [d, e]) ds es
def iterO (a : Addr) : Option Ob → Option (List D × (Ah → Prop))
  | some (.lst ds) => some (ds, fun s => s a = some (.lst ds))
  | _ => none
def iterL (s : Ah) : D → Option (List D × (Ah → Prop))
  | .lst ds => some (ds, tt_)
  | .scr ds => some (ds, tt_)
  | .ref a => iterO a (s a)
  | _ => none
def iterD (s : Ah) : D → Option (List D × (Ah → Prop))
  | .tup ds => some (ds, tt_)
  | .str z => some (sgs z, tt_)
  | d => iterL s d
section
variable {K : PySem.W.Frag} {Z : Addr → Prop} {H : Hp} {s : Ah}
/-- a list, as it is read while G holds -/
theorem iterL_ok (R : Rep K Z H s) {d : D} {v : V} (r : Rp K H (Ow Z s) d v) {ds : List D} {G : Ah → Prop} (e : iterL s d = some (ds, G)) : ∃ p, v = .ref p ∧ (∃ vs, SqL K H p vs) ∧ G s ∧ ∀ Z2 H' s', Rep K Z2 H' s' → Frn H (Ow Z s) H' (Ow Z2 s') → G s' → ∃ vs, SqL K H' p vs ∧ Rps K H' (Ow Z2 s') ds vs := by
  cases r with
  | lst h n r =>
    cases e
    exact ⟨_, rfl, ⟨_, SqL.of h⟩, trivial, fun Z2 H' s' R' f _ => ⟨_, SqL.of (f _ _ h n).1, r.gen f⟩⟩
  | scr h r =>
    cases e
    exact ⟨_, rfl, ⟨_, h.sq⟩, trivial, fun Z2 H' s' R' f _ => ⟨_, (h.gen f).sq, r.gen f⟩⟩
  | ref a =>
    have e : iterO a (s a) = some (ds, G) := e
    unfold iterO at e
    split at e
    · rename_i ds' es
      cases e
      obtain ⟨vs, h, r⟩ := R.at_ _ _ es
      refine ⟨a, rfl, ⟨vs, SqL.of h⟩, es, fun Z2 H' s' R' f g => ?_⟩
      obtain ⟨ws, h', r'⟩ := R'.at_ _ _ g
      exact ⟨ws, SqL.of h', r'⟩
    · cases e
  | _ => cases e
theorem wd_lst {p : Addr} {ds : List D} {G : Ah → Prop} (h : ∀ Z2 H' s', Rep K Z2 H' s' → Frn H (Ow Z s) H' (Ow Z2 s') → G s' → ∃ vs, SqL K H' p vs ∧ Rps K H' (Ow Z2 s') ds vs) : WkD K Z H s ds G (Itl K p) where
  go := fun i Z2 H' s' hi R' f g => by
    obtain ⟨vs, h1, r⟩ := h Z2 H' s' R' f g
    obtain ⟨v, e, _⟩ := r.get (List.getElem?_eq_getElem hi)
    exact ⟨vs, v, h1, e⟩
  stop := fun Z2 H' s' R' f g => by
    obtain ⟨vs, h1, r⟩ := h Z2 H' s' R' f g
    exact ⟨vs, h1, Nat.le_of_eq r.len.symm⟩
  yld := fun i d Z2 H' s' x H2 e R' f g y => by
    obtain ⟨vs, h1, r⟩ := h Z2 H' s' R' f g
    obtain ⟨rfl, y2⟩ := y
    obtain ⟨v, e1, rv⟩ := r.get e
    have := y2 vs h1
    rw [e1] at this
    cases this
    exact ⟨R', Fr.refl _ _, rv⟩
theorem wd_tup {p : Addr} {vs : List V} {ds : List D} (h : H p = some (.tup vs)) (n : ¬ Ow Z s p) (r : Rps K H (Ow Z s) ds vs) : WkD K Z H s ds tt_ (Itt K p) where
  go := fun i Z2 H' s' hi R' f g => by
    obtain ⟨v, e, _⟩ := r.get (List.getElem?_eq_getElem hi)
    exact ⟨vs, v, SqT.of (f _ _ h n).1, e⟩
  stop := fun Z2 H' s' R' f g => ⟨vs, SqT.of (f _ _ h n).1, Nat.le_of_eq r.len.symm⟩
  yld := fun i d Z2 H' s' x H2 e R' f g y => by
    obtain ⟨rfl, y2⟩ := y
    obtain ⟨v, e1, rv⟩ := r.get e
    have := y2 vs (SqT.of (f _ _ h n).1)
    rw [e1] at this
    cases this
    exact ⟨R', Fr.refl _ _, rv.gen f⟩
theorem wd_str {z : List Nat} : WkD K Z H s (sgs z) tt_ (Its (ofL z)) where
  go := fun i Z2 H' s' hi R' f g => by
    show i < z.toArray.size
    rw [List.size_toArray]
    simpa [sgs] using hi
  stop := fun Z2 H' s' R' f g => by
    show z.toArray.size ≤ (sgs z).length
    rw [List.size_toArray]
    simp [sgs]
  yld := fun i d Z2 H' s' x H2 e R' f g y => by
    obtain ⟨rfl, c, e1, rfl⟩ := y
    refine ⟨R', Fr.refl _ _, ?_⟩
    unfold sgs at e
    rw [List.getElem?_map] at e
    have e1 : z.toArray[i]? = some c := e1
    rw [List.getElem?_toArray] at e1
    rw [e1] at e
    cases e
    exact .str [c]
theorem wd_rng {lo : Int} {n : Nat} : WkD K Z H s (rng lo n) tt_ (Itr lo n) where
  go := fun i Z2 H' s' hi R' f g => by
    show i < n
    simpa [rng] using hi
  stop := fun Z2 H' s' R' f g => by show n ≤ (rng lo n).length; simp [rng]
  yld := fun i d Z2 H' s' x H2 e R' f g y => by
    obtain ⟨rfl, rfl⟩ := y
    refine ⟨R', Fr.refl _ _, ?_⟩
    have hi := lt_of_get e
    simp [rng] at hi
    simp [rng, hi] at e
    subst e
    exact .int _
theorem wd_rngC {lo c : Int} {n : Nat} : WkD K Z H s (rngC lo c n) tt_ (Itc lo c n) where
  go := fun i Z2 H' s' hi R' f g => by
    show i < n
    simpa [rngC] using hi
  stop := fun Z2 H' s' R' f g => by show n ≤ (rngC lo c n).length; simp [rngC]
  yld := fun i d Z2 H' s' x H2 e R' f g y => by
    obtain ⟨rfl, rfl⟩ := y
    refine ⟨R', Fr.refl _ _, ?_⟩
    have hi := lt_of_get e
    simp [rngC] at hi
    simp [rngC, hi] at e
    subst e
    exact .int _
theorem wd_enum {p : Addr} {ds : List D} {G : Ah → Prop} (h : ∀ Z2 H' s', Rep K Z2 H' s' → Frn H (Ow Z s) H' (Ow Z2 s') → G s' → ∃ vs, SqL K H' p vs ∧ Rps K H' (Ow Z2 s') ds vs) : WkD K Z H s (enumD ds) G (Ite K p) where
  go := fun i Z2 H' s' hi R' f g => by
    obtain ⟨vs, h1, r⟩ := h Z2 H' s' R' f g
    rw [enumD, List.length_mapIdx] at hi
    obtain ⟨v, e, _⟩ := r.get (List.getElem?_eq_getElem hi)
    exact ⟨vs, v, h1, e⟩
  stop := fun Z2 H' s' R' f g => by
    obtain ⟨vs, h1, r⟩ := h Z2 H' s' R' f g
    exact ⟨vs, h1, Nat.le_of_eq (by rw [enumD, List.length_mapIdx]; exact r.len.symm)⟩
  yld := fun i d Z2 H' s' x H2 e R' f g y => by
    obtain ⟨vs, h1, r⟩ := h Z2 H' s' R' f g
    obtain ⟨T, x', rfl, hT, rfl, y2⟩ := y
    rw [enumD, List.getElem?_mapIdx] at e
    obtain ⟨d', ed, rfl⟩ := Option.map_eq_some_iff.mp e
    obtain ⟨v, e1, rv⟩ := r.get ed
    have := y2 vs h1
    rw [e1] at this
    cases this
    obtain ⟨R2, f2, _⟩ := R'.new (u := .tup [.int (i : Nat), x']) hT
    exact ⟨R2, f2, rp_newT R' (.cons (.int _) (.one rv)) hT⟩
theorem wd_rev {p : Addr} {ds : List D} {n : Nat} {G : Ah → Prop} (hn : n = ds.length) (h : ∀ Z2 H' s', Rep K Z2 H' s' → Frn H (Ow Z s) H' (Ow Z2 s') → G s' → ∃ vs, SqL K H' p vs ∧ Rps K H' (Ow Z2 s') ds vs) : WkD K Z H s ds.reverse G (Itv K p n) where
  go := fun i Z2 H' s' hi R' f g => by
    obtain ⟨vs, h1, r⟩ := h Z2 H' s' R' f g
    rw [List.length_reverse] at hi
    obtain ⟨v, e, _⟩ := r.get (List.getElem?_eq_getElem (show ds.length - 1 - i < ds.length by omega))
    exact ⟨by omega, vs, v, h1, by rw [hn]; exact e⟩
  stop := fun Z2 H' s' R' f g => by
    show n ≤ ds.reverse.length
    rw [List.length_reverse]
    exact Nat.le_of_eq hn
  yld := fun i d Z2 H' s' x H2 e R' f g y => by
    obtain ⟨vs, h1, r⟩ := h Z2 H' s' R' f g
    obtain ⟨rfl, y2⟩ := y
    have hi := lt_of_get e
    rw [List.length_reverse] at hi
    rw [List.getElem?_reverse hi] at e
    obtain ⟨v, e1, rv⟩ := r.get e
    have := y2 vs h1
    rw [hn, e1] at this
    cases this
    exact ⟨R', Fr.refl _ _, rv⟩
theorem wd_zip {p q : Addr} {ds es : List D} {G G' : Ah → Prop} (h : ∀ Z2 H' s', Rep K Z2 H' s' → Frn H (Ow Z s) H' (Ow Z2 s') → G s' → ∃ vs, SqL K H' p vs ∧ Rps K H' (Ow Z2 s') ds vs)
    (h' : ∀ Z2 H' s', Rep K Z2 H' s' → Frn H (Ow Z s) H' (Ow Z2 s') → G' s' → ∃ vs, SqL K H' q vs ∧ Rps K H' (Ow Z2 s') es vs) : WkD K Z H s (zipD ds es) (fun s => G s ∧ G' s) (Itz K p q) where
  go := fun i Z2 H' s' hi R' f g => by
    obtain ⟨vs, h1, r⟩ := h Z2 H' s' R' f g.1
    obtain ⟨ws, h2, r2⟩ := h' Z2 H' s' R' f g.2
    rw [zipD, List.length_zipWith] at hi
    obtain ⟨v, e, _⟩ := r.get (List.getElem?_eq_getElem (show i < ds.length by omega))
    obtain ⟨w, e2, _⟩ := r2.get (List.getElem?_eq_getElem (show i < es.length by omega))
    exact ⟨vs, ws, v, w, h1, h2, e, e2⟩
  stop := fun Z2 H' s' R' f g => by
    obtain ⟨vs, h1, r⟩ := h Z2 H' s' R' f g.1
    obtain ⟨ws, h2, r2⟩ := h' Z2 H' s' R' f g.2
    refine ⟨vs, ws, h1, h2, ?_⟩
    rw [zipD, List.length_zipWith, ← r.len, ← r2.len]
    omega
  yld := fun i d Z2 H' s' x H2 e R' f g y => by
    obtain ⟨vs, h1, r⟩ := h Z2 H' s' R' f g.1
    obtain ⟨ws, h2, r2⟩ := h' Z2 H' s' R' f g.2
    obtain ⟨T, a, b, rfl, hT, rfl, y1, y2⟩ := y
    rw [zipD, List.getElem?_zipWith] at e
    cases e1 : ds[i]? with
    | none => rw [e1] at e; cases e
    | some d1 =>
      cases e2 : es[i]? with
      | none => rw [e1, e2] at e; cases e
      | some d2 =>
        rw [e1, e2] at e
        cases e
        obtain ⟨v, g1, rv⟩ := r.get e1
        obtain ⟨w, g2, rw'⟩ := r2.get e2
        have z1 := y1 vs h1
        have z2 := y2 ws h2
        rw [g1] at z1
        rw [g2] at z2
        cases z1; cases z2
        obtain ⟨R2, f2, _⟩ := R'.new (u := .tup [a, b]) hT
        exact ⟨R2, f2, rp_newT R' (.cons rv (.one rw')) hT⟩
end
/-- any list, tuple or text -/
theorem pi_any {X : Cx} {tg l : Expr} {tl : TE} (hl : PE X l tl) : PI X tg l (fun σ H R => tl σ H fun x H1 => (∃ a, x = .ref a ∧ (∃ xs, SqL X.K H1 a xs) ∧ R (Itl X.K a) H1) ∨ (∃ a, x = .ref a ∧ (∃ xs, SqT X.K H1 a xs) ∧ R (Itt X.K a) H1) ∨ ∃ z, x = .str z ∧ R (Its z) H1) := by
  refine ⟨fun pins s σ H R I h => ?_⟩
  refine thn (hl.run pins s σ H _ I h) fun v s1 ⟨x, H1, I1, r1, q1⟩ => ?_
  rcases q1 with ⟨a, e, ⟨xs, hq⟩, q⟩ | ⟨a, e, ⟨xs, hq⟩, q⟩ | ⟨z, e, q⟩
  · subst e
    cases r1
    obtain ⟨its, rv, p, hz⟩ := I1.list hq
    refine wpAny_pyIter_list p.isList ?_
    refine ⟨s1.heap.objs.size, [s1.heap.objs.size], _, _, H1, rfl, I1.kept (t' := s1.toks) fun b o e => Heap.get?_push_of_some _ e, turn_list a _, ⟨_, Heap.get?_push_size _ rfl, rfl, rfl⟩, fun b hb => ?_, q⟩
    have e : b = s1.heap.objs.size := by simpa using hb
    subst e
    exact I1.fpOk (Nat.le_refl _) (I1.hok.fresh (Nat.le_refl _))
  · subst e
    cases r1
    obtain ⟨its, rv, p, hz⟩ := I1.tuple hq
    refine wpAny_pyIter_tuple (show s1.heap.IsTuple a its.toArray from p) ?_
    refine ⟨s1.heap.objs.size, [s1.heap.objs.size], _, _, H1, rfl, I1.kept (t' := s1.toks) fun b o e => Heap.get?_push_of_some _ e, turn_tuple a _, ⟨_, Heap.get?_push_size _ rfl, rfl, rfl⟩, fun b hb => ?_, q⟩
    have e : b = s1.heap.objs.size := by simpa using hb
    subst e
    exact I1.fpOk (Nat.le_refl _) (I1.hok.fresh (Nat.le_refl _))
  · subst e
    obtain ⟨t, rfl⟩ := r1
    cases ha : z.cps.all (· < 128)
    · exact wpAny_pyIter_wide ha (pi_one (tk := s1.toks) I1 _ (turn_str _ z t "str_iterator" (.inr rfl)) ⟨_, Heap.get?_push_size _ rfl, rfl, rfl⟩ q)
    · exact wpAny_pyIter_ascii ha (pi_one (tk := s1.toks) I1 _ (turn_str _ z t "str_ascii_iterator" (.inl rfl)) ⟨_, Heap.get?_push_size _ rfl, rfl, rfl⟩ q)
def aiAny (a : ATE) : ATI := fun as s Q E => a as s (fun x s1 => opt (iterD s1 x) (fun r => Q r.1 r.2 s1) ⟨⟩) E
def one : List D → Option D
  | [x] => some x
  | _ => none
def aiEnum (a : ATA) : ATI := fun as s Q E => a as s (fun xs s1 => opt ((one xs).bind (iterL s1)) (fun r => Q (enumD r.1) r.2 s1) ⟨⟩) E
def aiRev (a : ATA) : ATI := fun as s Q E => a as s (fun xs s1 => opt ((one xs).bind (iterL s1)) (fun r => Q r.1.reverse r.2 s1) ⟨⟩) E
def two2 (s : Ah) (xs : List D) : Option ((List D × (Ah → Prop)) × (List D × (Ah → Prop))) := match xs with
  | [x, y] => match iterL s x, iterL s y with
    | some a, some b => some (a, b)
    | _, _ => none
  | _ => none
def aiZip (a : ATA) : ATI := fun as s Q E => a as s (fun xs s1 => opt (two2 s1 xs) (fun r => Q (zipD r.1.1 r.2.1) (fun s => r.1.2 s ∧ r.2.2 s) s1) ⟨⟩) E
def int1 : List D → Option Int
  | [.int j] => some j
  | _ => none
def int2 : List D → Option (Int × Int)
  | [.int i, .int j] => some (i, j)
  | _ => none
def RgOk1 (j : Int) : Prop := -(2 ^ 62) ≤ j ∧ j < 2 ^ 62
def aiRng1 (a : ATA) : ATI := fun as s Q E => a as s (fun xs s1 => opt (int1 xs) (fun j => Rq (RgOk1 j) (Q (rng 0 j.toNat) tt_ s1) ⟨⟩) ⟨⟩) E
def aiRng2 (a : ATA) : ATI := fun as s Q E => a as s (fun xs s1 => opt (int2 xs) (fun r => Rq (RgOk1 r.1 ∧ RgOk1 r.2) (Q (rng r.1 (r.2 - r.1).toNat) tt_ s1) ⟨⟩) ⟨⟩) E
def rgOf3 : List D → Option (Int × Int × Int)
  | [.int i, .int j, .int k] => some (i, j, k)
  | _ => none
def aiRng3 (a : ATA) : ATI := fun as s Q E => a as s (fun xs s1 => opt (rgOf3 xs) (fun r => ∃ n, RgC r.1 r.2.1 r.2.2 n ∧ Q (rngC r.1 r.2.2 n) tt_ s1) ⟨⟩) E
section
variable {X : Cx} {W : WX} {tg : Expr}
theorem ai_any {l : Expr} {a : ATE} (h : AE X W l a) : AI X W tg l (aiAny a) := ⟨weakI (pi_any h.pe) fun σ H Rc => by
  rintro ⟨Z, as, s, Q, E, R, q, L, LX⟩
  refine conc_bind (Q1 := fun x s1 => opt (iterD s1 x) (fun r => Q r.1 r.2 s1) ⟨⟩) R LX q fun x s1 v H1 R1 r1 f1 L1 q1 => ?_
  obtain ⟨⟨ds, G⟩, e, q2⟩ := opt_of q1
  unfold iterD at e
  split at e
  · cases e
    cases r1 with
    | tup h n r => exact .inr (.inl ⟨_, rfl, ⟨_, SqT.of h⟩, L _ _ _ H1 s1 R1 f1 (wd_tup h n r) q2⟩)
  · cases e
    cases r1
    exact .inr (.inr ⟨_, rfl, L _ _ _ H1 s1 R1 f1 wd_str q2⟩)
  · obtain ⟨p, rfl, hq, _, k⟩ := iterL_ok R1.rep r1 e
    exact .inl ⟨p, rfl, hq, L _ _ _ H1 s1 R1 f1 (wd_lst k) q2⟩⟩
theorem one_rp {K : PySem.W.Frag} {H : Hp} {N : Addr → Prop} {xs : List D} {vs : List V} {x : D} (r : Rps K H N xs vs) (e : one xs = some x) : ∃ v, vs = [v] ∧ Rp K H N x v := by
  unfold one at e
  split at e
  · cases e
    cases r with
    | cons h t =>
      cases t
      exact ⟨_, rfl, h⟩
  · cases e
theorem ai_enum {e : Expr} {ta : ATA} {p pos tpos : Pos} {elts : List Expr} {kk : Nat} (hg : Gl X "enumerate") (hm : X.mg "enumerate" = none) (ha : AA X W [e] ta) (hs : starEach [e] X.env = [(false, eval e X.env)] := by rfl) :
    AI X W (.Tuple elts kk tpos) (.Call (.Name "enumerate" p) [e] [] pos) (aiEnum ta) := ⟨weakI (pi_enum hg hm ha.pa hs) fun σ H Rc => by
  rintro ⟨Z, as, s, Q, E, R, q, L, LX⟩
  refine conc_bindA (Q1 := fun xs s1 => opt ((one xs).bind (iterL s1)) (fun r => Q (enumD r.1) r.2 s1) ⟨⟩) R LX q fun xs s1 vs H1 R1 r1 f1 L1 q1 => ?_
  obtain ⟨⟨ds, G⟩, e, q2⟩ := opt_of q1
  obtain ⟨x, ex, e⟩ := Option.bind_eq_some_iff.mp e
  obtain ⟨v, rfl, rx⟩ := one_rp r1 ex
  obtain ⟨p, rfl, ⟨ws, hq⟩, _, k⟩ := iterL_ok R1.rep rx e
  exact ⟨p, ws, rfl, hq, L _ _ _ H1 s1 R1 f1 (wd_enum k) q2⟩⟩
theorem ai_rev {e : Expr} {ta : ATA} {p pos : Pos} (hg : Gl X "reversed") (hm : X.mg "reversed" = none) (ha : AA X W [e] ta) (hs : starEach [e] X.env = [(false, eval e X.env)] := by rfl) :
    AI X W tg (.Call (.Name "reversed" p) [e] [] pos) (aiRev ta) := ⟨weakI (pi_reversed hg hm ha.pa hs) fun σ H Rc => by
  rintro ⟨Z, as, s, Q, E, R, q, L, LX⟩
  refine conc_bindA (Q1 := fun xs s1 => opt ((one xs).bind (iterL s1)) (fun r => Q r.1.reverse r.2 s1) ⟨⟩) R LX q fun xs s1 vs H1 R1 r1 f1 L1 q1 => ?_
  obtain ⟨⟨ds, G⟩, e, q2⟩ := opt_of q1
  obtain ⟨x, ex, e⟩ := Option.bind_eq_some_iff.mp e
  obtain ⟨v, rfl, rx⟩ := one_rp r1 ex
  obtain ⟨p, rfl, ⟨ws, hq⟩, g, k⟩ := iterL_ok R1.rep rx e
  obtain ⟨ws', hq', rw'⟩ := k Z H1 s1 R1.rep (Frn.refl _ _) g
  exact ⟨p, ws', rfl, hq', L _ _ _ H1 s1 R1 f1 (wd_rev rw'.len.symm k) q2⟩⟩
theorem ai_zip {e e2 : Expr} {ta : ATA} {p pos tpos : Pos} {elts : List Expr} {kk : Nat} (hg : Gl X "zip") (hm : X.mg "zip" = none) (ha : AA X W [e, e2] ta)
    (hs : starEach [e, e2] X.env = (false, eval e X.env) :: starEach [e2] X.env := by rfl) (hpl : (backTo pos (starEach [e2] X.env)).any (·.1) = false := by rfl) :
    AI X W (.Tuple elts kk tpos) (.Call (.Name "zip" p) [e, e2] [] pos) (aiZip ta) := ⟨weakI (pi_zip hg hm ha.pa hs hpl) fun σ H Rc => by
  rintro ⟨Z, as, s, Q, E, R, q, L, LX⟩
  refine conc_bindA (Q1 := fun xs s1 => opt (two2 s1 xs) (fun r => Q (zipD r.1.1 r.2.1) (fun s => r.1.2 s ∧ r.2.2 s) s1) ⟨⟩) R LX q fun xs s1 vs H1 R1 r1 f1 L1 q1 => ?_
  obtain ⟨⟨⟨ds, G⟩, ⟨es, G'⟩⟩, e, q2⟩ := opt_of q1
  unfold two2 at e
  split at e
  · rename_i x y
    split at e
    · rename_i a b ea eb
      cases e
      cases r1 with
      | cons rx rr =>
        cases rr with
        | cons ry rn =>
          cases rn
          obtain ⟨p, rfl, ⟨ws, hq⟩, _, k⟩ := iterL_ok R1.rep rx ea
          obtain ⟨p', rfl, ⟨ws', hq'⟩, _, k'⟩ := iterL_ok R1.rep ry eb
          exact ⟨p, p', ws, ws', rfl, hq, hq', L _ _ _ H1 s1 R1 f1 (wd_zip k k') q2⟩
    · cases e
  · cases e⟩
theorem int1_v {K : PySem.W.Frag} {H : Hp} {N : Addr → Prop} {xs : List D} {vs : List V} {j : Int} (r : Rps K H N xs vs) (e : int1 xs = some j) : vs = [.int j] := by
  unfold int1 at e
  split at e
  · cases e
    cases r with
    | cons h t => cases h; cases t; rfl
  · cases e
theorem int2_v {K : PySem.W.Frag} {H : Hp} {N : Addr → Prop} {xs : List D} {vs : List V} {i j : Int} (r : Rps K H N xs vs) (e : int2 xs = some (i, j)) : vs = [.int i, .int j] := by
  unfold int2 at e
  split at e
  · cases e
    cases r with
    | cons h t =>
      cases h
      cases t with
      | cons h t => cases h; cases t; rfl
  · cases e
theorem int3_v {K : PySem.W.Frag} {H : Hp} {N : Addr → Prop} {xs : List D} {vs : List V} {i j k : Int} (r : Rps K H N xs vs) (e : rgOf3 xs = some (i, j, k)) : vs = [.int i, .int j, .int k] := by
  unfold rgOf3 at e
  split at e
  · cases e
    cases r with
    | cons h t =>
      cases h
      cases t with
      | cons h t =>
        cases h
        cases t with
        | cons h t => cases h; cases t; rfl
  · cases e
theorem ai_rng1 {a : Expr} {ta : ATA} {p pos : Pos} (hg : Gl X "range") (hm : X.mg "range" = none) (ha : AA X W [a] ta) (hs : starEach [a] X.env = [(false, eval a X.env)] := by rfl) : AI X W tg (.Call (.Name "range" p) [a] [] pos) (aiRng1 ta) := ⟨weakI (pi_range1 hg hm ha.pa hs) fun σ H Rc => by
  rintro ⟨Z, as, s, Q, E, R, q, L, LX⟩
  refine conc_bindA (Q1 := fun xs s1 => opt (int1 xs) (fun j => Rq (RgOk1 j) (Q (rng 0 j.toNat) tt_ s1) ⟨⟩) ⟨⟩) R LX q fun xs s1 vs H1 R1 r1 f1 L1 q1 => ?_
  obtain ⟨j, e, hp, q2⟩ := opt_of q1
  exact ⟨j, int1_v r1 e, hp.1, hp.2, L _ _ _ H1 s1 R1 f1 wd_rng q2⟩⟩
theorem ai_rng2 {a b : Expr} {ta : ATA} {p pos : Pos} (hg : Gl X "range") (hm : X.mg "range" = none) (ha : AA X W [a, b] ta) (hs : starEach [a, b] X.env = [(false, eval a X.env), (false, eval b X.env)] := by rfl) (hs2 : starEach [b] X.env = [(false, eval b X.env)] := by rfl) :
    AI X W tg (.Call (.Name "range" p) [a, b] [] pos) (aiRng2 ta) := ⟨weakI (pi_range2 hg hm ha.pa hs hs2) fun σ H Rc => by
  rintro ⟨Z, as, s, Q, E, R, q, L, LX⟩
  refine conc_bindA (Q1 := fun xs s1 => opt (int2 xs) (fun r => Rq (RgOk1 r.1 ∧ RgOk1 r.2) (Q (rng r.1 (r.2 - r.1).toNat) tt_ s1) ⟨⟩) ⟨⟩) R LX q fun xs s1 vs H1 R1 r1 f1 L1 q1 => ?_
  obtain ⟨⟨i, j⟩, e, hp, q2⟩ := opt_of q1
  exact ⟨i, j, int2_v r1 e, ⟨hp.1.1, hp.1.2, hp.2.1, hp.2.2⟩, L _ _ _ H1 s1 R1 f1 wd_rng q2⟩⟩
theorem ai_rng3 {a b c : Expr} {ta : ATA} {p pos : Pos} (hg : Gl X "range") (hm : X.mg "range" = none) (ha : AA X W [a, b, c] ta)
    (hs : starEach [a, b, c] X.env = (false, eval a X.env) :: starEach [b, c] X.env := by rfl) (hpl : (backTo pos (starEach [b, c] X.env)).any (·.1) = false := by rfl) :
    AI X W tg (.Call (.Name "range" p) [a, b, c] [] pos) (aiRng3 ta) := ⟨weakI (pi_range3 hg hm ha.pa hs hpl) fun σ H Rc => by
  rintro ⟨Z, as, s, Q, E, R, q, L, LX⟩
  refine conc_bindA (Q1 := fun xs s1 => opt (rgOf3 xs) (fun r => ∃ n, RgC r.1 r.2.1 r.2.2 n ∧ Q (rngC r.1 r.2.2 n) tt_ s1) ⟨⟩) R LX q fun xs s1 vs H1 R1 r1 f1 L1 q1 => ?_
  obtain ⟨⟨i, j, k⟩, e, n, hp, q2⟩ := opt_of q1
  exact ⟨i, j, k, n, int3_v r1 e, hp, L _ _ _ H1 s1 R1 f1 wd_rngC q2⟩⟩
end
/-! ### comprehensions -/
def wipeA (as : ASt) : List Nat → ASt
  | [] => as
  | v :: vs => (wipeA as vs).set v none
/-- [.. for .. in .. if ..]: the things made so far, the store -/
def AskLc (ds : List D) (G : Ah → Prop) (g : ATG) (tt : ATT) (te : ATE) (as : ASt) (s : Ah) (Q : AVK) (_ : Tg Q) : Prop := ∃ P : Nat → List D → Ah → Prop, P 0 [] s ∧ (∀ i acc s, i ≤ ds.length → P i acc s → G s) ∧ ds.length < 16777216 ∧
  (∀ i d acc s, ds[i]? = some d → P i acc s → g d as s fun as2 s2 => tt as2 s2 (fun b s3 => Br b (te as2 s3 (fun y s4 => ∃ s5, Le s5 s4 ∧ P (i + 1) (acc ++ [y]) s5) noX) (∃ s5, Le s5 s3 ∧ P (i + 1) acc s5) ⟨⟩ ⟨⟩) noX) ∧ ∀ acc s, P ds.length acc s → Q (.lst acc) s
def aLc (wi : ATI) (g : ATG) (tt : ATT) (te : ATE) (vs : List Nat) : ATE := fun as s Q E => wi as s (fun ds G s1 => AskLc ds G g tt te (wipeA as vs) s1 Q ⟨⟩) E
structure ATs (X : Cx) (W : WX) (es : List Expr) (a : ATT) : Prop where
  pts : PTs X es (concT X.K W a)
def aYes : ATT := fun _ s Q _ => Q true s
theorem wipe_get (σ : L2.St) : ∀ (vs : List Nat) (i : Nat), (wipe σ vs)[i]? = if i ∈ vs ∧ i < σ.length then some none else σ[i]?
  | [], i => by simp [wipe]
  | v :: vs, i => by
    unfold wipe
    rw [List.getElem?_set, wipe_get σ vs i, wipe_length]
    by_cases h : v = i
    · subst h
      by_cases h2 : v < σ.length
      · simp [h2]
      · simp [h2, List.getElem?_eq_none (Nat.le_of_not_lt h2)]
    · simp [h, Ne.symm h]
theorem wipe_off {σ σ' : L2.St} {vs : List Nat} (h : Off vs (wipe σ vs) σ') : wipe σ' vs = wipe σ vs := by
  refine List.ext_getElem? fun i => ?_
  rw [wipe_get, wipe_get]
  have hl : σ'.length = σ.length := by rw [h.1, wipe_length]
  rw [hl]
  by_cases hc : i ∈ vs ∧ i < σ.length
  · rw [if_pos hc, if_pos hc]
  · rw [if_neg hc, if_neg hc]
    by_cases hi : i ∈ vs
    · have : ¬ i < σ.length := fun z => hc ⟨hi, z⟩
      rw [List.getElem?_eq_none (by omega), List.getElem?_eq_none (by omega)]
    · rw [h.2 i hi, wipe_get, if_neg (fun z => hi z.1)]
theorem wipeA_get (as : ASt) : ∀ (vs : List Nat) (i : Nat) (d : D), (wipeA as vs)[i]? = some (some d) → as[i]? = some (some d) ∧ i ∉ vs
  | [], i, d, h => ⟨h, by simp⟩
  | v :: vs, i, d, h => by
    unfold wipeA at h
    by_cases e : v = i
    · subst e
      by_cases hl : v < (wipeA as vs).length
      · rw [List.getElem?_set_self hl] at h; cases h
      · rw [List.getElem?_eq_none (by rw [List.length_set]; omega)] at h; cases h
    · rw [List.getElem?_set_ne e] at h
      obtain ⟨h1, h2⟩ := wipeA_get as vs i d h
      exact ⟨h1, by simp [h2, Ne.symm e]⟩
theorem wipeA_len (as : ASt) : ∀ vs : List Nat, (wipeA as vs).length = as.length
  | [] => rfl
  | v :: vs => by unfold wipeA; rw [List.length_set, wipeA_len as vs]
theorem Rst.wipe {K : PySem.W.Frag} {Z : Addr → Prop} {σ : L2.St} {H : Hp} {as : ASt} {s : Ah} (R : Rst K Z σ H as s) (vs : List Nat) : Rst K Z (L2.wipe σ vs) H (wipeA as vs) s := by
  refine ⟨R.rep, fun i d e => ?_, by rw [wipeA_len, wipe_length]; exact R.len⟩
  obtain ⟨e1, hi⟩ := wipeA_get as vs i d e
  obtain ⟨v, h1, h2⟩ := R.sl i d e1
  exact ⟨v, by rw [wipe_get, if_neg (fun z => hi z.1)]; exact h1, h2⟩
section
variable {X : Cx} {W : WX}
theorem ats_nil : ATs X W [] aYes := ⟨⟨fun pins s σ H Q I h => (pts_nil (X := X)).run pins s σ H Q I (by
  obtain ⟨Z, as, s, Q, E, R, q, L, _⟩ := h
  exact L true s H R.rep (Fr.refl H s) q)⟩⟩
theorem ats_one {c : Expr} {t : ATT} (h : AT X W c t) : ATs X W [c] t := ⟨pts_one h.pt⟩
/-- where no error may come -/
def W0 : WX := fun _ _ _ _ => False
theorem noX_of {K : PySem.W.Frag} {Z : Addr → Prop} {σ : L2.St} {H : Hp} {s : Ah} : LnkX K Z W0 σ H s noX := fun _ _ _ _ _ _ q => q.elim
theorem conc_lc {σ0 : L2.St} {H0 : Hp} {Qc : VK} {wi : ATI} {ws vs : List Nat} {g : ATG} {tt : ATT} {te : ATE} (hw : ∀ i, i ∈ ws → i ∈ vs) (h : concE X.K W (aLc wi g tt te vs) σ0 H0 Qc) :
    tLc (concI X.K W wi) (concG X.K ws g) (concT X.K W0 tt) (concE X.K W0 te) vs σ0 H0 Qc := by
  obtain ⟨Z, as0, s0, Q, E, R0, q, L, LX⟩ := h
  refine ⟨Z, as0, s0, _, E, R0, q, fun J ds G H1 s1 R1 f1 wk hq => ?_, LX⟩
  intro D hD
  obtain ⟨P, p0, hG, hlen, step, done⟩ := hq
  obtain ⟨Ra, fa⟩ := R1.rep.aside (u := .lst []) hD trivial
  have zD : ¬ Z D := fun z => by
    obtain ⟨⟨u, e, _⟩, _⟩ := R1.rep.zed D z
    rw [hD] at e
    cases e
  have sl0 : ∀ H s, Rep X.K (fun x => Z x ∨ x = D) H s → Frn H1 (Ow Z s1) H (Ow (fun x => Z x ∨ x = D) s) → Rst X.K (fun x => Z x ∨ x = D) (wipe σ0 vs) H (wipeA as0 vs) s := fun H s R f => by
    have w := R1.wipe vs
    exact ⟨R, fun i d e => let ⟨v, h1, h2⟩ := w.sl i d e; ⟨v, h1, h2.gen f⟩, w.len⟩
  refine ⟨fun i m H => ∃ acc s us, m = ds.length - i ∧ i ≤ ds.length ∧ acc.length ≤ i ∧ Rep X.K (fun x => Z x ∨ x = D) H s ∧ Frn H1 (Ow Z s1) H (Ow (fun x => Z x ∨ x = D) s) ∧ Fr H1 s1 H s ∧ H D = some (.lst us) ∧ Rps X.K H (Ow (fun x => Z x ∨ x = D) s) acc us ∧ P i acc s, ⟨ds.length, [], s1, [], by simp, Nat.zero_le _, Nat.le_refl _, Ra, fa, fun p u h n => ⟨by rw [upd_ne (ne_of_none h hD)]; exact h, n⟩, upd_same, .nil, p0⟩, ?_⟩
  rintro i m H ⟨acc, s, us, rfl, hi, hal, R, fn, f, hDl, racc, p⟩
  have hg := hG i acc s hi p
  by_cases hlt : i < ds.length
  · refine .inr ⟨wk.go i _ H s hlt R fn hg, fun H' => ∃ acc s us, i + 1 ≤ ds.length ∧ acc.length ≤ i + 1 ∧ Rep X.K (fun x => Z x ∨ x = D) H' s ∧ Frn H1 (Ow Z s1) H' (Ow (fun x => Z x ∨ x = D) s) ∧ Fr H1 s1 H' s ∧ H' D = some (.lst us) ∧ Rps X.K H' (Ow (fun x => Z x ∨ x = D) s) acc us ∧ P (i + 1) acc s,
      fun H' ⟨acc, s, us, h1, h2, h3, h4, h5, h6, h7, h8⟩ => ⟨ds.length - (i + 1), by omega, acc, s, us, rfl, h1, h2, h3, h4, h5, h6, h7, h8⟩, fun x H' y => ?_⟩
    obtain ⟨Rr, fr, rx⟩ := wk.yld i _ _ H s x H' (List.getElem?_eq_getElem hlt) R fn hg y
    have st := step i _ acc s (List.getElem?_eq_getElem hlt) p
    have R' := (sl0 H s R fn).fr Rr fr
    refine ⟨_, _, wipeA as0 vs, s, _, R', rx, st, fun as2 s2 σ2 H2 R2 f2 off q2 => ⟨wipe_off ⟨off.1, fun j hj => off.2 j fun z => hj (hw j z)⟩, ?_⟩⟩
    refine ⟨_, as2, s2, _, noX, R2, q2, fun b s3 H3 R3 f3 q3 => ?_, noX_of⟩
    have f03 := (fr.trans f2).trans f3
    have nD : ¬ Own s D := (R.zed D (.inr rfl)).2
    cases b with
    | true =>
      rw [Br_true] at q3
      refine b_t ⟨_, as2, s3, _, noX, R2.fr R3 f3, q3, fun y s4 v H4 R4 ry f4 q4 => ?_, noX_of⟩
      obtain ⟨s5, le, p5⟩ := q4
      obtain ⟨R5, f5⟩ := R4.less le
      have f05 := (f03.trans f4).trans f5
      obtain ⟨hD5, nD5⟩ := f05 D _ hDl nD
      obtain ⟨R6, f6⟩ := R5.turn (u := .lst (us ++ [v])) (.inr rfl) hD5 trivial trivial
      refine ⟨us, hD5, ?_, acc ++ [y], s5, us ++ [v], hlt, by simp; omega, R6, (fn.trans f05.n).trans f6, fun p' u h n => ?_, upd_same, ((racc.fr f05).app (.one (ry.fr f5))).gen f6, p5⟩
      · rw [← racc.len]
        show acc.length < 16777216
        omega
      · obtain ⟨h1, n1⟩ := (f.trans f05) p' u h n
        exact ⟨by rw [upd_ne (ne_of_none h hD)]; exact h1, n1⟩
    | false =>
      rw [Br_false] at q3
      obtain ⟨s5, le, p5⟩ := q3
      obtain ⟨R5, f5⟩ := R3.less le
      have f05 := f03.trans f5
      obtain ⟨hD5, nD5⟩ := f05 D _ hDl nD
      exact b_f ⟨acc, s5, us, hlt, by omega, R5, fn.trans f05.n, f.trans f05, hD5, racc.fr f05, p5⟩
  · have e : i = ds.length := by omega
    subst e
    refine .inl ⟨wk.stop _ H s R fn hg, ?_⟩
    obtain ⟨Rz, fz⟩ := R.fewer (Z := Z) fun x z => .inl z
    refine L (.lst acc) s (.ref D) H Rz (.lst hDl (fun z => ?_) (racc.gen fz)) (f1.trans f) (done acc s p)
    rcases z with z | z
    · exact (R.zed D (.inr rfl)).2 z
    · exact zD z
theorem ae_lc {elt tg iter : Expr} {ifs : List Expr} {scope : Scope} {own : List (Str × Nat)} {pos : Pos} {wi : ATI} {ws : List Nat} {g : ATG} {tt : ATT} {te : ATE} (hc : X.calm = true) (hN : X.N.Nodup) (hi : AI X W tg iter wi) (ok : BlkOk X.N X.env.scope scope own) (hw : ∀ i, i ∈ ws → i ∈ own.map (·.2))
    (hg : ∀ (s : Shared) (H : Hp) (C : Addr) (cl : List (Str × Addr)) (fp : List Addr), AG (X.blk s H scope (compEnvC scope cl C X.env) fp) tg ws g) (ht : ∀ (s : Shared) (H : Hp) (C : Addr) (cl : List (Str × Addr)) (fp : List Addr), ATs (X.blk s H scope (compEnvC scope cl C X.env) fp) W0 ifs tt)
    (he : ∀ (s : Shared) (H : Hp) (C : Addr) (cl : List (Str × Addr)) (fp : List Addr), AE (X.blk s H scope (compEnvC scope cl C X.env) fp) W0 elt te) (hs : ∀ x, foldedSetIterable iter X.env x = pure x := by intro _; rfl) :
    AE X W (.ListComp elt [⟨tg, iter, ifs, 0⟩] scope pos) (aLc wi g tt te (own.map (·.2))) :=
  ⟨weakE (pe_lc hc hN hi.pi ok (fun s H C cl fp => (hg s H C cl fp).pg) (fun s H C cl fp => (ht s H C cl fp).pts) (fun s H C cl fp => (he s H C cl fp).pe) hs) fun σ H Qc h => conc_lc hw h⟩
theorem as_setLc {i : Nat} {y : Str} {py : Pos} {elt tg iter : Expr} {ifs : List Expr} {scope : Scope} {own : List (Str × Nat)} {pos spos : Pos} {wi : ATI} {ws : List Nat} {g : ATG} {tt : ATT} {te : ATE} (hc : X.calm = true) (hN : X.N.Nodup) (hy : X.N[i]? = some y) (hyl : X.env.scope.names.lookup y = some .local)
    (hsw : swapsWith (.ListComp elt [⟨tg, iter, ifs, 0⟩] scope pos) (some (.Name y py)) spos.line X.env = pure true) (hi : AI X W tg iter wi) (ok : BlkOk X.N X.env.scope scope own) (hw : ∀ i, i ∈ ws → i ∈ own.map (·.2))
    (hg : ∀ (s : Shared) (H : Hp) (C : Addr) (cl : List (Str × Addr)) (fp : List Addr), AG (X.blk s H scope (compEnvC scope cl C X.env) fp) tg ws g) (ht : ∀ (s : Shared) (H : Hp) (C : Addr) (cl : List (Str × Addr)) (fp : List Addr), ATs (X.blk s H scope (compEnvC scope cl C X.env) fp) W0 ifs tt)
    (he : ∀ (s : Shared) (H : Hp) (C : Addr) (cl : List (Str × Addr)) (fp : List Addr), AE (X.blk s H scope (compEnvC scope cl C X.env) fp) W0 elt te) (hs : ∀ x, foldedSetIterable iter X.env x = pure x := by intro _; rfl) :
    AS X W (.Assign [.Name y py] (.ListComp elt [⟨tg, iter, ifs, 0⟩] scope pos) spos) (aAsg (aLc wi g tt te (own.map (·.2))) (agName i)) :=
  ⟨weakS (ps_setLc hc hN hy hyl hsw hi.pi ok (fun s H C cl fp => (hg s H C cl fp).pg) (fun s H C cl fp => (ht s H C cl fp).pts) (fun s H C cl fp => (he s H C cl fp).pe) hs) fun C σ H => by
    rintro ⟨Z, A, as, s, R, q, L⟩
    have h : concE X.K W (aLc wi g tt te (own.map (·.2))) σ H fun x H1 => C.nx (σ.set i (some x)) H1 := by
      refine conc_bind (Q1 := fun x s1 => A.nx (setS as i x) s1) R (L.x R) q fun d s1 v H1 R1 r1 f1 L1 q1 => ?_
      refine L.nx _ s1 _ H1 (R1.set r1 i) f1 ?_
      rw [← setS_eq]
      exact q1
    exact conc_lc hw h⟩
end
end Sk
namespace Sk
open PySem PySem.Spec PyProof.Rows L2
/-! ### what a def is worth -/
abbrev ASp := List D → Ah → AVK → AX → Prop
def spA (K : PySem.W.Frag) (f : ASp) : Sp := fun vs H Q E => ∃ Z ds s Qa Ea, Rep K Z H s ∧ Rps K H (Ow Z s) ds vs ∧ f ds s Qa Ea ∧ Lnk K Z H s Qa Q ∧ ∀ c od s' H', Rep K Z H' s' → Fr H s H' s' → Ea c od s' → E c od H'
def Ask (f : ASp) (ds : List D) (s : Ah) (Q : AVK) (E : AX) (_ : Tg Q) (_ : Tg E) : Prop := f ds s Q E
def aCall (f : ASp) (a : ATA) : ATE := fun as s Q E => a as s (fun ds s1 => Ask f ds s1 Q E ⟨⟩ ⟨⟩) E
def clsOf (K : PySem.W.Frag) : Ob → Option Addr
  | .shf _ _ => some (shC K)
  | .ins C _ _ => some C
  | _ => none
def namesOf : Ob → List Str
  | .shf _ _ => shNames
  | .ins _ _ fs => fs.map Prod.fst
  | _ => []
def RecvO (K : PySem.W.Frag) (C : Addr) (ns : List Str) : Option Ob → Prop
  | some o => clsOf K o = some C ∧ namesOf o = ns
  | none => False
def Recv (K : PySem.W.Frag) (C : Addr) (ns : List Str) (s : Ah) : D → Prop
  | .ref a => RecvO K C ns (s a)
  | _ => False
def aMeth (K : PySem.W.Frag) (C : Addr) (ns : List Str) (f : ASp) (o : ATE) (a : ATA) : ATE := fun as s Q E => o as s (fun x s1 => Rq (Recv K C ns s1 x) (a as s1 (fun ds s2 => Ask f (x :: ds) s2 Q E ⟨⟩ ⟨⟩) E) ⟨⟩) E
theorem nsOk (ns : List Str) {m : Str} (h : ns.contains m = false) : ns.contains m = false := h
theorem look_names {K : PySem.W.Frag} {H : Hp} {N : Addr → Prop} {fs : List (Str × D)} {gs : List (Str × V)} (r : Rkv K H N fs gs) {m : Str} (h : (fs.map Prod.fst).contains m = false) : gs.lookup m = none := by
  induction r with
  | nil => rfl
  | @cons p q _ _ g t ih =>
    rw [List.map_cons, List.contains_cons, Bool.or_eq_false_iff] at h
    obtain ⟨q1, q2⟩ := q
    have e : p.1 = q1 := g.1
    rw [List.lookup_cons, ← e]
    have : (m == p.1) = false := h.1
    rw [this]
    exact ih h.2
theorem recv_ok {K : PySem.W.Frag} {Z : Addr → Prop} {H : Hp} {s : Ah} {x : D} {v : V} {C : Addr} {ns : List Str} {m : Str} (R : Rep K Z H s) (r : Rp K H (Ow Z s) x v) (h : Recv K C ns s x) (hm : ns.contains m = false) : ∃ a dx fs, v = .ref a ∧ H a = some (.ins C dx fs) ∧ fs.lookup m = none := by
  cases r with
  | ref a =>
    have h : RecvO K C ns (s a) := h
    cases es : s a with
    | none => rw [es] at h; exact h.elim
    | some o =>
      rw [es] at h
      obtain ⟨h1, h2⟩ := h
      have ro := R.at_ _ _ es
      cases o with
      | shf ad sh =>
        cases h1
        refine ⟨a, ad.dx, flds ad, rfl, ro.ob, flds_no ?_⟩
        rw [← h2] at hm
        exact hm
      | ins C' dx fs =>
        cases h1
        obtain ⟨gs, e, rk⟩ := ro
        refine ⟨a, dx, gs, rfl, e, look_names rk ?_⟩
        rw [← h2] at hm
        exact hm
      | _ => cases h1
  | _ => exact h.elim
section
variable {X : Cx} {W : WX} {k : Nat} {x c m : Str} {ps : List Str} {f : ASp} {p pos apos : Pos} {e o : Expr} {es : List Expr} {ta : ATE} {t : ATA}
theorem conc_call {K : PySem.W.Frag} : ∀ σ H Qc, concE K W (aCall f t) σ H Qc → tCallS (spA K f) (WE W) (concA K W t) σ H Qc := by
  rintro σ H Qc ⟨Z, as, s, Q, E, R, q, L, LX⟩
  refine conc_bindA (Q1 := fun ds s1 => Ask f ds s1 Q E ⟨⟩ ⟨⟩) R LX q fun ds s1 vs H1 R1 r1 f1 L1 q1 => ?_
  exact ⟨Z, ds, s1, Q, E, R1.rep, r1, q1, L.fr f1, fun c od s' H' R' f' q' => L1 c od s' H' R' f' q'⟩
theorem ae_call (c : Cal X.prog X.w X.K X.mg X.base k x ps (spA X.K f)) (hr : Room k X.A) (tk : Takes X W) (ha : AA X W (e :: es) t) (hg : Gl X x := by rfl) (hdb : (x == ("__debug__" : Str)) = false := by decide)
    (he : starEach (e :: es) X.env = (false, eval e X.env) :: starEach es X.env := by rfl) (hpl : (backTo pos (starEach es X.env)).any (·.1) = false := by rfl) : AE X W (.Call (.Name x p) (e :: es) [] pos) (aCall f t) := ⟨weakE (pf c hr tk ha.pa hg hdb he hpl) conc_call⟩
theorem ae_call0 (c : Cal X.prog X.w X.K X.mg X.base k x ps (spA X.K f)) (hr : Room k X.A) (tk : Takes X W) (hg : Gl X x := by rfl) (hdb : (x == ("__debug__" : Str)) = false := by decide) : AE X W (.Call (.Name x p) [] [] pos) (aCall f aNil) :=
  ⟨weakE (pf0 c hr tk hg hdb) fun σ H Qc h => by
    obtain ⟨Z, as, s, Q, E, R, q, L, LX⟩ := h
    exact ⟨Z, [], s, Q, E, R.rep, .nil, q, L, fun c od s' H' R' f' q' => LX c od s' H' R' f' q'⟩⟩
theorem ae_meth {pl : Sem Bool} {ns : List Str} (M : CalM X.prog X.w X.K X.mg X.base k c m ps (spA X.K f)) (hn : ns.contains m = false) (he : AE X W o ta) (hr : Room k X.A) (tk : Takes X W) (ha : AA X W (e :: es) t)
    (hst : starEach (e :: es) X.env = (false, eval e X.env) :: starEach es X.env := by rfl) (hpl : (backTo pos (starEach es X.env)).any (·.1) = false := by rfl)
    (ht : eval (.Call (.Attribute o m apos) (e :: es) [] pos) X.env = (do
      let ov ← eval o X.env
      standAt apos.atName
      let (f, first) ← holding [ov] (getMethod ov m pl)
      callWith pos f first (backTo pos (starEach (e :: es) X.env)) (backToKw pos (keywordEach [] X.env))) := by rfl) :
    AE X W (.Call (.Attribute o m apos) (e :: es) [] pos) (aMeth X.K (He.ga X.K c) ns f ta t) := ⟨weakE (pm M he.pe hr tk ha.pa hst hpl ht) fun σ H Qc h => by
  obtain ⟨Z, as, s, Q, E, R, q, L, LX⟩ := h
  refine conc_bind (Q1 := fun x s1 => Rq (Recv X.K (He.ga X.K c) ns s1 x) (t as s1 (fun ds s2 => Ask f (x :: ds) s2 Q E ⟨⟩ ⟨⟩) E) ⟨⟩) R LX q fun x s1 v H1 R1 r1 f1 L1 q1 => ?_
  obtain ⟨a, dx, fs, rfl, h1, h2⟩ := recv_ok R1.rep r1 q1.1 hn
  refine ⟨a, dx, fs, rfl, h1, h2, ?_⟩
  refine conc_bindA (Q1 := fun ds s2 => Ask f (x :: ds) s2 Q E ⟨⟩ ⟨⟩) R1 L1 q1.2 fun ds s2 vs H2 R2 r2 f2 L2 q2 => ?_
  exact ⟨Z, x :: ds, s2, Q, E, R2.rep, .cons (r1.fr f2) r2, q2, L.fr (f1.trans f2), fun c od s' H' R' f' q' => L2 c od s' H' R' f' q'⟩⟩
theorem ae_meth0 {pl : Sem Bool} {ns : List Str} (M : CalM X.prog X.w X.K X.mg X.base k c m ps (spA X.K f)) (hn : ns.contains m = false) (he : AE X W o ta) (hr : Room k X.A) (tk : Takes X W)
    (ht : eval (.Call (.Attribute o m apos) [] [] pos) X.env = (do
      let ov ← eval o X.env
      standAt apos.atName
      let (f, first) ← holding [ov] (getMethod ov m pl)
      callWith pos f first (backTo pos (starEach [] X.env)) (backToKw pos (keywordEach [] X.env))) := by rfl) :
    AE X W (.Call (.Attribute o m apos) [] [] pos) (aMeth X.K (He.ga X.K c) ns f ta aNil) := ⟨weakE (pm0 M he.pe hr tk ht) fun σ H Qc h => by
  obtain ⟨Z, as, s, Q, E, R, q, L, LX⟩ := h
  refine conc_bind (Q1 := fun x s1 => Rq (Recv X.K (He.ga X.K c) ns s1 x) (aNil as s1 (fun ds s2 => Ask f (x :: ds) s2 Q E ⟨⟩ ⟨⟩) E) ⟨⟩) R LX q fun x s1 v H1 R1 r1 f1 L1 q1 => ?_
  obtain ⟨a, dx, fs, rfl, h1, h2⟩ := recv_ok R1.rep r1 q1.1 hn
  exact ⟨a, dx, fs, rfl, h1, h2, Z, [x], s1, Q, E, R1.rep, .one r1, q1.2, L.fr f1, fun c od s' H' R' f' q' => L1 c od s' H' R' f' q'⟩⟩
end
/-- C(..): a new instance, then its __init__ -/
def aMake (C : Addr) (f : ASp) (a : ATA) : ATE := fun as s Q E => a as s (fun ds s1 => ∀ x dx, s1 x = none → Ask f (.ref x :: ds) (aup s1 x (.ins C dx [])) (fun d s2 => d = .non ∧ Q (.ref x) s2) (fun _ _ _ => False) ⟨⟩ ⟨⟩) E
section
variable {X : Cx} {W : WX} {k : Nat} {c : Str} {ps : List Str} {f : ASp} {p pos : Pos} {e : Expr} {es : List Expr} {t : ATA}
theorem conc_make {K : PySem.W.Frag} {C : Addr} : ∀ σ H Qc, concE K W (aMake C f t) σ H Qc → tMake C (spA K f) [] E0 (concA K W t) σ H Qc := by
  rintro σ H Qc ⟨Z, as, s, Q, E, R, q, L, LX⟩
  refine conc_bindA (Q1 := fun ds s1 => ∀ x dx, s1 x = none → Ask f (.ref x :: ds) (aup s1 x (.ins C dx [])) (fun d s2 => d = .non ∧ Q (.ref x) s2) (fun _ _ _ => False) ⟨⟩ ⟨⟩) R LX q fun ds s1 vs H1 R1 r1 f1 L1 q1 => ?_
  intro x dx hx hdx ne
  obtain ⟨Ra, fa, _⟩ := R1.rep.new (u := .own x) hdx
  have hx2 : upd H1 dx (.own x) x = none := by rw [upd_ne ne.symm]; exact hx
  obtain ⟨Rb, fb⟩ := new_own Ra hx2 (u := .ins C dx []) (o := .ins C dx []) rfl fun f => ⟨[], upd_same, .nil⟩
  refine ⟨Z, .ref x :: ds, _, _, _, Rb, .cons (.ref x) ?_, q1 x dx (R1.rep.no hx), fun d s' v H' R' r' f' q' => ?_, fun _ _ _ _ _ _ z => z.elim⟩
  · rw [List.append_nil]
    exact (r1.fr fa).fr fb
  · obtain ⟨rfl, q'⟩ := q'
    cases r'
    exact ⟨rfl, L (.ref x) s' (.ref x) H' R' (.ref x) (((f1.trans fa).trans fb).trans f') q'⟩
theorem ae_make (M : CalK X.prog X.w X.K X.mg X.base k c ps (spA X.K f)) (hr : Room (k + 1) X.A) (tk : Takes X W) (ha : AA X W (e :: es) t) (hg : Gl X c := by rfl) (hdb : (c == ("__debug__" : Str)) = false := by decide)
    (he : starEach (e :: es) X.env = (false, eval e X.env) :: starEach es X.env := by rfl) (hpl : (backTo pos (starEach es X.env)).any (·.1) = false := by rfl) : AE X W (.Call (.Name c p) (e :: es) [] pos) (aMake (He.ga X.K c) f t) := ⟨weakE (pk M hr tk ha.pa hg hdb he hpl) conc_make⟩
theorem ae_make0 (M : CalK X.prog X.w X.K X.mg X.base k c ps (spA X.K f)) (hr : Room (k + 1) X.A) (tk : Takes X W) (hg : Gl X c := by rfl) (hdb : (c == ("__debug__" : Str)) = false := by decide) : AE X W (.Call (.Name c p) [] [] pos) (aMake (He.ga X.K c) f aNil) :=
  ⟨weakE (pk0 M hr tk hg hdb) fun σ H Qc h => by
    have h2 := conc_make (t := aNil) σ H Qc h
    obtain ⟨Z, as, s, Q, E, R, q, L, LX⟩ := h
    intro x dx hx hdx ne
    obtain ⟨Ra, fa, _⟩ := R.rep.new (u := .own x) hdx
    have hx2 : upd H dx (.own x) x = none := by rw [upd_ne ne.symm]; exact hx
    obtain ⟨Rb, fb⟩ := new_own Ra hx2 (u := .ins (He.ga X.K c) dx []) (o := .ins (He.ga X.K c) dx []) rfl fun f => ⟨[], upd_same, .nil⟩
    refine ⟨Z, [.ref x], _, _, _, Rb, .one (.ref x), q x dx (R.rep.no hx), fun d s' v H' R' r' f' q' => ?_, fun _ _ _ _ _ _ z => z.elim⟩
    obtain ⟨rfl, q'⟩ := q'
    cases r'
    exact ⟨rfl, L (.ref x) s' (.ref x) H' R' (.ref x) ((fa.trans fb).trans f') q'⟩⟩
end
/-! ### attributes -/
def fldO (f : Str) : Option Ob → Option (Addr × D)
  | some (.ins C _ fs) => (fs.lookup f).map fun d => (C, d)
  | _ => none
def fldA (f : Str) (s : Ah) : D → Option (Addr × D)
  | .ref a => fldO f (s a)
  | _ => none
def aFld (C : Addr) (f : Str) (o : ATE) : ATE := fun as s Q E => o as s (fun x s1 => opt (fldA f s1 x) (fun r => Rq (r.1 = C) (Q r.2 s1) ⟨⟩) ⟨⟩) E
theorem rkv_look {K : PySem.W.Frag} {H : Hp} {N : Addr → Prop} {fs : List (Str × D)} {gs : List (Str × V)} (r : Rkv K H N fs gs) {m : Str} {d : D} (h : fs.lookup m = some d) : ∃ v, gs.lookup m = some v ∧ Rp K H N d v := by
  induction r with
  | nil => cases h
  | @cons p q _ _ g t ih =>
    obtain ⟨p1, p2⟩ := p
    obtain ⟨q1, q2⟩ := q
    obtain ⟨e, g⟩ := g
    have e : p1 = q1 := e
    subst e
    rw [List.lookup_cons] at h ⊢
    cases hb : m == p1 with
    | true => rw [hb] at h; cases h; exact ⟨_, rfl, g⟩
    | false => rw [hb] at h; exact ih h
def putFA (f : Str) (v : D) : List (Str × D) → List (Str × D)
  | [] => [(f, v)]
  | (g, u) :: r => if g = f then (g, v) :: r else (g, u) :: putFA f v r
theorem rkv_putF {K : PySem.W.Frag} {H : Hp} {N : Addr → Prop} {fs : List (Str × D)} {gs : List (Str × V)} (r : Rkv K H N fs gs) {f : Str} {d : D} {v : V} (h : Rp K H N d v) : Rkv K H N (putFA f d fs) (putF f v gs) := by
  induction r with
  | nil => exact .cons ⟨rfl, h⟩ .nil
  | @cons p q r1 r2 g t ih =>
    obtain ⟨p1, p2⟩ := p
    obtain ⟨q1, q2⟩ := q
    obtain ⟨e, g⟩ := g
    have e : p1 = q1 := e
    subst e
    unfold putFA putF
    split
    · exact .cons ⟨rfl, h⟩ t
    · exact .cons ⟨rfl, g⟩ ih
def insO (a : Addr) : Option Ob → Option (Addr × Addr × Addr × List (Str × D))
  | some (.ins C dx fs) => some (a, C, dx, fs)
  | _ => none
def insA (s : Ah) : D → Option (Addr × Addr × Addr × List (Str × D))
  | .ref a => insO a (s a)
  | _ => none
def aSFld (C : Addr) (f : Str) (o v : ATE) : ATS := fun A as s => v as s (fun y s1 => o as s1 (fun x s2 => opt (insA s2 x) (fun r => Rq (r.2.1 = C ∧ r.2.2.2.length < 1000) (A.nx as (aup s2 r.1 (.ins C r.2.2.1 (putFA f y r.2.2.2)))) ⟨⟩) ⟨⟩) (fun c p s1 => A.ex c p as s1)) (fun c p s1 => A.ex c p as s1)
section
variable {X : Cx} {W : WX} {o value : Expr} {f : Str} {C : Addr} {pos tpos : Pos} {ta tv : ATE}
theorem ae_fld (cl : Cls X.K C) (na : NoAttr X.K C f) (he : AE X W o ta) (hb : attributeBase o f X.env (eval o X.env) = eval o X.env) : AE X W (.Attribute o f pos) (aFld C f ta) := ⟨weakE (pe_fld he.pe hb) fun σ H Qc h => by
  obtain ⟨Z, as, s, Q, E, R, q, L, LX⟩ := h
  refine conc_bind (Q1 := fun x s1 => opt (fldA f s1 x) (fun r => Rq (r.1 = C) (Q r.2 s1) ⟨⟩) ⟨⟩) R LX q fun x s1 v H1 R1 r1 f1 L1 q1 => ?_
  obtain ⟨⟨C', d⟩, e1, rfl, q2⟩ := opt_of q1
  cases r1 with
  | ref a =>
    have e1 : fldO f (s1 a) = some (C', d) := e1
    unfold fldO at e1
    split at e1
    · rename_i es
      obtain ⟨d', e2, e3⟩ := Option.map_eq_some_iff.mp e1
      cases e3
      obtain ⟨gs, e4, rk⟩ := R1.rep.at_ _ _ es
      obtain ⟨v, e5, rv⟩ := rkv_look rk e2
      exact ⟨a, C', _, gs, v, rfl, e4, cl, na, e5, L _ s1 v H1 R1.rep rv f1 q2⟩
    · cases e1
  | _ => cases e1⟩
theorem as_fld (cl : Cls X.K C) (na : NoAttr X.K C f) (ho : AE X W o ta) (hv : AE X W value tv) (hs : swapsWith value (some (.Attribute o f tpos)) pos.line X.env = pure false) : AS X W (.Assign [.Attribute o f tpos] value pos) (aSFld C f ta tv) := ⟨weakS (ps_fld ho.pe hv.pe hs) fun C0 σ H h => by
  obtain ⟨Z, A, as, s, R, q, L⟩ := h
  refine conc_bind (Q1 := fun y s1 => ta as s1 (fun x s2 => opt (insA s2 x) (fun r => Rq (r.2.1 = C ∧ r.2.2.2.length < 1000) (A.nx as (aup s2 r.1 (.ins C r.2.2.1 (putFA f y r.2.2.2)))) ⟨⟩) ⟨⟩) (fun c p s1 => A.ex c p as s1)) R (L.x R) q fun y s1 v H1 R1 r1 f1 L1 q1 => ?_
  refine conc_bind (Q1 := fun x s2 => opt (insA s2 x) (fun r => Rq (r.2.1 = C ∧ r.2.2.2.length < 1000) (A.nx as (aup s2 r.1 (.ins C r.2.2.1 (putFA f y r.2.2.2)))) ⟨⟩) ⟨⟩) R1 L1 q1 fun x s2 u H2 R2 r2 f2 L2 q2 => ?_
  obtain ⟨⟨a, C', dx, fs⟩, e1, ⟨hC, hl⟩, q3⟩ := opt_of q2
  cases r2 with
  | ref b =>
    have e1 : insO b (s2 b) = some (a, C', dx, fs) := e1
    unfold insO at e1
    split at e1
    · rename_i es
      cases e1
      have hC : C' = C := hC
      subst hC
      obtain ⟨gs, e4, rk⟩ := R2.rep.at_ _ _ es
      obtain ⟨R3, f3⟩ := set_own R2.rep es (u := .ins C' dx (putF f v gs)) (o := .ins C' dx (putFA f y fs)) rfl rfl fun ff => ⟨_, upd_same, rkv_putF (Rkv.fr ff rk) ((r1.fr f2).fr ff)⟩
      refine ⟨_, C', dx, gs, rfl, e4, cl, na, by rw [← rkv_len rk]; exact hl, L.nx as _ σ _ (R2.fr R3 f3) ((f1.trans f2).trans f3) q3⟩
    · cases e1
  | _ => cases e1⟩
end
/-! ### errors -/
def aRaise (C : Addr) : ATS := fun A as s => A.ex (.ref C) none as s
theorem as_raise {X : Cx} {W : WX} {x : Str} {C : Addr} {p pos pos' : Pos} (hc : X.calm = true) (tk : Takes X W)
    (q : PySem.W.excIn X.K C He.veBase "ValueError.__new__" = true ∧ PySem.W.keepIn X.K (.ref C) = true ∧ PySem.W.subIn X.K (.ref C) (.type "BaseException") = some true ∧ PySem.W.typeIn X.K (.ref C) = some (.type "type"))
    (gC : X.mg x = some (.ref C)) (hg : Gl X x := by rfl) (hdb : (x == ("__debug__" : Str)) = false := by decide) : AS X W (.Raise (some (.Call (.Name x p) [] [] pos')) none pos) (aRaise C) :=
  ⟨weakS (ps_raise hc tk (pmk_own0 q gC hg hdb)) fun C0 σ H h => by
    obtain ⟨Z, A, as, s, R, q, L⟩ := h
    exact L.ex (.ref C) none as s σ H R (Fr.refl H s) q⟩
/-- try: .. except C: .. -/
def aTryOnly (K : PySem.W.Frag) (C : Value) (t u : ATS) : ATS := fun A as s => t { A with ex := fun c od as' s' => opt (PySem.W.exmOne K c C) (fun b => Br b (u { A with ex := fun _ _ _ _ => False } as' s') (A.ex c od as' s') ⟨⟩ ⟨⟩) ⟨⟩ } as s
theorem as_try_only {X : Cx} {W : WX} {x : Str} {c : Value} {body suite : List Stmt} {b0 : Stmt} {np pos pos' : Pos} {t u : ATS} (hs : X.stack = X.env :: X.outer) (hf : X.env.frame = some X.env.locals) (hc : Names X x c) (tk : Takes X W)
    (hb : ∀ (W : WX) (pn : List (Addr × Obj)) (xe : Value → Shared → Prop), Takes (X.tr pn xe) W → PassesOwn (model X.prog X.w) X.A X.env xe → ASs (X.tr pn xe) W body t)
    (hsu : ∀ (a : Addr) (oe : Obj) (pn : List (Addr × Obj)), ASs (X.suite a ((a, oe) :: pn)) W0 (b0 :: suite) u) :
    AS X W (.Try body [.ExceptHandler (some (.Name x np)) none (b0 :: suite) pos'] [] [] pos) (aTryOnly X.K c t u) :=
  ⟨weakS (ps_try_only (tb := fun W => concS X.K W t) (ts := fun _ _ _ => concS X.K W0 u) hs hf hc tk (fun W pn xe tk' po => (hb W pn xe tk' po).pss) (fun a oe cls d pn _ _ => (hsu a oe pn).pss)) fun C0 σ H h => by
    obtain ⟨Z, A, as, s, R, q, L⟩ := h
    refine ⟨Z, _, as, s, R, q, ⟨L.nx, L.rt, L.bk, L.ct, fun c' od as' s' σ' H' R' f q' => ?_⟩⟩
    have q3 : opt (PySem.W.exmOne X.K c' c) (fun b => Br b (u { A with ex := fun _ _ _ _ => False } as' s') (A.ex c' od as' s') ⟨⟩ ⟨⟩) ⟨⟩ := q'
    obtain ⟨b, eb, q2⟩ := opt_of q3
    refine ⟨b, eb, fun hb a na => ?_, fun hb => ?_⟩
    · subst hb
      rw [Br_true] at q2
      have LL := L.fr f
      exact ⟨Z, _, as', s', R', q2, ⟨LL.nx, LL.rt, LL.bk, LL.ct, fun _ _ _ _ _ _ _ _ z => z.elim⟩⟩
    · subst hb
      rw [Br_false] at q2
      exact L.ex c' od as' s' σ' H' R' f q2⟩
def forS : ASt → Nat → ASt
  | [], _ => []
  | _ :: r, 0 => none :: r
  | x :: r, i + 1 => x :: forS r i
theorem forS_eq : ∀ {as : ASt} {i : Nat}, forS as i = as.set i none
  | [], _ => rfl
  | _ :: _, 0 => rfl
  | x :: r, i + 1 => congrArg (x :: ·) (forS_eq (as := r))
/-- try: .. except C as n: .. -/
def aTryAs (K : PySem.W.Frag) (C : Value) (i : Nat) (t : ATS) (u : Addr → Value → Option Addr → ATS) : ATS := fun A as s => t { A with ex := fun c od as' s' => opt (PySem.W.exmOne K c C) (fun b => Br b (∀ a, u a c od { nx := fun as2 s2 => A.nx (forS as2 i) s2, rt := A.rt, bk := fun as2 s2 => A.bk (forS as2 i) s2, ct := fun as2 s2 => A.ct (forS as2 i) s2, ex := fun _ _ _ _ => False } (setS as' i (.ref a)) s') (A.ex c od as' s') ⟨⟩ ⟨⟩) ⟨⟩ } as s
theorem Rst.unset {K : PySem.W.Frag} {Z : Addr → Prop} {σ : L2.St} {H : Hp} {as : ASt} {s : Ah} (R : Rst K Z σ H as s) (i : Nat) : Rst K Z (σ.set i none) H (forS as i) s := by
  rw [forS_eq]
  refine ⟨R.rep, fun j d e => ?_, by rw [List.length_set, List.length_set]; exact R.len⟩
  by_cases hij : i = j
  · subst hij
    by_cases hl : i < as.length
    · rw [List.getElem?_set_self hl] at e; cases e
    · rw [List.getElem?_eq_none (by rw [List.length_set]; omega)] at e; cases e
  · rw [List.getElem?_set_ne hij] at e
    obtain ⟨w, h1, h2⟩ := R.sl j d e
    exact ⟨w, by rw [List.getElem?_set_ne hij]; exact h1, h2⟩
theorem as_try_as {X : Cx} {W : WX} {x n : Str} {c : Value} {i : Nat} {body suite : List Stmt} {b0 : Stmt} {np pos pos' : Pos} {t : ATS} {u : Addr → Value → Option Addr → ATS} (hs : X.stack = X.env :: X.outer) (hf : X.env.frame = some X.env.locals) (hN : X.N.Nodup) (hi : X.N[i]? = some n) (hln : X.env.kindOf n = some .local) (hc : Names X x c) (tk : Takes X W)
    (hb : ∀ (W : WX) (pn : List (Addr × Obj)) (xe : Value → Shared → Prop), Takes (X.tr pn xe) W → PassesOwn (model X.prog X.w) X.A X.env xe → ASs (X.tr pn xe) W body t)
    (hsu : ∀ (a : Addr) (oe : Obj) (cls : Value) (d : Option Addr) (pn : List (Addr × Obj)), Zc cls d oe → (∃ vs, oe.data = .fields vs) → ASs (X.suite a ((a, oe) :: pn)) W0 (b0 :: suite) (u a cls d)) :
    AS X W (.Try body [.ExceptHandler (some (.Name x np)) (some n) (b0 :: suite) pos'] [] [] pos) (aTryAs X.K c i t u) :=
  ⟨weakS (ps_try_as (tb := fun W => concS X.K W t) (ts := fun a cls d => concS X.K W0 (u a cls d)) hs hf hN hi hln hc tk (fun W pn xe tk' po => (hb W pn xe tk' po).pss) (fun a oe cls d pn z1 z2 => (hsu a oe cls d pn z1 z2).pss)) fun C0 σ H h => by
    obtain ⟨Z, A, as, s, R, q, L⟩ := h
    refine ⟨Z, _, as, s, R, q, ⟨L.nx, L.rt, L.bk, L.ct, fun c' od as' s' σ' H' R' f q' => ?_⟩⟩
    have q3 : opt (PySem.W.exmOne X.K c' c) (fun b => Br b (∀ a, u a c' od { nx := fun as2 s2 => A.nx (forS as2 i) s2, rt := A.rt, bk := fun as2 s2 => A.bk (forS as2 i) s2, ct := fun as2 s2 => A.ct (forS as2 i) s2, ex := fun _ _ _ _ => False } (setS as' i (.ref a)) s') (A.ex c' od as' s') ⟨⟩ ⟨⟩) ⟨⟩ := q'
    obtain ⟨b, eb, q2⟩ := opt_of q3
    refine ⟨b, eb, fun hb a na => ?_, fun hb => ?_⟩
    · subst hb
      rw [Br_true] at q2
      have LL := L.fr f
      have Ra := R'.set (Rp.ref a) i
      rw [← setS_eq] at Ra
      refine ⟨Z, _, _, s', Ra, q2 a, ⟨fun a1 s1 σ1 H1 R1 f1 q1 => LL.nx _ s1 _ H1 (R1.unset i) f1 q1, LL.rt, fun a1 s1 σ1 H1 R1 f1 q1 => LL.bk _ s1 _ H1 (R1.unset i) f1 q1, fun a1 s1 σ1 H1 R1 f1 q1 => LL.ct _ s1 _ H1 (R1.unset i) f1 q1, fun _ _ _ _ _ _ _ _ z => z.elim⟩⟩
    · subst hb
      rw [Br_false] at q2
      exact L.ex c' od as' s' σ' H' R' f q2⟩
/-- isinstance(e, C) of the error that is held -/
def refD : List D → Option (Addr × Addr)
  | [.ref a, .ref c] => some (a, c)
  | _ => none
def aIsE (K : PySem.W.Frag) (a0 : Addr) (cls : Value) (od : Option Addr) (a : ATA) : ATE := fun as s Q E => a as s (fun xs s1 => opt (refD xs) (fun r => Rq (r.1 = a0 ∧ od = none) (opt (PySem.W.kitOne K cls (.ref r.2)) (fun b => Q (.bl b) s1) ⟨⟩) ⟨⟩) ⟨⟩) E
/-! ### a def from its body -/
def endsA (Q : AVK) (E : AX) : AEnds := { nx := fun _ s' => CvR Q .non s', rt := fun d s' => CvR Q d s', bk := fun _ _ => False, ct := fun _ _ => False, ex := fun c od _ s' => ∃ s2, Le s2 s' ∧ E c od s2 }
section
variable {P : Program} {w : World} {K : PySem.W.Frag} {mg : Str → Option Value} {base : Heap} {k : Nat} {x c m qual : Str} {N ps : List Str} {f : ASp} {args : Arguments} {body : List Stmt} {sc : Scope} {tl : ASt}
theorem Rps.start {Z : Addr → Prop} {H : Hp} {s : Ah} {ds : List D} {vs : List V} (R : Rep K Z H s) (r : Rps K H (Ow Z s) ds vs) (hl : vs.length = ps.length) (htl : tl = List.replicate (N.length - ps.length) none) : Rst K Z (L2.start N vs) H (ds.map some ++ tl) s := by
  refine ⟨R, fun i d e => ?_, ?_⟩
  · have hi : i < ds.length := by
      by_cases hi : i < ds.length
      · exact hi
      · rw [List.getElem?_append_right (by simpa using hi), htl, List.getElem?_replicate] at e
        split at e <;> cases e
    rw [List.getElem?_append_left (by simpa using hi), List.getElem?_map] at e
    cases ed : ds[i]? with
    | none => rw [ed] at e; cases e
    | some d' =>
      rw [ed] at e
      cases e
      obtain ⟨v, h1, h2⟩ := r.get ed
      refine ⟨v, ?_, h2⟩
      unfold L2.start
      rw [List.getElem?_append_left (by rw [List.length_map, ← r.len]; exact hi), List.getElem?_map, h1]
      rfl
  · unfold L2.start
    rw [List.length_append, List.length_append, List.length_map, List.length_map, htl, List.length_replicate, List.length_replicate, r.len, hl]
abbrev BodyA (P : Program) (w : World) (K : PySem.W.Frag) (mg : Str → Option Value) (base : Heap) (k : Nat) (N : List Str) (qual : Str) (sc : Scope) (body : List Stmt) (fA : Addr) (tl : ASt) (f : ASp) : Prop :=
  ∃ at_ : ATS, (∀ cdv A outer s H E, Room k (A.deeper (envOfC qual sc s.heap.objs.size fA cdv)) → ASs (cxOf (L2.CX P w) P w K mg base N qual sc fA cdv A outer s H E) (fun c d _ H => E c d H) body at_) ∧ ∀ ds s Q E, f ds s Q E → at_ (endsA Q E) (ds.map some ++ tl) s
theorem body_of {fA : Addr} (len : ∀ ds s Q E, f ds s Q E → ds.length = ps.length) (htl : tl = List.replicate (N.length - ps.length) none) (h : BodyA P w K mg base k N qual sc body fA tl f) : Body P w K mg base k N qual sc body fA (spA K f) := by
  obtain ⟨at_, h1, h2⟩ := h
  intro cdv A outer s0 H vs Q E hr hsp
  obtain ⟨Z, ds, s, Qa, Ea, R, r, q, L, LX⟩ := hsp
  refine ⟨_, (h1 cdv A outer s0 H E hr).pss, Z, endsA Qa Ea, _, s, r.start R (by rw [← r.len]; exact len _ _ _ _ q) htl, h2 ds s Qa Ea q, ?_⟩
  have ret : Lnk K Z H s (fun d s' => CvR Qa d s') Q := fun d s' v H' R' r' f' ⟨d2, s2, cv, q2⟩ => by
    obtain ⟨R2, r2, f2⟩ := cv K Z H' v R' r'
    exact L d2 s2 v H' R2 r2 (f'.trans f2) q2
  refine ⟨fun as' s' σ' H' R' f' q' => ret .non s' .non H' R'.rep .non f' q', ret, fun _ _ _ _ _ _ z => z.elim, fun _ _ _ _ _ _ z => z.elim, fun c od as' s' σ' H' R' f' ⟨s2, le, q2⟩ => ?_⟩
  obtain ⟨R2, f2⟩ := R'.rep.less le
  exact LX c od s2 H' R2 (f'.trans f2) q2
theorem spA_len (len : ∀ ds s Q E, f ds s Q E → ds.length = ps.length) : ∀ vs H Q E, spA K f vs H Q E → vs.length = ps.length := fun vs H Q E ⟨Z, ds, s, Qa, Ea, R, r, q, _⟩ => by rw [← r.len]; exact len _ _ _ _ q
theorem calA (F : ∃ fd, FunD K x qual args body sc [] [] (He.fAd K (x, none)) fd) (g : mg x = some (.ref (He.ga K x))) (S : FnScope N ps sc)
    (b : ∀ (kV doc pm : Value) (an : Option Addr) (cdv ct : Value) (us : List Value), us.length = ps.length → bindArgs (PySem.W.fnOf x qual args body sc .none kV doc pm an cdv ct) ⟨us, []⟩ = pure (ps.zip us))
    (htl : tl = List.replicate (N.length - ps.length) none) (len : ∀ ds s Q E, f ds s Q E → ds.length = ps.length) (h : BodyA P w K mg base k N qual sc body (He.ga K x) tl f) : Cal P w K mg base (k + 1) x ps (spA K f) :=
  Cal.of F g S b (spA_len len) (body_of len htl h)
theorem calMA (F : ∃ fd, FunD K m qual args body sc [] [] (He.fAd K (c, some m)) fd) (cl : Cls K (He.ga K c)) (me : Meth K (He.ga K c) m (He.ma K (He.ga K c) m)) (S : FnScope N ps sc)
    (b : ∀ (kV doc pm : Value) (an : Option Addr) (cdv ct : Value) (us : List Value), us.length = ps.length → bindArgs (PySem.W.fnOf m qual args body sc .none kV doc pm an cdv ct) ⟨us, []⟩ = pure (ps.zip us))
    (htl : tl = List.replicate (N.length - ps.length) none) (len : ∀ ds s Q E, f ds s Q E → ds.length = ps.length) (h : BodyA P w K mg base k N qual sc body (He.ma K (He.ga K c) m) tl f) : CalM P w K mg base (k + 1) c m ps (spA K f) :=
  CalM.of F cl me S b (spA_len len) (body_of len htl h)
theorem calKA (F : ∃ fd, FunD K "__init__" qual args body sc [] [] (He.fAd K (c, some "__init__")) fd) (g : mg c = some (.ref (He.ga K c))) (mk : Mk K (He.ga K c) (He.ma K (He.ga K c) "__init__")) (S : FnScope N ps sc)
    (b : ∀ (kV doc pm : Value) (an : Option Addr) (cdv ct : Value) (us : List Value), us.length = ps.length → bindArgs (PySem.W.fnOf "__init__" qual args body sc .none kV doc pm an cdv ct) ⟨us, []⟩ = pure (ps.zip us))
    (htl : tl = List.replicate (N.length - ps.length) none) (len : ∀ ds s Q E, f ds s Q E → ds.length = ps.length) (h : BodyA P w K mg base k N qual sc body (He.ma K (He.ga K c) "__init__") tl f) : CalK P w K mg base (k + 1) c ps (spA K f) :=
  CalK.of F g mk S b (spA_len len) (body_of len htl h)
end
end Sk
namespace Sk
open PySem PySem.Spec PyProof.Rows L2
/-! ### built-in functions -/
abbrev FL := Ah → List D → Option DP
def bL (f : FL) : ARL := fun xs s Q => opt (f s xs) (fun r => Rq r.2 (Q r.1 s) ⟨⟩) ⟨⟩
def orL (r r' : List V → Hp → VK → Prop) : List V → Hp → VK → Prop := fun xs H Q => r xs H Q ∨ r' xs H Q
theorem callr_or {X : Cx} {f : Value} {r r' : List V → Hp → VK → Prop} (h : CallR X f r) (h' : CallR X f r') : CallR X f (orL r r') := CallR.or h h'
theorem srl_of {K : PySem.W.Frag} {r : List V → Hp → VK → Prop} {f : FL} (h : ∀ Z H s xs vs z p, Rep K Z H s → Rps K H (Ow Z s) xs vs → f s xs = some (z, p) → p → ∀ Qc : VK, (∀ w, Rp K H (Ow Z s) z w → Qc w H) →
    (∀ o : HO, (∀ q, H q = none → ∃ w, Rp K (upd H q o) (Ow Z s) z w ∧ w = .ref q) → ∀ q, H q = none → Qc (.ref q) (upd H q o)) → r vs H Qc) : SRL K r (bL f) := by
  intro Z H s xs vs Q Qc R rx q L
  obtain ⟨⟨z, p⟩, e, hp, q⟩ := opt_of q
  refine h Z H s xs vs z p R rx e hp Qc (fun w rw' => L.here R rw' q) fun o ho a ha => ?_
  obtain ⟨R', f', _⟩ := R.new (u := o) ha
  obtain ⟨w, rw', ew⟩ := ho a ha
  subst ew
  exact L _ s _ _ R' rw' f' q
def vw1 (s : Ah) : List D → Option D
  | [x] => some (view s x)
  | _ => none
def vw2 (s : Ah) : List D → Option (D × D)
  | [x, y] => some (view s x, view s y)
  | _ => none
theorem vw1_ok {K : PySem.W.Frag} {H : Hp} {N : Addr → Prop} {s : Ah} {xs : List D} {vs : List V} {d : D} (r : Rps K H N xs vs) (e : vw1 s xs = some d) : ∃ x v, d = view s x ∧ vs = [v] ∧ Rp K H N x v := by
  unfold vw1 at e
  split at e
  · cases e
    cases r with
    | cons h t => cases t; exact ⟨_, _, rfl, rfl, h⟩
  · cases e
theorem vw2_ok {K : PySem.W.Frag} {H : Hp} {N : Addr → Prop} {s : Ah} {xs : List D} {vs : List V} {d e' : D} (r : Rps K H N xs vs) (e : vw2 s xs = some (d, e')) : ∃ x v y w, d = view s x ∧ e' = view s y ∧ vs = [v, w] ∧ Rp K H N x v ∧ Rp K H N y w := by
  unfold vw2 at e
  split at e
  · cases e
    cases r with
    | cons h t =>
      cases t with
      | cons h2 t => cases t; exact ⟨_, _, _, _, rfl, rfl, rfl, h, h2⟩
  · cases e
def lenD : D → Option (Nat × Prop)
  | .lst ds => some (ds.length, True)
  | .tup ds => some (ds.length, True)
  | .str z => some (z.length, z.length ≤ 16777216)
  | _ => none
def lenO : Option Ob → Option (Nat × Prop)
  | some (.dK kvs) => some (kvs.length, True)
  | some (.dT kvs) => some (kvs.length, True)
  | _ => none
def lenX (s : Ah) (x : D) : Option (Nat × Prop) := match lenD (view s x) with
  | some r => some r
  | none => match x with
    | .ref a => lenO (s a)
    | _ => none
def bLen : ARL := fun xs s Q => opt (one xs) (fun x => opt (lenX s x) (fun r => Rq r.2 (Q (.int r.1) s) ⟨⟩) ⟨⟩) ⟨⟩
def rLenAll (K : PySem.W.Frag) : List V → Hp → VK → Prop := orL (fun xs H Q => ∃ p ys, xs = [.ref p] ∧ (SqL K H p ys ∨ SqT K H p ys) ∧ Q (.int ys.length) H) (orL (fun xs H Q => ∃ z, xs = [.str z] ∧ z.length ≤ sizeLine ∧ Q (.int z.length) H) (orL (fun xs H Q => ∃ a kvs, xs = [V.ref a] ∧ H a = some (.dK kvs) ∧ Q (.int kvs.length) H) rLenT))
theorem call_lenAll {X : Cx} : CallR X (.builtin "len") (rLenAll X.K) := callr_or call_len_seq (callr_or call_len_str (callr_or call_lenD call_len_dT))
theorem srl_len {K : PySem.W.Frag} : SRL K (rLenAll K) bLen := by
  intro Z H s xs vs Q Qc R rx q L
  obtain ⟨x, e0, q⟩ := opt_of q
  obtain ⟨v, rfl, r⟩ := one_rp rx e0
  obtain ⟨⟨n, p⟩, e, hp, q⟩ := opt_of q
  unfold lenX at e
  split at e
  · rename_i e1
    cases e
    unfold lenD at e1
    split at e1
    · rename_i ds e2
      cases e1
      obtain ⟨a, ws, rfl, h1, r1⟩ := view_lst R r e2
      exact .inl ⟨a, ws, rfl, .inl h1, by rw [← r1.len]; exact L.here R (.int _) q⟩
    · rename_i ds e2
      cases e1
      obtain ⟨a, ws, rfl, h1, _, r1⟩ := view_tup r e2
      exact .inl ⟨a, ws, rfl, .inr (SqT.of h1), by rw [← r1.len]; exact L.here R (.int _) q⟩
    · rename_i z e2
      cases e1
      cases view_str r e2
      exact .inr (.inl ⟨_, rfl, by rw [ofL_len]; exact hp, by rw [ofL_len]; exact L.here R (.int _) q⟩)
    · cases e1
  · split at e
    · rename_i a
      unfold lenO at e
      split at e
      · rename_i kvs es
        cases e
        cases r
        obtain ⟨ws, h, rk⟩ := R.at_ _ _ es
        exact .inr (.inr (.inl ⟨_, ws, rfl, h, by rw [← rkv_len rk]; exact L.here R (.int _) q⟩))
      · rename_i kvs es
        cases e
        cases r
        obtain ⟨ws, h, rk⟩ := R.at_ _ _ es
        exact .inr (.inr (.inr ⟨_, ws, rfl, h, by rw [← rkv_len rk]; exact L.here R (.int _) q⟩))
      · cases e
    · cases e
def intsD : List D → Option (List Int)
  | [] => some []
  | .int i :: r => (intsD r).map (i :: ·)
  | _ :: _ => none
def blsD : List D → Option (List Bool)
  | [] => some []
  | .bl b :: r => (blsD r).map (b :: ·)
  | _ :: _ => none
theorem intsD_v {K : PySem.W.Frag} {H : Hp} {N : Addr → Prop} : ∀ {ds : List D} {vs : List V} {ns : List Int}, Rps K H N ds vs → intsD ds = some ns → vs = ns.map V.int
  | _, _, _, .nil, e => by cases e; rfl
  | _, _, _, .cons h t, e => by
    unfold intsD at e
    split at e
    · rename_i z; cases z
    · rename_i z
      cases z
      obtain ⟨ms, e1, rfl⟩ := Option.map_eq_some_iff.mp e
      cases h
      rw [intsD_v t e1]
      rfl
    · cases e
theorem blsD_v {K : PySem.W.Frag} {H : Hp} {N : Addr → Prop} : ∀ {ds : List D} {vs : List V} {ns : List Bool}, Rps K H N ds vs → blsD ds = some ns → vs = ns.map V.bl
  | _, _, _, .nil, e => by cases e; rfl
  | _, _, _, .cons h t, e => by
    unfold blsD at e
    split at e
    · rename_i z; cases z
    · rename_i z
      cases z
      obtain ⟨ms, e1, rfl⟩ := Option.map_eq_some_iff.mp e
      cases h
      rw [blsD_v t e1]
      rfl
    · cases e
theorem intsD_map (ns : List Int) : intsD (ns.map D.int) = some ns := by
  induction ns with
  | nil => rfl
  | cons n r ih => simp [intsD, ih]
theorem blsD_map (ns : List Bool) : blsD (ns.map D.bl) = some ns := by
  induction ns with
  | nil => rfl
  | cons n r ih => simp [blsD, ih]
def maxL : List Int → Int
  | [] => 0
  | [a] => a
  | a :: r => max a (maxL r)
def minL : List Int → Int
  | [] => 0
  | [a] => a
  | a :: r => min a (minL r)
theorem maxL_mem : ∀ {l : List Int}, l ≠ [] → maxL l ∈ l
  | [], h => absurd rfl h
  | [a], _ => List.mem_singleton.mpr rfl
  | a :: b :: r, _ => by
    show max a (maxL (b :: r)) ∈ _
    have := maxL_mem (l := b :: r) (by simp)
    rcases Int.le_total a (maxL (b :: r)) with h | h
    · rw [Int.max_eq_right h]; exact List.mem_cons_of_mem _ this
    · rw [Int.max_eq_left h]; exact List.mem_cons_self
theorem maxL_ge : ∀ {l : List Int} {y : Int}, y ∈ l → y ≤ maxL l
  | [a], y, h => by rw [List.mem_singleton.mp h]; exact Int.le_refl _
  | a :: b :: r, y, h => by
    show y ≤ max a (maxL (b :: r))
    rcases List.mem_cons.mp h with h | h
    · rw [h]; exact Int.le_max_left _ _
    · exact Int.le_trans (maxL_ge h) (Int.le_max_right _ _)
theorem minL_mem : ∀ {l : List Int}, l ≠ [] → minL l ∈ l
  | [], h => absurd rfl h
  | [a], _ => List.mem_singleton.mpr rfl
  | a :: b :: r, _ => by
    show min a (minL (b :: r)) ∈ _
    have := minL_mem (l := b :: r) (by simp)
    rcases Int.le_total a (minL (b :: r)) with h | h
    · rw [Int.min_eq_left h]; exact List.mem_cons_self
    · rw [Int.min_eq_right h]; exact List.mem_cons_of_mem _ this
theorem minL_le : ∀ {l : List Int} {y : Int}, y ∈ l → minL l ≤ y
  | [a], y, h => by rw [List.mem_singleton.mp h]; exact Int.le_refl _
  | a :: b :: r, y, h => by
    show min a (minL (b :: r)) ≤ y
    rcases List.mem_cons.mp h with h | h
    · rw [h]; exact Int.min_le_left _ _
    · exact Int.le_trans (Int.min_le_right _ _) (minL_le h)
def lstV : D → Option (List D)
  | .lst ds => some ds
  | _ => none
def lst1 (s : Ah) (xs : List D) : Option (List D) := (vw1 s xs).bind lstV
theorem lst1_ok {K : PySem.W.Frag} {Z : Addr → Prop} {H : Hp} {s : Ah} {xs : List D} {vs : List V} {ds : List D} (R : Rep K Z H s) (r : Rps K H (Ow Z s) xs vs) (e : lst1 s xs = some ds) : ∃ a ws, vs = [.ref a] ∧ SqL K H a ws ∧ Rps K H (Ow Z s) ds ws := by
  obtain ⟨d, e1, e2⟩ := Option.bind_eq_some_iff.mp e
  obtain ⟨x, v, rfl, rfl, rx⟩ := vw1_ok r e1
  have : view s x = .lst ds := lstD_eq e2
  obtain ⟨a, ws, rfl, h1, r1⟩ := view_lst R rx this
  exact ⟨a, ws, rfl, h1, r1⟩
def sumX : FL := fun s xs => ((lst1 s xs).bind intsD).map fun ns => (.int ns.sum, True)
def maxX : FL := fun s xs => match int2 xs with
  | some (i, j) => some (.int (max i j), True)
  | none => ((lst1 s xs).bind intsD).map fun ns => (.int (maxL ns), ns ≠ [])
def minX : FL := fun s xs => match int2 xs with
  | some (i, j) => some (.int (min i j), True)
  | none => ((lst1 s xs).bind intsD).map fun ns => (.int (minL ns), ns ≠ [])
def allX : FL := fun s xs => ((lst1 s xs).bind blsD).map fun ns => (.bl (ns.all id), True)
def anyX : FL := fun s xs => ((lst1 s xs).bind blsD).map fun ns => (.bl (ns.any id), True)
theorem ints_ok {K : PySem.W.Frag} {Z : Addr → Prop} {H : Hp} {s : Ah} {xs : List D} {vs : List V} {ns : List Int} (R : Rep K Z H s) (r : Rps K H (Ow Z s) xs vs) (e : (lst1 s xs).bind intsD = some ns) : ∃ a, vs = [.ref a] ∧ SqL K H a (ns.map V.int) := by
  obtain ⟨ds, e1, e2⟩ := Option.bind_eq_some_iff.mp e
  obtain ⟨a, ws, rfl, h1, r1⟩ := lst1_ok R r e1
  rw [intsD_v r1 e2] at h1
  exact ⟨a, rfl, h1⟩
theorem bls_ok {K : PySem.W.Frag} {Z : Addr → Prop} {H : Hp} {s : Ah} {xs : List D} {vs : List V} {ns : List Bool} (R : Rep K Z H s) (r : Rps K H (Ow Z s) xs vs) (e : (lst1 s xs).bind blsD = some ns) : ∃ a, vs = [.ref a] ∧ SqL K H a (ns.map V.bl) := by
  obtain ⟨ds, e1, e2⟩ := Option.bind_eq_some_iff.mp e
  obtain ⟨a, ws, rfl, h1, r1⟩ := lst1_ok R r e1
  rw [blsD_v r1 e2] at h1
  exact ⟨a, rfl, h1⟩
theorem srl_sum {K : PySem.W.Frag} : SRL K (rSum K) (bL sumX) := srl_of fun Z H s xs vs z p R r e hp Qc k kn => by
  obtain ⟨ns, e1, e2⟩ := Option.map_eq_some_iff.mp e
  cases e2
  obtain ⟨a, rfl, h⟩ := ints_ok R r e1
  exact ⟨a, ns, rfl, h, k _ (.int _)⟩
theorem srl_all {K : PySem.W.Frag} : SRL K (rAll K) (bL allX) := srl_of fun Z H s xs vs z p R r e hp Qc k kn => by
  obtain ⟨ns, e1, e2⟩ := Option.map_eq_some_iff.mp e
  cases e2
  obtain ⟨a, rfl, h⟩ := bls_ok R r e1
  exact ⟨a, ns, rfl, h, k _ (.bl _)⟩
theorem srl_any {K : PySem.W.Frag} : SRL K (rAny K) (bL anyX) := srl_of fun Z H s xs vs z p R r e hp Qc k kn => by
  obtain ⟨ns, e1, e2⟩ := Option.map_eq_some_iff.mp e
  cases e2
  obtain ⟨a, rfl, h⟩ := bls_ok R r e1
  exact ⟨a, ns, rfl, h, k _ (.bl _)⟩
def rMaxAll (K : PySem.W.Frag) : List V → Hp → VK → Prop := orL (fun xs H Q => ∃ i j, xs = [.int i, .int j] ∧ Q (.int (if j > i then j else i)) H) (rMax K)
def rMinAll (K : PySem.W.Frag) : List V → Hp → VK → Prop := orL (fun xs H Q => ∃ i j, xs = [.int i, .int j] ∧ Q (.int (if j < i then j else i)) H) (rMin K)
theorem call_maxAll {X : Cx} (hc : X.calm = true) : CallR X (.builtin "max") (rMaxAll X.K) := callr_or (call_max2 hc) (cr_max hc)
theorem call_minAll {X : Cx} (hc : X.calm = true) : CallR X (.builtin "min") (rMinAll X.K) := callr_or (call_min2 hc) (cr_min hc)
theorem srl_max {K : PySem.W.Frag} : SRL K (rMaxAll K) (bL maxX) := srl_of fun Z H s xs vs z p R r e hp Qc k kn => by
  unfold maxX at e
  split at e
  · rename_i i j e1
    cases e
    refine .inl ⟨i, j, int2_v r e1, ?_⟩
    have : (if j > i then j else i) = max i j := by
      split <;> omega
    rw [this]
    exact k _ (.int _)
  · obtain ⟨ns, e1, e2⟩ := Option.map_eq_some_iff.mp e
    cases e2
    obtain ⟨a, rfl, h⟩ := ints_ok R r e1
    refine .inr ⟨a, ns, rfl, h, List.length_pos_iff.mpr hp, fun m hm hy => ?_⟩
    have : m = maxL ns := Int.le_antisymm (maxL_ge hm) (hy _ (maxL_mem hp))
    rw [this]
    exact k _ (.int _)
theorem srl_min {K : PySem.W.Frag} : SRL K (rMinAll K) (bL minX) := srl_of fun Z H s xs vs z p R r e hp Qc k kn => by
  unfold minX at e
  split at e
  · rename_i i j e1
    cases e
    refine .inl ⟨i, j, int2_v r e1, ?_⟩
    have : (if j < i then j else i) = min i j := by
      split <;> omega
    rw [this]
    exact k _ (.int _)
  · obtain ⟨ns, e1, e2⟩ := Option.map_eq_some_iff.mp e
    cases e2
    obtain ⟨a, rfl, h⟩ := ints_ok R r e1
    refine .inr ⟨a, ns, rfl, h, List.length_pos_iff.mpr hp, fun m hm hy => ?_⟩
    have : m = minL ns := Int.le_antisymm (hy _ (minL_mem hp)) (minL_le hm)
    rw [this]
    exact k _ (.int _)
def absX : FL := fun _ xs => (int1 xs).map fun i => (.int (if i < 0 then -i else i), True)
theorem srl_abs {K : PySem.W.Frag} : SRL K (fun xs H Q => ∃ i, xs = [.int i] ∧ Q (.int (if i < 0 then -i else i)) H) (bL absX) := srl_of fun Z H s xs vs z p R r e hp Qc k kn => by
  obtain ⟨i, e1, e2⟩ := Option.map_eq_some_iff.mp e
  cases e2
  exact ⟨i, int1_v r e1, k _ (.int _)⟩
def b2int (b : Bool) : Int := if b then 1 else 0
def intC : List D → Option Int
  | [.int i] => some i
  | [.bl b] => some (b2int b)
  | _ => none
def intX : FL := fun _ xs => (intC xs).map fun i => (.int i, True)
theorem srl_int {K : PySem.W.Frag} : SRL K (fun xs H Q => (∃ i, xs = [.int i] ∧ Q (.int i) H) ∨ ∃ k, xs = [.bl k] ∧ Q (.int (if k then 1 else 0)) H) (bL intX) := srl_of fun Z H s xs vs z p R r e hp Qc k kn => by
  obtain ⟨i, e1, e2⟩ := Option.map_eq_some_iff.mp e
  cases e2
  unfold intC at e1
  split at e1
  · cases e1
    cases r with
    | cons h t => cases h; cases t; exact .inl ⟨_, rfl, k _ (.int _)⟩
  · cases e1
    cases r with
    | cons h t => cases h; cases t; exact .inr ⟨_, rfl, k _ (.int _)⟩
  · cases e1
def numS (i : Int) : List Nat := (toString i : Str).cps.toList
def strX : FL := fun _ xs => (int1 xs).map fun i => (.str (numS i), i.natAbs.log2 < 1920)
theorem srl_str {K : PySem.W.Frag} : SRL K (fun xs H Q => ∃ i, xs = [.int i] ∧ i.natAbs.log2 < 1920 ∧ Q (.str (toString i)) H) (bL strX) := srl_of fun Z H s xs vs z p R r e hp Qc k kn => by
  obtain ⟨i, e1, e2⟩ := Option.map_eq_some_iff.mp e
  cases e2
  exact ⟨i, int1_v r e1, hp, k _ (rp_str (ofL_toList _).symm)⟩
/-- list(x), to be data; to be owned -/
def seqV : D → Option (List D)
  | .lst ds => some ds
  | .tup ds => some ds
  | _ => none
def listX : FL := fun s xs => ((vw1 s xs).bind seqV).map fun ds => (.lst ds, True)
def bListO : ARL := fun xs s Q => opt ((vw1 s xs).bind seqV) (fun ds => New s (fun p => Q (.ref p) (aup s p (.lst ds))) ⟨⟩) ⟨⟩
def rListOf (K : PySem.W.Frag) : List V → Hp → VK → Prop := fun xs H Q => ∃ p ys, xs = [.ref p] ∧ (SqL K H p ys ∨ SqT K H p ys) ∧ ∀ l, H l = none → Q (.ref l) (upd H l (.lst ys))
theorem seq_ok {K : PySem.W.Frag} {Z : Addr → Prop} {H : Hp} {s : Ah} {xs : List D} {vs : List V} {ds : List D} (R : Rep K Z H s) (r : Rps K H (Ow Z s) xs vs) (e : (vw1 s xs).bind seqV = some ds) : ∃ a ws, vs = [.ref a] ∧ (SqL K H a ws ∨ SqT K H a ws) ∧ Rps K H (Ow Z s) ds ws := by
  obtain ⟨d, e1, e2⟩ := Option.bind_eq_some_iff.mp e
  obtain ⟨x, v, rfl, rfl, rx⟩ := vw1_ok r e1
  unfold seqV at e2
  split at e2
  · rename_i e3
    cases e2
    obtain ⟨a, ws, rfl, h1, r1⟩ := view_lst R rx e3
    exact ⟨a, ws, rfl, .inl h1, r1⟩
  · rename_i e3
    cases e2
    obtain ⟨a, ws, rfl, h1, _, r1⟩ := view_tup rx e3
    exact ⟨a, ws, rfl, .inr (SqT.of h1), r1⟩
  · cases e2
theorem srl_list {K : PySem.W.Frag} : SRL K (rListOf K) (bL listX) := srl_of fun Z H s xs vs z p R r e hp Qc k kn => by
  obtain ⟨ds, e1, e2⟩ := Option.map_eq_some_iff.mp e
  cases e2
  obtain ⟨a, ws, rfl, h1, r1⟩ := seq_ok R r e1
  exact ⟨a, ws, rfl, h1, kn _ fun q hq => ⟨_, rp_newL R r1 hq, rfl⟩⟩
theorem srl_listO {K : PySem.W.Frag} : SRL K (rListOf K) bListO := by
  intro Z H s xs vs Q Qc R r q L
  obtain ⟨ds, e1, q⟩ := opt_of q
  obtain ⟨a, ws, rfl, h1, r1⟩ := seq_ok R r e1
  refine ⟨a, ws, rfl, h1, fun p hp => ?_⟩
  obtain ⟨R', f'⟩ := new_own R hp (u := .lst ws) (o := .lst ds) rfl fun f => ⟨ws, upd_same, r1.fr f⟩
  exact L _ _ _ _ R' (.ref p) f' (q p (R.no hp))
/-- dict(d) -/
def dkO : Option Ob → Option (List (Key × D))
  | some (.dK kvs) => some kvs
  | _ => none
def dkA (s : Ah) : List D → Option (List (Key × D))
  | [.ref a] => dkO (s a)
  | _ => none
def bDict : ARL := fun xs s Q => opt (dkA s xs) (fun kvs => New s (fun p => Q (.ref p) (aup s p (.dK kvs))) ⟨⟩) ⟨⟩
theorem srl_dict {K : PySem.W.Frag} : SRL K (fun xs H Q => ∃ (a : Addr) (kvs : List (Key × V)), xs = [.ref a] ∧ Rd H a (.dK kvs) ∧ ∀ p, H p = none → Q (.ref p) (upd H p (.dK kvs))) bDict := by
  intro Z H s xs vs Q Qc R r q0 L
  obtain ⟨kvs, e1, q⟩ := opt_of q0
  clear q0
  unfold dkA at e1
  split at e1
  · rename_i a
    unfold dkO at e1
    split at e1
    · rename_i es
      cases e1
      cases r with
      | cons h t =>
        cases h; cases t
        obtain ⟨ws, hw, rk⟩ := R.at_ _ _ es
        refine ⟨a, ws, rfl, .inl hw, fun p hp => ?_⟩
        obtain ⟨R', f'⟩ := new_own R hp (u := .dK ws) (o := .dK kvs) rfl fun f => ⟨ws, upd_same, Rkv.fr f rk⟩
        exact L _ _ _ _ R' (.ref p) f' (q p (R.no hp))
    · cases e1
  · cases e1
/-- sorted(xs) of ints, of texts -/
def bSortI : ARL := fun xs s Q => opt ((lst1 s xs).bind intsD) (fun ns => ∀ ms : List Int, ms.Perm ns → ms.Pairwise (· ≤ ·) → Q (.lst (ms.map D.int)) s) ⟨⟩
theorem rps_ints {K : PySem.W.Frag} {H : Hp} {N : Addr → Prop} : ∀ ns : List Int, Rps K H N (ns.map D.int) (ns.map V.int)
  | [] => .nil
  | n :: r => .cons (.int n) (rps_ints r)
theorem srl_sortI {K : PySem.W.Frag} : SRL K (rSortedI K) bSortI := by
  intro Z H s xs vs Q Qc R r q L
  obtain ⟨ns, e1, q⟩ := opt_of q
  obtain ⟨a, rfl, h⟩ := ints_ok R r e1
  refine ⟨a, ns, rfl, h, fun ms p h1 h2 hp => ?_⟩
  obtain ⟨R', f', _⟩ := R.new (u := .lst (ms.map V.int)) hp
  exact L _ s _ _ R' (rp_newL R (rps_ints ms) hp) f' (q ms h1 h2)
/-! ### isinstance -/
def tyD : D → Option String
  | .non => some "NoneType"
  | .bl _ => some "bool"
  | .int _ => some "int"
  | .str _ => some "str"
  | .lst _ => some "list"
  | .tup _ => some "tuple"
  | _ => none
def tyO : Option Ob → Option String
  | some (.lst _) => some "list"
  | some (.dK _) => some "dict"
  | some (.dT _) => some "dict"
  | _ => none
def tyA (s : Ah) : D → Option String
  | .ref a => tyO (s a)
  | d => tyD d
theorem tyA_ok {K : PySem.W.Frag} {Z : Addr → Prop} {H : Hp} {s : Ah} {x : D} {v : V} {t : String} (R : Rep K Z H s) (r : Rp K H (Ow Z s) x v) (e : tyA s x = some t) : TyX K H v (.type t) := by
  cases r with
  | non => cases e; exact .base .non
  | bl b => cases e; exact .base (.bl b)
  | int i => cases e; exact .base (.int i)
  | str z => cases e; exact .base (.str _)
  | lst h n r => cases e; exact .base (.lst h)
  | tup h n r => cases e; exact .base (.tup h)
  | ref a =>
    have e : tyO (s a) = some t := e
    unfold tyO at e
    split at e
    · rename_i es; cases e; obtain ⟨vs, h, _⟩ := R.at_ _ _ es; exact .base (.lst h)
    · rename_i es; cases e; obtain ⟨vs, h, _⟩ := R.at_ _ _ es; exact .base (.dK h)
    · rename_i es; cases e; obtain ⟨vs, h, _⟩ := R.at_ _ _ es; exact .base (.dT h)
    · cases e
  | _ => cases e
def kitN (t n : String) : Option Bool := kitB t n
def tyN : List D → Option (D × String)
  | [x, .ty n] => some (x, n)
  | _ => none
def isiX : FL := fun s xs => (tyN xs).bind fun p => (tyA s p.1).bind fun t => (kitN t p.2).map fun b => (.bl b, True)
theorem srl_isi {K : PySem.W.Frag} : SRL K (rIsi K) (bL isiX) := srl_of fun Z H s xs vs z p R r e hp Qc k kn => by
  obtain ⟨⟨x, n⟩, e1, e⟩ := Option.bind_eq_some_iff.mp e
  obtain ⟨t, e2, e⟩ := Option.bind_eq_some_iff.mp e
  obtain ⟨b, e3, e4⟩ := Option.map_eq_some_iff.mp e
  cases e4
  unfold tyN at e1
  split at e1
  · cases e1
    cases r with
    | cons h t' =>
      cases t' with
      | cons h2 t' =>
        cases h2; cases t'
        exact r_isi (tyA_ok R h e2) e3 (k _ (.bl _))
  · cases e1
end Sk
namespace Sk
open PySem PySem.Spec PyProof.Rows L2
open PySem.Builtin.Str PySem.StrLaws
/-! ### one sign in a text: where it stands -/
theorem occ1_go (x : Str) (c : Nat) : ∀ (n a : Nat) (st : Array Nat) (f : Nat), f ≤ a → st.size ≤ a → a + n = x.length + 1 →
    (forIn (List.range' a n) (st, f) (occBody x ⟨#[c]⟩ x.length (x.length + 1))).run.fst.toList = st.toList ++ (List.range' a n).filter (fun i => x.cps.toList[i]? == some c)
  | 0, a, st, f, _, _, _ => by simp
  | n + 1, a, st, f, hf, hs, ha => by
    rw [List.range'_succ, List.forIn_cons]
    have key := subAt_one x c a
    unfold occBody
    by_cases hc : x.cps.toList[a]? = some c
    · obtain ⟨k1, k2⟩ := key.mpr hc
      rw [if_pos ⟨⟨⟨by show st.size < _; omega, hf⟩, k1⟩, k2⟩]
      show (forIn (List.range' (a + 1) n) (st.push a, a + (⟨#[c]⟩ : Str).length) (occBody x ⟨#[c]⟩ x.length (x.length + 1))).run.fst.toList = _
      rw [occ1_go x c n (a + 1) (st.push a) _ (by show a + 1 ≤ a + 1; omega) (by simp; omega) (by omega)]
      rw [List.filter_cons, if_pos (by rw [hc]; simp)]
      simp
    · rw [if_neg (fun h => hc (key.mp ⟨h.1.2, h.2⟩))]
      show (forIn (List.range' (a + 1) n) (st, f) (occBody x ⟨#[c]⟩ x.length (x.length + 1))).run.fst.toList = _
      rw [occ1_go x c n (a + 1) st f (by omega) (by omega) (by omega)]
      rw [List.filter_cons, if_neg (by simpa using hc)]
theorem occ1 (x : Str) (c : Nat) : occurrences x ⟨#[c]⟩ 0 x.length (x.length + 1) = (List.range x.cps.toList.length).filter (fun i => x.cps.toList[i]? == some c) := by
  rw [occ_eq]
  have h := occ1_go x c (x.length + 1 - 0) 0 #[] 0 (Nat.le_refl _) (Nat.le_refl _) (by omega)
  rw [h]
  have e : x.length = x.cps.toList.length := Array.length_toList.symm
  rw [e]
  simp only [Nat.sub_zero, List.nil_append]
  rw [← List.range_eq_range', List.range_succ, List.filter_append]
  simp
theorem filter_count (l : List Nat) (c : Nat) : ((List.range l.length).filter (fun i => l[i]? == some c)).length = l.count c := by
  induction l with
  | nil => rfl
  | cons a r ih =>
    rw [List.length_cons, List.range_succ_eq_map, List.filter_cons, List.count_cons]
    have e : ((List.range r.length).map Nat.succ).filter (fun i => (a :: r)[i]? == some c) = ((List.range r.length).filter (fun i => r[i]? == some c)).map Nat.succ := by
      rw [List.filter_map]
      rfl
    rw [e]
    by_cases h : a = c
    · subst h
      simp [ih]
    · simp [h, ih]
theorem count1 (x : Str) (c : Nat) : Txt.count x ⟨#[c]⟩ = (x.cps.toList.count c : Nat) := by
  unfold Txt.count
  rw [occ1, filter_count]
/-- one sign and another, by the order of texts -/
theorem lt_one (a b : Nat) : decide (([a] : List Nat) < [b]) = decide (a < b) := by
  have e : (([a] : List Nat) < [b]) ↔ a < b := by
    constructor
    · intro h
      cases h with
      | rel h => exact h
      | cons h => cases h
    · exact fun h => List.Lex.rel h
  simp [e]
theorem lt_sg (a b : Nat) : ((sg1 a).cps.toList < (sg1 b).cps.toList) ↔ a < b := by
  constructor
  · intro h
    cases h with
    | rel h => exact h
    | cons h => cases h
  · exact fun h => List.Lex.rel h
theorem eq_one (a b : Nat) : decide ((sg1 a : Str) = sg1 b) = decide (a = b) := by
  by_cases h : a = b
  · subst h; simp
  · have : ¬ (sg1 a = sg1 b) := fun z => h (by have := congrArg (fun s : Str => s.cps.toList) z; simpa [sg1] using this)
    simp [h, this]
theorem sg1_list (c : Nat) : (sg1 c).cps.toList = [c] := rfl
end Sk
namespace Sk
open PySem PySem.Spec PyProof.Rows L2
/-! ### methods of lists -/
def ownO (a : Addr) : Option Ob → Option (Addr × List D)
  | some (.lst ds) => some (a, ds)
  | _ => none
def ownL (s : Ah) : D → Option (Addr × List D)
  | .ref a => ownO a (s a)
  | _ => none
theorem ownL_ok {K : PySem.W.Frag} {Z : Addr → Prop} {H : Hp} {s : Ah} {x : D} {v : V} {a : Addr} {ds : List D} (R : Rep K Z H s) (r : Rp K H (Ow Z s) x v) (e : ownL s x = some (a, ds)) : v = .ref a ∧ s a = some (.lst ds) ∧ ∃ vs, H a = some (.lst vs) ∧ Rps K H (Ow Z s) ds vs := by
  cases r with
  | ref b =>
    have e : ownO b (s b) = some (a, ds) := e
    unfold ownO at e
    split at e
    · rename_i es
      cases e
      obtain ⟨vs, h, rr⟩ := R.at_ _ _ es
      exact ⟨rfl, es, vs, h, rr⟩
    · cases e
  | _ => cases e
def mAppend : ARM := fun x ys s Q => opt (ownL s x) (fun p => opt (one ys) (fun y => Rq (p.2.length < 16777216) (Q .non (aup s p.1 (.lst (p.2 ++ [y])))) ⟨⟩) ⟨⟩) ⟨⟩
def mExtend : ARM := fun x ys s Q => opt (ownL s x) (fun p => opt ((one ys).bind fun y => lstV (viewH s y)) (fun es => Rq (p.2.length + es.length ≤ 16777216) (Q .non (aup s p.1 (.lst (p.2 ++ es)))) ⟨⟩) ⟨⟩) ⟨⟩
def nil0 : List D → Option Unit
  | [] => some ()
  | _ => none
def mPop : ARM := fun x ys s Q => opt (ownL s x) (fun p => opt (nil0 ys) (fun _ => opt p.2.getLast? (fun y => Q y (aup s p.1 (.lst p.2.dropLast))) ⟨⟩) ⟨⟩) ⟨⟩
def mPopAt : ARM := fun x ys s Q => opt (ownL s x) (fun p => opt (int1 ys) (fun i => Rq (-(2 ^ 63) ≤ i ∧ i < 2 ^ 63) (opt (seqIndex? i p.2.length) (fun k => opt p.2[k]? (fun y => Q y (aup s p.1 (.lst (p.2.eraseIdx k)))) ⟨⟩) ⟨⟩) ⟨⟩) ⟨⟩) ⟨⟩
def mReverse : ARM := fun x ys s Q => opt (ownL s x) (fun p => opt (nil0 ys) (fun _ => Q .non (aup s p.1 (.lst p.2.reverse))) ⟨⟩) ⟨⟩
def mClear : ARM := fun x ys s Q => opt (ownL s x) (fun p => opt (nil0 ys) (fun _ => Q .non (aup s p.1 (.lst []))) ⟨⟩) ⟨⟩
def ins2 : List D → Option (Int × D)
  | [.int i, y] => some (i, y)
  | _ => none
def mInsert : ARM := fun x ys s Q => opt (ownL s x) (fun p => opt (ins2 ys) (fun r => Rq (p.2.length < 16777216 ∧ 0 ≤ r.1 ∧ r.1 < 2 ^ 63) (Q .non (aup s p.1 (.lst (p.2.take r.1.toNat ++ [r.2] ++ p.2.drop r.1.toNat)))) ⟨⟩) ⟨⟩) ⟨⟩
theorem nil0_ok {K : PySem.W.Frag} {H : Hp} {N : Addr → Prop} {xs : List D} {vs : List V} {u : Unit} (r : Rps K H N xs vs) (e : nil0 xs = some u) : vs = [] := by
  unfold nil0 at e
  split at e
  · cases r; rfl
  · cases e
section
variable {K : PySem.W.Frag}
theorem srm_append : SRM K rAppend mAppend := by
  intro Z H s x xs v vs Q Qc R r rs q L
  obtain ⟨⟨a, ds⟩, e1, q⟩ := opt_of q
  obtain ⟨y, e2, hl, q⟩ := opt_of q
  obtain ⟨rfl, es, ws, h, rr⟩ := ownL_ok R r e1
  obtain ⟨u, rfl, ru⟩ := one_rp rs e2
  obtain ⟨R', f'⟩ := set_own R es (u := .lst (ws ++ [u])) (o := .lst (ds ++ [y])) rfl rfl fun f => ⟨_, upd_same, (rr.fr f).app (.one (ru.fr f))⟩
  exact ⟨a, ws, u, rfl, rfl, h, by rw [← rr.len]; exact hl, L _ _ _ _ R' .non f' q⟩
theorem srm_extend : SRM K rExtend mExtend := by
  intro Z H s x xs v vs Q Qc R r rs q L
  obtain ⟨⟨a, ds⟩, e1, q⟩ := opt_of q
  obtain ⟨es', e2, hl, q⟩ := opt_of q
  obtain ⟨rfl, es, ws, h, rr⟩ := ownL_ok R r e1
  obtain ⟨y, e3, e4⟩ := Option.bind_eq_some_iff.mp e2
  obtain ⟨u, rfl, ru⟩ := one_rp rs e3
  obtain ⟨b, zs, rfl, h2, r2⟩ := viewH_lst R ru (lstD_eq e4)
  obtain ⟨R', f'⟩ := set_own R es (u := .lst (ws ++ zs)) (o := .lst (ds ++ es')) rfl rfl fun f => ⟨_, upd_same, (rr.fr f).app (r2.fr f)⟩
  exact ⟨a, b, ws, zs, rfl, rfl, h, h2, by rw [← rr.len, ← r2.len]; exact hl, L _ _ _ _ R' .non f' q⟩
theorem srm_pop : SRM K rPop mPop := by
  intro Z H s x xs v vs Q Qc R r rs q L
  obtain ⟨⟨a, ds⟩, e1, q⟩ := opt_of q
  obtain ⟨_, e2, q⟩ := opt_of q
  obtain ⟨y, e3, q⟩ := opt_of q
  obtain ⟨rfl, es, ws, h, rr⟩ := ownL_ok R r e1
  obtain rfl := nil0_ok rs e2
  have e3 : ds.getLast? = some y := e3
  rw [List.getLast?_eq_getElem?] at e3
  obtain ⟨u, hu, ru⟩ := rr.get e3
  obtain ⟨R', f'⟩ := set_own R es (u := .lst ws.dropLast) (o := .lst ds.dropLast) rfl rfl fun f => ⟨_, upd_same, (rr.fr f).dropLast⟩
  exact ⟨a, ws, u, rfl, rfl, h, by rw [← rr.len]; exact hu, L _ _ _ _ R' (ru.fr f') f' q⟩
theorem srm_popAt : SRM K rPopAt mPopAt := by
  intro Z H s x xs v vs Q Qc R r rs q L
  obtain ⟨⟨a, ds⟩, e1, q⟩ := opt_of q
  obtain ⟨i, e2, hi, q⟩ := opt_of q
  obtain ⟨k, e3, q⟩ := opt_of q
  obtain ⟨y, e4, q⟩ := opt_of q
  obtain ⟨rfl, es, ws, h, rr⟩ := ownL_ok R r e1
  obtain rfl := int1_v rs e2
  obtain ⟨u, hu, ru⟩ := rr.get e4
  obtain ⟨R', f'⟩ := set_own R es (u := .lst (ws.eraseIdx k)) (o := .lst (ds.eraseIdx k)) rfl rfl fun f => ⟨_, upd_same, (rr.fr f).eraseIdx k⟩
  exact ⟨a, ws, i, k, u, rfl, rfl, h, hi.1, hi.2, by rw [← rr.len]; exact e3, hu, L _ _ _ _ R' (ru.fr f') f' q⟩
theorem srm_reverse : SRM K rReverse mReverse := by
  intro Z H s x xs v vs Q Qc R r rs q L
  obtain ⟨⟨a, ds⟩, e1, q⟩ := opt_of q
  obtain ⟨_, e2, q⟩ := opt_of q
  obtain ⟨rfl, es, ws, h, rr⟩ := ownL_ok R r e1
  obtain rfl := nil0_ok rs e2
  obtain ⟨R', f'⟩ := set_own R es (u := .lst ws.reverse) (o := .lst ds.reverse) rfl rfl fun f => ⟨_, upd_same, (rr.fr f).rev⟩
  exact ⟨a, ws, rfl, rfl, h, L _ _ _ _ R' .non f' q⟩
theorem srm_clear : SRM K rClear mClear := by
  intro Z H s x xs v vs Q Qc R r rs q L
  obtain ⟨⟨a, ds⟩, e1, q⟩ := opt_of q
  obtain ⟨_, e2, q⟩ := opt_of q
  obtain ⟨rfl, es, ws, h, rr⟩ := ownL_ok R r e1
  obtain rfl := nil0_ok rs e2
  obtain ⟨R', f'⟩ := set_own R es (u := .lst []) (o := .lst []) rfl rfl fun f => ⟨_, upd_same, .nil⟩
  exact ⟨a, ws, rfl, rfl, h, L _ _ _ _ R' .non f' q⟩
theorem srm_insert : SRM K (fun x vs H Q => ∃ (l : Addr) (xs : List V) (i : Int) (y : V), x = .ref l ∧ vs = [.int i, y] ∧ H l = some (.lst xs) ∧ xs.length < sizeLine ∧ 0 ≤ i ∧ i < 2 ^ 63 ∧ Q .non (upd H l (.lst (xs.take i.toNat ++ [y] ++ xs.drop i.toNat)))) mInsert := by
  intro Z H s x xs v vs Q Qc R r rs q0 L
  obtain ⟨⟨a, ds⟩, e1, q1⟩ := opt_of q0
  obtain ⟨⟨i, y⟩, e2, hl, q⟩ := opt_of q1
  obtain ⟨rfl, es, ws, h, rr⟩ := ownL_ok R r e1
  clear q0 q1
  unfold ins2 at e2
  split at e2
  · cases e2
    cases rs with
    | cons h1 t =>
      cases h1
      cases t with
      | cons h2 t =>
        cases t
        rename_i u
        obtain ⟨R', f'⟩ := set_own R es (u := .lst (ws.take i.toNat ++ [u] ++ ws.drop i.toNat)) (o := .lst (ds.take i.toNat ++ [y] ++ ds.drop i.toNat)) rfl rfl fun f => ⟨_, upd_same, (((rr.fr f).take _).app (.one (h2.fr f))).app ((rr.fr f).drop _)⟩
        exact ⟨a, ws, i, u, rfl, rfl, h, by rw [← rr.len]; exact hl.1, hl.2.1, hl.2.2, L _ _ _ _ R' .non f' q⟩
  · cases e2
end
/-- the first place of an equal one -/
def mIndex : ARM := fun x ys s Q => opt (lstV (view s x)) (fun ds => opt (one ys) (fun y => Rq (y.flat = true ∧ ds.all D.flat = true ∧ (ds.any fun d => deq d y) = true) (Q (.int (ds.findIdx fun d => deq d y)) s) ⟨⟩) ⟨⟩) ⟨⟩
theorem srm_index {K : PySem.W.Frag} : SRM K (rIndex K) mIndex := by
  intro Z H s x xs v vs Q Qc R r rs q L
  obtain ⟨ds, e1, q⟩ := opt_of q
  obtain ⟨y, e2, ⟨f1, f2, f3⟩, q⟩ := opt_of q
  obtain ⟨a, ws, rfl, h, rr⟩ := view_lst R r (lstD_eq e1)
  obtain ⟨u, rfl, ru⟩ := one_rp rs e2
  have hlt : (ds.findIdx fun d => deq d y) < ds.length := List.findIdx_lt_length_of_exists (by simpa using f3)
  have hd := List.findIdx_getElem (xs := ds) (p := fun d => deq d y) (w := hlt)
  obtain ⟨z, hz, rz⟩ := rr.get (List.getElem?_eq_getElem hlt)
  have fl : ∀ {j : Nat} {d : D}, ds[j]? = some d → d.flat = true := fun {j d} e => List.all_eq_true.mp f2 d (List.mem_of_getElem? e)
  refine ⟨a, ws, u, _, z, rfl, rfl, h, flat_v ru f1, flat_all rr f2, hz, ?_, fun m z' hm hz' => ?_, L.here R (.int _) q⟩
  · rw [flat_eq rz ru (fl (List.getElem?_eq_getElem hlt)) f1]
    exact hd
  · obtain ⟨d', ed, rd⟩ := rr.get' hz'
    rw [flat_eq rd ru (fl ed) f1]
    have := List.not_of_lt_findIdx hm
    obtain ⟨hm', e3⟩ := List.getElem?_eq_some_iff.mp ed
    rw [e3] at this
    simpa using this
section
variable {X : Cx} {W : WX} {o e : Expr} {es : List Expr} {ta : ATE} {t : ATA} {name : Str} {apos cpos : Pos} {id : String} {r : V → List V → Hp → VK → Prop} {f : ARM}
def IsLs (s : Ah) (x : D) : Prop := (lstV (view s x)).isSome = true
def aBM (f : ARM) (a : ATE) (b : ATA) : ATE := fun as s Q E => a as s (fun x s1 => Rq (IsLs s1 x) (b as s1 (fun ys s2 => f x ys s2 Q) E) ⟨⟩) E
theorem isLs_ok {K : PySem.W.Frag} {Z : Addr → Prop} {H : Hp} {s : Ah} {x : D} {v : V} (R : Rep K Z H s) (r : Rp K H (Ow Z s) x v) (h : IsLs s x) : tyV K "list" v H := by
  obtain ⟨ds, e⟩ := Option.isSome_iff_exists.mp h
  obtain ⟨a, ws, rfl, h1, _⟩ := view_lst R r (lstD_eq e)
  exact .inl ⟨rfl, ws, h1⟩
theorem ae_lm (slot : Slot "list" name id) (hty : typeOf (.builtin id) = pure (.type "method_descriptor")) (hm : MtR X id r) (hs : SRM X.K r f) (ho : AE X W o ta) (ha : AA X W (e :: es) t)
    (hbase : attributeBase o name X.env (eval o X.env) = eval o X.env := by rfl)
    (hfew : ((backTo cpos (starEach (e :: es) X.env)).all (fun x => !x.1) && (backToKw cpos (keywordEach [] X.env)).all (fun x => x.1.isSome)
      && decide ((e :: es).length + ([] : List Keyword).length + (if ([] : List Keyword).isEmpty then 0 else 1) < 30)) = true := by rfl)
    (hline : (apos.endLine == cpos.line) = true := by rfl) (hst : starEach (e :: es) X.env = (false, eval e X.env) :: starEach es X.env := by rfl) (hplain : (backTo cpos (starEach es X.env)).any (·.1) = false := by rfl) :
    AE X W (.Call (.Attribute o name apos) (e :: es) [] cpos) (aBM f ta t) := ⟨weakE (pe_bm PySem.F.plainAttrs_list slot hty hm ho.pe ha.pa hbase hfew hline hst hplain) fun σ H Qc h => by
  obtain ⟨Z, as, s, Q, E, R, q, L, LX⟩ := h
  refine conc_bind (Q1 := fun x s1 => Rq (IsLs s1 x) (t as s1 (fun ys s2 => f x ys s2 Q) E) ⟨⟩) R LX q fun x s1 v H1 R1 r1 f1 L1 q1 => ⟨isLs_ok R1.rep r1 q1.1, ?_⟩
  refine conc_bindA (Q1 := fun ys s2 => f x ys s2 Q) R1 L1 q1.2 fun ys s2 vs H2 R2 r2 f2 L2 q2 => ?_
  exact hs Z H2 s2 x ys v vs Q Qc R2.rep (r1.fr f2) r2 q2 (L.fr (f1.trans f2))⟩
theorem ae_lm0 (slot : Slot "list" name id) (hty : typeOf (.builtin id) = pure (.type "method_descriptor")) (hm : MtR X id r) (hs : SRM X.K r f) (ho : AE X W o ta)
    (hbase : attributeBase o name X.env (eval o X.env) = eval o X.env := by rfl) (hline : (apos.endLine == cpos.line) = true := by rfl) :
    AE X W (.Call (.Attribute o name apos) [] [] cpos) (aBM f ta aNil) := ⟨weakE (pe_bm0 PySem.F.plainAttrs_list slot hty hm ho.pe hbase hline) fun σ H Qc h => by
  obtain ⟨Z, as, s, Q, E, R, q, L, LX⟩ := h
  refine conc_bind (Q1 := fun x s1 => Rq (IsLs s1 x) (aNil as s1 (fun ys s2 => f x ys s2 Q) E) ⟨⟩) R LX q fun x s1 v H1 R1 r1 f1 L1 q1 => ⟨isLs_ok R1.rep r1 q1.1, ?_⟩
  exact hs Z H1 s1 x [] v [] Q Qc R1.rep r1 .nil q1.2 (L.fr f1)⟩
end
/-! ### methods of texts -/
def strD : D → Option (List Nat)
  | .str z => some z
  | _ => none
theorem strD_v {K : PySem.W.Frag} {H : Hp} {N : Addr → Prop} {d : D} {v : V} {z : List Nat} (r : Rp K H N d v) (e : strD d = some z) : v = .str (ofL z) := by
  cases r <;> first | (cases e; rfl) | cases e
abbrev FS := List Nat → D → Ah → AVK → Prop
def aSM (f : FS) (a b : ATE) : ATE := fun as s Q E => a as s (fun x s1 => opt (strD x) (fun z => b as s1 (fun y s2 => f z y s2 Q) E) ⟨⟩) E
def SRS (K : PySem.W.Frag) (r : V → List V → Hp → VK → Prop) (f : FS) : Prop := ∀ Z H s z y v Q Qc, Rep K Z H s → Rp K H (Ow Z s) y v → f z y s Q → Lnk K Z H s Q Qc → r (.str (ofL z)) [v] H Qc
def sCount : FS := fun z y s Q => match y with
  | .str [c] => Q (.int (z.count c : Nat)) s
  | _ => False
/-- the place of a sign, or -1 -/
def findC (z : List Nat) (c : Nat) : Int := if c ∈ z then (z.idxOf c : Nat) else -1
theorem srs_count {K : PySem.W.Frag} : SRS K (fun x xs H Q => ∃ a b, x = .str a ∧ xs = [.str b] ∧ Q (.int (Txt.count a b)) H) sCount := by
  intro Z H s z y v Q Qc R r q L
  unfold sCount at q
  split at q
  · rename_i c
    cases r
    refine ⟨_, _, rfl, rfl, ?_⟩
    rw [show (ofL [c] : Str) = ⟨#[c]⟩ from rfl, count1]
    exact L.here R (.int _) q
  · exact q.elim
theorem ae_sm {X : Cx} {W : WX} {id : String} {name : Str} {o e : Expr} {apos pos : Pos} {ta tb : ATE} {r : V → List V → Hp → VK → Prop} {f : FS} (slot : Slot "str" name id) (ty : typeOf (.builtin id) = pure (.type "method_descriptor")) (rule : MtR X id r) (hs : SRS X.K r f) (ho : AE X W o ta) (he : AE X W e tb)
    (hst : starEach [e] X.env = [(false, eval e X.env)] := by rfl) (hbase : attributeBase o name X.env (eval o X.env) = eval o X.env := by rfl) (hline : (apos.endLine == pos.line) = true := by rfl) :
    AE X W (.Call (.Attribute o name apos) [e] [] pos) (aSM f ta tb) := ⟨weakE (pe_m1 slot ty rule ho.pe he.pe hst hbase hline) fun σ H Qc h => by
  obtain ⟨Z, as, s, Q, E, R, q, L, LX⟩ := h
  refine conc_bind (Q1 := fun x s1 => opt (strD x) (fun z => tb as s1 (fun y s2 => f z y s2 Q) E) ⟨⟩) R LX q fun x s1 v H1 R1 r1 f1 L1 q1 => ?_
  obtain ⟨z, ez, q2⟩ := opt_of q1
  obtain rfl := strD_v r1 ez
  refine ⟨⟨_, rfl⟩, conc_bind (Q1 := fun y s2 => f z y s2 Q) R1 L1 q2 fun y s2 u H2 R2 r2 f2 L2 q3 => ?_⟩
  exact hs Z H2 s2 z y u Q Qc R2.rep r2 q3 (L.fr (f1.trans f2))⟩
/-- texts glued -/
def strsD : List D → Option (List (List Nat))
  | [] => some []
  | .str z :: r => (strsD r).map (z :: ·)
  | _ :: _ => none
theorem strsD_v {K : PySem.W.Frag} {H : Hp} {N : Addr → Prop} : ∀ {ds : List D} {vs : List V} {zs : List (List Nat)}, Rps K H N ds vs → strsD ds = some zs → vs = (zs.map ofL).map V.str
  | _, _, _, .nil, e => by cases e; rfl
  | _, _, _, .cons h t, e => by
    unfold strsD at e
    split at e
    · rename_i z; cases z
    · rename_i z
      cases z
      obtain ⟨ms, e1, rfl⟩ := Option.map_eq_some_iff.mp e
      cases h
      rw [strsD_v t e1]
      rfl
    · cases e
theorem strsD_map (zs : List (List Nat)) : strsD (zs.map D.str) = some zs := by
  induction zs with
  | nil => rfl
  | cons n r ih => simp [strsD, ih]
def sJoin : FS := fun z y s Q => opt ((lstV (view s y)).bind strsD) (fun zs => Rq ((zs.map List.length).sum + zs.length * z.length ≤ 16777216) (Q (.str (TL.joinL z zs)) s) ⟨⟩) ⟨⟩
theorem join_ofL (z : List Nat) (zs : List (List Nat)) : Txt.join (ofL z) (zs.map ofL) = ofL (TL.joinL z zs) := by
  refine str_ext ?_
  have e := TL.tl_join (ofL z) (zs.map ofL)
  rw [TL.join_eq]
  have e2 : (zs.map ofL).map TL.tl = zs := by
    rw [List.map_map]
    exact List.map_id zs
  rw [e2] at e
  exact e
theorem srs_join {K : PySem.W.Frag} : SRS K (fun x xs H Q => ∃ a p, ∃ ys : List Str, x = .str a ∧ xs = [.ref p] ∧ (SqL K H p (ys.map V.str) ∨ SqT K H p (ys.map V.str)) ∧ (ys.map (·.length)).sum + ys.length * a.length ≤ 16777216 ∧ Q (.str (Txt.join a ys)) H) sJoin := by
  intro Z H s z y v Q Qc R r q L
  obtain ⟨zs, e, hl, q⟩ := opt_of q
  obtain ⟨ds, e1, e2⟩ := Option.bind_eq_some_iff.mp e
  obtain ⟨a, ws, rfl, h, rr⟩ := view_lst R r (lstD_eq e1)
  rw [strsD_v rr e2] at h
  refine ⟨_, a, zs.map ofL, rfl, rfl, .inl h, ?_, ?_⟩
  · have e3 : (zs.map ofL).map (·.length) = zs.map List.length := by
      rw [List.map_map]
      exact List.map_congr_left fun l _ => ofL_len l
    rw [e3, List.length_map, ofL_len]
    exact hl
  · rw [join_ofL]
    exact L.here R (.str _) q
end Sk
namespace Sk
open PySem PySem.Spec PyProof.Rows L2
theorem av {X : Cx} {W : WX} (i : Nat) {x : Str} {pos : Pos} (hN : X.N[i]? = some x := by rfl) (hv : Vis X.env.scope x := by first | exact Or.inl rfl | exact Or.inr (Or.inl rfl) | exact Or.inr (Or.inr rfl)) (hd : (x == ("__debug__" : Str)) = false := by decide) (hcd : (x == ("__classdict__" : Str)) = false := by decide) : AE X W (.Name x pos) (aVar i) := ae_var hN hv hd hcd
def negD : AR1 := fun x s Q => opt (intD x) (fun i => Q (.int (-i)) s) ⟨⟩
theorem sr_neg {K : PySem.W.Frag} : SR1 K (rU fun i => .int (-i)) negD := by
  intro Z H s x v Q Qc R r q L
  obtain ⟨i, e, q⟩ := opt_of q
  exact ⟨i, intD_v r e, L.here R (.int _) q⟩
section
variable {X : Cx} {W : WX} {x : Str} {p pos : Pos} {e : Expr} {es : List Expr} {t : ATA} {r : List V → Hp → VK → Prop} {f : ARL}
theorem ae_bi {id : String} (hc : CallR X (.builtin id) r) (hs : SRL X.K r f) (hm : X.mg x = none) (hv : bootBuiltins x = some (.builtin id)) (ha : AA X W (e :: es) t) (hg : Gl X x := by rfl) (hn : x ≠ "__name__" := by decide) (hdb : (x == ("__debug__" : Str)) = false := by decide)
    (he : starEach (e :: es) X.env = (false, eval e X.env) :: starEach es X.env := by rfl) (hpl : (backTo pos (starEach es X.env)).any (·.1) = false := by rfl) : AE X W (.Call (.Name x p) (e :: es) [] pos) (aCB f t) := ⟨weakE (pe_callB hc hg hm hv ha.pa hn hdb he hpl) (conc_CB hs)⟩
theorem ae_ty {T : String} (hc : CallR X (.type T) r) (hs : SRL X.K r f) (hm : X.mg x = none) (hv : bootBuiltins x = some (.type T)) (ha : AA X W (e :: es) t) (hg : Gl X x := by rfl) (hn : x ≠ "__name__" := by decide) (hdb : (x == ("__debug__" : Str)) = false := by decide)
    (he : starEach (e :: es) X.env = (false, eval e X.env) :: starEach es X.env := by rfl) (hpl : (backTo pos (starEach es X.env)).any (·.1) = false := by rfl) : AE X W (.Call (.Name x p) (e :: es) [] pos) (aCB f t) := ⟨weakE (pe_callTy hc hg hm hv ha.pa hn hdb he hpl) (conc_CB hs)⟩
end
/-! ### simp's rows -/
theorem getS_0 {x : Option D} {r : ASt} : getS (x :: r) 0 = x := rfl
theorem getS_s {x : Option D} {r : ASt} {i : Nat} : getS (x :: r) (i + 1) = getS r i := rfl
theorem setS_0 {x : Option D} {r : ASt} {d : D} : setS (x :: r) 0 d = some d :: r := rfl
theorem setS_s {x : Option D} {r : ASt} {i : Nat} {d : D} : setS (x :: r) (i + 1) d = x :: setS r i d := rfl
theorem forS_0 {x : Option D} {r : ASt} : forS (x :: r) 0 = none :: r := rfl
theorem forS_s {x : Option D} {r : ASt} {i : Nat} : forS (x :: r) (i + 1) = x :: forS r i := rfl
section
variable {s : Ah} {a : Addr} {i j : Int} {b c : Bool} {y z : List Nat} {ds es : List D} {d e : D} {n : String}
theorem view_i : view s (.int i) = .int i := rfl
theorem view_s : view s (.str y) = .str y := rfl
theorem view_b : view s (.bl b) = .bl b := rfl
theorem view_n : view s .non = .non := rfl
theorem view_l : view s (.lst ds) = .lst ds := rfl
theorem view_t : view s (.tup ds) = .tup ds := rfl
theorem view_c : view s (.scr ds) = .lst ds := rfl
theorem view_y : view s (.ty n) = .ty n := rfl
theorem view_r : view s (.ref a) = viewO a (s a) := rfl
theorem viewO_l : viewO a (some (.lst ds)) = .lst ds := rfl
theorem viewO_k {kvs : List (Key × D)} : viewO a (some (.dK kvs)) = .ref a := rfl
theorem viewO_t {kvs : List (List Key × D)} : viewO a (some (.dT kvs)) = .ref a := rfl
theorem viewO_i {C dx : Addr} {fs : List (Str × D)} : viewO a (some (.ins C dx fs)) = .ref a := rfl
theorem viewO_h {ad : SA} {sh : Sh} : viewO a (some (.shf ad sh)) = .ref a := rfl
theorem viewH_i : viewH s (.int i) = .int i := rfl
theorem viewH_s : viewH s (.str y) = .str y := rfl
theorem viewH_l : viewH s (.lst ds) = .lst ds := rfl
theorem viewH_b : viewH s (.bl b) = .bl b := rfl
theorem viewH_r : viewH s (.ref a) = viewO a (s a) := rfl
theorem addD_i : addD (.int i) (.int j) = some (.int (i + j), True) := rfl
theorem addD_s : addD (.str y) (.str z) = some (.str (y ++ z), y.length + z.length ≤ 16777216) := rfl
theorem addD_l : addD (.lst ds) (.lst es) = some (.lst (ds ++ es), ds.length + es.length ≤ 16777216) := rfl
theorem addD_t : addD (.tup ds) (.tup es) = some (.tup (ds ++ es), ds.length + es.length ≤ 16777216) := rfl
theorem subD_i : subD (.int i) (.int j) = some (.int (i - j), True) := rfl
theorem mulD_i : mulD (.int i) (.int j) = some (.int (i * j), Sk.MulOk i j) := rfl
theorem mulD_s : mulD (.str y) (.int j) = some (.str (List.replicate j.toNat y).flatten, ((y.length ≤ 16 ∧ j ≤ 1048576) ∨ (y.length ≤ 1024 ∧ j ≤ 16384) ∨ (y.length ≤ 65536 ∧ j ≤ 256)) ∧ 0 ≤ j) := rfl
theorem mulD_l : mulD (.lst ds) (.int j) = some (.lst (List.replicate j.toNat ds).flatten, 0 ≤ j ∧ j < 9223372036854775808 ∧ ds.length * j.toNat ≤ 16777216) := rfl
theorem divD_i : divD (.int i) (.int j) = some (.int (i / j), DivOk j) := rfl
theorem modD_i : modD (.int i) (.int j) = some (.int (i % j), 0 < j) := rfl
theorem powD_i : powD (.int i) (.int j) = some (.int (i ^ j.toNat), CPow i j) := rfl
theorem ltD_i : ltD (.int i) (.int j) = some (.bl (decide (i < j)), True) := rfl
theorem ltD_s : ltD (.str y) (.str z) = some (.bl (decide (y < z)), True) := rfl
theorem leD_i : leD (.int i) (.int j) = some (.bl (decide (i ≤ j)), True) := rfl
theorem leD_s : leD (.str y) (.str z) = some (.bl (!decide (z < y)), True) := rfl
theorem gtD_i : gtD (.int i) (.int j) = some (.bl (decide (j < i)), True) := rfl
theorem geD_i : geD (.int i) (.int j) = some (.bl (decide (j ≤ i)), True) := rfl
theorem eqD_i : eqD (.int i) (.int j) = some (.bl (decide (i = j)), True) := rfl
theorem eqD_s : eqD (.str y) (.str z) = some (.bl (decide (y = z)), True) := rfl
theorem eqD_b : eqD (.bl b) (.bl c) = some (.bl (decide (b = c)), True) := rfl
theorem eqD_n : eqD .non .non = some (.bl true, True) := rfl
theorem eqD_in : eqD (.int i) .non = some (.bl false, True) := rfl
theorem eqD_si : eqD (.str y) (.int i) = some (.bl false, True) := rfl
theorem eqD_is : eqD (.int i) (.str y) = some (.bl false, True) := rfl
theorem eqD_sn : eqD (.str y) .non = some (.bl false, True) := rfl
theorem eqD_ll : eqD (.lst ds) (.lst es) = some (.bl (deq (.lst ds) (.lst es)), okD (.lst ds) ∧ okD (.lst es)) := rfl
theorem eqD_tt : eqD (.tup ds) (.tup es) = some (.bl (deq (.tup ds) (.tup es)), okD (.tup ds) ∧ okD (.tup es)) := rfl
theorem notF_eq {f : F2} : notF f d e = (f d e).map fun r => (r.1.neg, r.2) := rfl
theorem neg_b : (D.bl b).neg = .bl (!b) := rfl
theorem isD_n : isD d .non = some (.bl d.isNon, True) := by cases d <;> rfl
theorem isD_b : isD (.bl b) (.bl c) = some (.bl (decide (b = c)), True) := rfl
theorem nn_n : D.isNon .non = true := rfl
theorem nn_i : D.isNon (.int i) = false := rfl
theorem nn_s : D.isNon (.str y) = false := rfl
theorem nn_b : D.isNon (.bl b) = false := rfl
theorem nn_l : D.isNon (.lst ds) = false := rfl
theorem nn_t : D.isNon (.tup ds) = false := rfl
theorem ixA_l : ixA s (.lst ds) (.int i) = (atI ds i).map fun d => (d, True) := rfl
theorem ixA_c : ixA s (.scr ds) (.int i) = (atI ds i).map fun d => (d, True) := rfl
theorem ixA_t : ixA s (.tup ds) (.int i) = (atI ds i).map fun d => (d, True) := rfl
theorem ixA_s : ixA s (.str z) (.int i) = (atI z i).map fun c => (.str [c], z.length ≤ 16777216) := rfl
def ixO (a : Addr) (y : D) : Option Ob → Option DP
  | some (.lst ds) => match y with
    | .int i => (atI ds i).map fun d => (d, True)
    | _ => none
  | some (.dK kvs) => (keyD y).bind fun k => (valA kvs k).map fun d => (d, True)
  | some (.dT kvs) => match y with
    | .tup ks => (keysD ks).bind fun k => (valA kvs k).map fun d => (d, True)
    | _ => none
  | _ => none
theorem ixA_r : ixA s (.ref a) d = ixO a d (s a) ∨ True := .inr trivial
theorem ixA_rl (h : s a = some (.lst ds)) : ixA s (.ref a) (.int i) = (atI ds i).map fun d => (d, True) := by
  have e : getA s a (.int i) = none := by unfold getA; rw [h]
  have f : view s (.ref a) = .lst ds := by show viewO a (s a) = _; rw [h]; rfl
  show (match getA s a (.int i) with | some (some d) => some (d, True) | _ => ixD (view s (.ref a)) (view s (.int i))) = _
  rw [e, f]
  rfl
theorem ixA_rk {kvs : List (Key × D)} {k : Key} (h : s a = some (.dK kvs)) (hk : keyD d = some k) (hv : valA kvs k = some e) : ixA s (.ref a) d = some (e, True) := by
  have g : getA s a d = some (some e) := by unfold getA; rw [h]; show (keyD d).map _ = _; rw [hk]; show some (valA kvs k) = _; rw [hv]
  show (match getA s a d with | some (some d) => some (d, True) | _ => ixD (view s (.ref a)) (view s d)) = _
  rw [g]
theorem inA_rk {kvs : List (Key × D)} {k : Key} (h : s a = some (.dK kvs)) (hk : keyD d = some k) : inA s d (.ref a) = some (.bl (valA kvs k).isSome, True) := by
  unfold inA getA
  simp only [h, hk, Option.map_some]
theorem inA_l : inA s d (.lst es) = some (.bl (es.any fun y => deq y (view s d)), ((view s d).flat = true ∧ es.all D.flat = true) ∨ (okD (view s d) ∧ okD (.lst es))) ∨ True := .inr trivial
theorem atI_0 {α : Type} {x : α} {r : List α} : atI (x :: r) 0 = some x := by
  unfold atI ixN
  simp
theorem atI_1 {α : Type} {x y : α} {r : List α} : atI (x :: y :: r) 1 = some y := atI_nat (j := 1) rfl
theorem atI_2 {α : Type} {x y z : α} {r : List α} : atI (x :: y :: z :: r) 2 = some z := atI_nat (j := 2) rfl
theorem atI_n {α : Type} {l : List α} {i : Int} {x : α} (h0 : 0 ≤ i) (h : l[i.toNat]? = some x) : atI l i = some x := by
  have := atI_nat h
  rw [Int.toNat_of_nonneg h0] at this
  exact this
theorem slD_s {lo hi : Option Int} : slD (.str z) lo hi = some (.str (cut z lo hi), z.length ≤ 16777216) := rfl
theorem slD_l {lo hi : Option Int} : slD (.lst ds) lo hi = some (.lst (cut ds lo hi), True) := rfl
theorem slD_t {lo hi : Option Int} : slD (.tup ds) lo hi = some (.tup (cut ds lo hi), True) := rfl
theorem intD_i : intD (.int i) = some i := rfl
theorem blD_b : blD (.bl b) = some b := rfl
theorem asB_b : asB (.bl b) c = .bl c := rfl
theorem asB_s : asB (.str y) c = .str y := rfl
theorem truA_b : truA s (.bl b) = some (b, True) := rfl
theorem truA_i : truA s (.int i) = some (!decide (i = 0), True) := rfl
theorem truA_s : truA s (.str y) = some (!y.isEmpty, y.length ≤ 16777216) := rfl
theorem truA_l : truA s (.lst ds) = some (!ds.isEmpty, True) := rfl
theorem truA_n : truA s .non = some (false, True) := rfl
theorem tupD_t : tupD (.tup ds) = some ds := rfl
theorem lstD_l : lstD (.lst ds) = some ds := rfl
theorem lstV_l : lstV (.lst ds) = some ds := rfl
theorem unc_c : unc (d :: ds) = some (d, ds) := rfl
theorem two_c : two [d, e] = some (d, e) := rfl
theorem one_c : one [d] = some d := rfl
theorem int1_c : int1 [.int i] = some i := rfl
theorem int2_c : int2 [.int i, .int j] = some (i, j) := rfl
theorem int2_1 : int2 [d] = none := by cases d <;> rfl
theorem rgOf3_c {k : Int} : rgOf3 [.int i, .int j, .int k] = some (i, j, k) := rfl
theorem iterD_l : iterD s (.lst ds) = some (ds, tt_) := rfl
theorem iterD_c : iterD s (.scr ds) = some (ds, tt_) := rfl
theorem iterD_t : iterD s (.tup ds) = some (ds, tt_) := rfl
theorem iterD_s : iterD s (.str z) = some (sgs z, tt_) := rfl
theorem iterD_r : iterD s (.ref a) = iterO a (s a) := rfl
theorem iterL_l : iterL s (.lst ds) = some (ds, tt_) := rfl
theorem iterL_c : iterL s (.scr ds) = some (ds, tt_) := rfl
theorem iterL_r : iterL s (.ref a) = iterO a (s a) := rfl
theorem iterO_l : iterO a (some (.lst ds)) = some (ds, fun s => s a = some (.lst ds)) := rfl
theorem vw1_c : vw1 s [d] = some (view s d) := rfl
theorem lst1_c : lst1 s [d] = lstV (view s d) := rfl
theorem lenX_l : lenX s (.lst ds) = some (ds.length, True) := rfl
theorem lenX_c : lenX s (.scr ds) = some (ds.length, True) := rfl
theorem lenX_t : lenX s (.tup ds) = some (ds.length, True) := rfl
theorem lenX_s : lenX s (.str z) = some (z.length, z.length ≤ 16777216) := rfl
theorem lenX_rl (h : s a = some (.lst ds)) : lenX s (.ref a) = some (ds.length, True) := by
  unfold lenX
  show (match lenD (viewO a (s a)) with | some r => some r | none => lenO (s a)) = _
  rw [h]
  rfl
theorem ownL_r : ownL s (.ref a) = ownO a (s a) := rfl
theorem ownO_l : ownO a (some (.lst ds)) = some (a, ds) := rfl
theorem nil0_c : nil0 [] = some () := rfl
theorem strD_s : strD (.str z) = some z := rfl
theorem intC_i : intC [.int i] = some i := rfl
theorem intC_b : intC [.bl b] = some (b2int b) := rfl
theorem seqV_l : seqV (.lst ds) = some ds := rfl
theorem seqV_t : seqV (.tup ds) = some ds := rfl
theorem tyN_c : tyN [d, .ty n] = some (d, n) := rfl
theorem tyA_i : tyA s (.int i) = some "int" := rfl
theorem tyA_s : tyA s (.str y) = some "str" := rfl
theorem tyA_b : tyA s (.bl b) = some "bool" := rfl
theorem tyA_n : tyA s .non = some "NoneType" := rfl
theorem tyA_l : tyA s (.lst ds) = some "list" := rfl
theorem tyA_t : tyA s (.tup ds) = some "tuple" := rfl
theorem kit_ii : kitN "int" "int" = some true := by decide +kernel
theorem kit_ib : kitN "int" "bool" = some false := by decide +kernel
theorem kit_is : kitN "int" "str" = some false := by decide +kernel
theorem kit_bi : kitN "bool" "int" = some true := by decide +kernel
theorem kit_bb : kitN "bool" "bool" = some true := by decide +kernel
theorem kit_bs : kitN "bool" "str" = some false := by decide +kernel
theorem kit_si : kitN "str" "int" = some false := by decide +kernel
theorem kit_sb : kitN "str" "bool" = some false := by decide +kernel
theorem kit_ss : kitN "str" "str" = some true := by decide +kernel
theorem kit_ni : kitN "NoneType" "int" = some false := by decide +kernel
theorem kit_nb : kitN "NoneType" "bool" = some false := by decide +kernel
theorem kit_ns : kitN "NoneType" "str" = some false := by decide +kernel
theorem kit_li : kitN "list" "int" = some false := by decide +kernel
theorem kit_lb : kitN "list" "bool" = some false := by decide +kernel
theorem kit_ls : kitN "list" "str" = some false := by decide +kernel
theorem kit_ti : kitN "tuple" "int" = some false := by decide +kernel
theorem kit_tb : kitN "tuple" "bool" = some false := by decide +kernel
theorem kit_ts : kitN "tuple" "str" = some false := by decide +kernel
theorem kit_di : kitN "dict" "int" = some false := by decide +kernel
theorem kit_db : kitN "dict" "bool" = some false := by decide +kernel
theorem kit_ds : kitN "dict" "str" = some false := by decide +kernel
theorem isLs_l : IsLs s (.lst ds) = True := by simp [IsLs, view_l, lstV]
theorem isLs_r (h : s a = some (.lst ds)) : IsLs s (.ref a) = True := by simp [IsLs, view_r, h, viewO_l, lstV]
end
/-! ### finding what stands -/
theorem ane {s : Ah} {a b : Addr} {o : Ob} (h : s a = some o) (h' : s b = none) : a ≠ b := fun e => by rw [e, h'] at h; cases h
theorem ane' {s : Ah} {a b : Addr} {o : Ob} (h : s b = some o) (h' : s a = none) : a ≠ b := fun e => by rw [e, h] at h'; cases h'
theorem up_none {s : Ah} {a b : Addr} {o : Ob} (h : aup s a o b = none) : s b = none := by
  by_cases e : b = a
  · subst e; rw [aup_same] at h; cases h
  · rw [aup_ne e] at h; exact h
theorem aup_at {s : Ah} {a b : Addr} {o : Ob} {r : Option Ob} (h : b ≠ a) (k : s b = r) : aup s a o b = r := by rw [aup_ne h]; exact k
end Sk
namespace Sk
open PySem PySem.Spec PyProof.Rows L2
theorem rq_in {p A : Prop} (h : p) (k : A) : Rq p A ⟨⟩ := ⟨h, k⟩
theorem new_in {s : Ah} {k : Addr → Prop} (h : ∀ p, s p = none → k p) : New s k ⟨⟩ := h
theorem aup_none {s : Ah} {a b : Addr} {o : Ob} : (aup s a o b = none) = (b ≠ a ∧ s b = none) := by
  refine propext ⟨fun h => ?_, fun ⟨h1, h2⟩ => by rw [aup_ne h1]; exact h2⟩
  by_cases e : b = a
  · subst e; rw [aup_same] at h; cases h
  · rw [aup_ne e] at h; exact ⟨e, h⟩
theorem mul_l {i j : Int} (h : -18446744073709551616 < i) (h2 : i < 18446744073709551616) : MulOk i j := .inl (.inl ⟨h, h2⟩)
theorem mul_r {i j : Int} (h : -18446744073709551616 < j) (h2 : j < 18446744073709551616) : MulOk i j := .inl (.inr ⟨h, h2⟩)
theorem log_lt {i : Int} {n : Nat} (h : i.natAbs < 2 ^ n) (hn : 0 < n) : i.natAbs.log2 < n := by
  by_cases e : i.natAbs = 0
  · rw [e]; simpa using hn
  · exact (Nat.log2_lt e).mpr h
theorem mul_w {i j : Int} (n m : Nat) (h : i.natAbs < 2 ^ n) (h2 : j.natAbs < 2 ^ m) (hn : 0 < n := by decide) (hm : 0 < m := by decide) (hs : n + m ≤ 1000000 := by decide) : MulOk i j := .inr (by
  show _ + _ < _
  have := log_lt h hn
  have := log_lt h2 hm
  omega)
theorem div_ok {j : Int} (h : 0 < j) (h2 : j < 100000000000000000000000000000000000000000000000000000000000000000000000000000000) : DivOk j := ⟨h, Nat.lt_of_lt_of_le (log_lt (n := 400) (by
  have e : (2 : Nat) ^ 400 = 2582249878086908589655919172003011874329705792829223512830659356540647622016841194629645353280137831435903171972747493376 := by decide +kernel
  rw [e]
  omega) (by decide)) (by decide)⟩
theorem Recv_r {K : PySem.W.Frag} {C : Addr} {ns : List Str} {s : Ah} {a : Addr} : Recv K C ns s (.ref a) = RecvO K C ns (s a) := rfl
theorem RecvO_s {K : PySem.W.Frag} {ad : SA} {sh : Sh} : RecvO K (He.ga K "Shelf") shNames (some (.shf ad sh)) = True := eq_true ⟨rfl, rfl⟩
theorem ixN_0 {n : Nat} : ixN (n + 1) 0 = some 0 := by unfold ixN; simp
def strm : Option Ob → Option Int
  | some (.lst [.int c]) => some c
  | _ => none
theorem strm_c {c : Int} : strm (some (.lst [.int c])) = some c := rfl
theorem rng_len {lo : Int} {n : Nat} : (rng lo n).length = n := by simp [rng]
theorem rng_get {lo : Int} {n i : Nat} {d : D} (h : (rng lo n)[i]? = some d) : i < n ∧ d = .int (lo + i) := by
  have hi := lt_of_get h
  rw [rng_len] at hi
  refine ⟨hi, ?_⟩
  unfold rng at h
  rw [List.getElem?_map, List.getElem?_range hi] at h
  cases h
  rfl
/-- a for over numbers in a row -/
theorem for_rng {lo : Int} {n : Nat} {g : ATG} {tb : ATS} {as : ASt} {s : Ah} {A : AEnds} (P : Nat → ASt → Ah → Prop) (h0 : CvP (P 0) as s)
    (hs : ∀ i as s, i < n → P i as s → g (.int (lo + i)) as s fun as' s' => tb { A with nx := CvP (P (i + 1)), ct := CvP (P (i + 1)), bk := A.nx } as' s') (hd : ∀ as s, P n as s → A.nx as s) : AskFor (rng lo n) tt_ g tb as s A ⟨⟩ :=
  ⟨P, h0, fun _ _ _ _ _ => trivial, fun i d as s e p => by obtain ⟨hi, rfl⟩ := rng_get e; exact hs i as s hi p, by rw [rng_len]; exact hd⟩
/-- a for over things of one kind -/
theorem for_lst {ds : List D} {g : ATG} {tb : ATS} {as : ASt} {s : Ah} {A : AEnds} (P : Nat → ASt → Ah → Prop) (h0 : CvP (P 0) as s)
    (hs : ∀ i d as s, ds[i]? = some d → P i as s → g d as s fun as' s' => tb { A with nx := CvP (P (i + 1)), ct := CvP (P (i + 1)), bk := A.nx } as' s') (hd : ∀ as s, P ds.length as s → A.nx as s) : AskFor ds tt_ g tb as s A ⟨⟩ :=
  ⟨P, h0, fun _ _ _ _ _ => trivial, hs, hd⟩
theorem CvR.less {Q : AVK} {d : D} {s' s : Ah} (l : Le s' s) (h : Q d s') : CvR Q d s := ⟨d, s', CvD.less l, h⟩
theorem Le.aup {s : Ah} {p : Addr} {o : Ob} (n : s p = none) : Le s (aup s p o) := (Le.refl s).new n
theorem Le.of {s' s : Ah} (h : s' = s) : Le s' s := h ▸ Le.refl s
theorem CvP.less {P : ASt → Ah → Prop} {as : ASt} {s s' : Ah} (l : Le s' s) (h : P as s') : CvP P as s := ⟨as, s', Cv.less l, h⟩
theorem CvP.fgt {P : ASt → Ah → Prop} {as as' : ASt} {s s' : Ah} (f : Fgt as as') (l : Le s' s) (h : P as' s') : CvP P as s := ⟨as', s', (Cv.forget f).trans (Cv.less l), h⟩
/-! ### what stands in the store, read -/
def ixOI : Option Ob → Int → Option DP
  | some (.lst ds), i => (atI ds i).map fun d => (d, True)
  | some (.dK kvs), i => (valA kvs (.inl i)).map fun d => (d, True)
  | _, _ => none
def ixOS : Option Ob → List Nat → Option DP
  | some (.dK kvs), z => (valA kvs (.inr (ofL z))).map fun d => (d, True)
  | _, _ => none
def ixOT : Option Ob → List D → Option DP
  | some (.dT kvs), ks => (keysD ks).bind fun k => (valA kvs k).map fun d => (d, True)
  | _, _ => none
def inOI : Option Ob → Int → Option DP
  | some (.lst ds), i => inD (.int i) (.lst ds)
  | some (.dK kvs), i => some (.bl (valA kvs (.inl i)).isSome, True)
  | _, _ => none
def inOS : Option Ob → List Nat → Option DP
  | some (.lst ds), z => inD (.str z) (.lst ds)
  | some (.dK kvs), z => some (.bl (valA kvs (.inr (ofL z))).isSome, True)
  | _, _ => none
def inOT : Option Ob → List D → Option DP
  | some (.lst ds), z => inD (.tup z) (.lst ds)
  | some (.dT kvs), ks => match keysD ks with
    | some k => some (.bl (valA kvs k).isSome, True)
    | none => none
  | _, _ => none
def lenXO : Option Ob → Option (Nat × Prop)
  | some (.lst ds) => some (ds.length, True)
  | some (.dK kvs) => some (kvs.length, True)
  | some (.dT kvs) => some (kvs.length, True)
  | _ => none
def isLsO : Option Ob → Prop
  | some (.lst _) => True
  | _ => False
section
variable {s : Ah} {a : Addr} {i : Int} {z : List Nat} {ks ds : List D} {kvs : List (Key × D)} {kts : List (List Key × D)}
theorem map_none {o : Option D} : (o.map fun d => (d, True)) = none ↔ o = none := by cases o <;> simp
theorem ixA_ri : ixA s (.ref a) (.int i) = ixOI (s a) i := by
  show (match getA s a (.int i) with | some (some d) => some (d, True) | _ => ixD (viewO a (s a)) (.int i)) = _
  unfold getA ixOI
  cases s a with
  | none => rfl
  | some o => cases o with
    | dK kvs => show (match some (valA kvs (.inl i)) with | some (some d) => some (d, True) | _ => _) = (valA kvs (.inl i)).map _; cases valA kvs (.inl i) <;> rfl
    | _ => rfl
theorem ixA_rs : ixA s (.ref a) (.str z) = ixOS (s a) z := by
  show (match getA s a (.str z) with | some (some d) => some (d, True) | _ => ixD (viewO a (s a)) (.str z)) = _
  unfold getA ixOS
  cases s a with
  | none => rfl
  | some o => cases o with
    | dK kvs => show (match some (valA kvs (.inr (ofL z))) with | some (some d) => some (d, True) | _ => _) = (valA kvs (.inr (ofL z))).map _; cases valA kvs (.inr (ofL z)) <;> rfl
    | _ => rfl
theorem ixA_rt : ixA s (.ref a) (.tup ks) = ixOT (s a) ks := by
  show (match getA s a (.tup ks) with | some (some d) => some (d, True) | _ => ixD (viewO a (s a)) (.tup ks)) = _
  unfold getA ixOT
  cases s a with
  | none => rfl
  | some o => cases o with
    | dT kvs => show (match (keysD ks).map (fun k => valA kvs k) with | some (some d) => some (d, True) | _ => _) = (keysD ks).bind fun k => (valA kvs k).map _; cases keysD ks with
      | none => rfl
      | some k => show (match some (valA kvs k) with | some (some d) => some (d, True) | _ => _) = (valA kvs k).map _; cases valA kvs k <;> rfl
    | _ => rfl
theorem inA_ri : inA s (.int i) (.ref a) = inOI (s a) i := by
  show (match getA s a (.int i) with | some o => some (D.bl o.isSome, True) | none => inD (.int i) (viewO a (s a))) = _
  unfold getA inOI
  cases s a with
  | none => rfl
  | some o => cases o <;> rfl
theorem inA_rs : inA s (.str z) (.ref a) = inOS (s a) z := by
  show (match getA s a (.str z) with | some o => some (D.bl o.isSome, True) | none => inD (.str z) (viewO a (s a))) = _
  unfold getA inOS
  cases s a with
  | none => unfold inD; split <;> first | rfl | contradiction | simp_all [viewO]
  | some o => cases o with
    | lst ds => rfl
    | dK ds => rfl
    | _ => unfold inD; split <;> first | rfl | contradiction | simp_all [viewO]
theorem inA_rt : inA s (.tup ks) (.ref a) = inOT (s a) ks := by
  show (match getA s a (.tup ks) with | some o => some (D.bl o.isSome, True) | none => inD (.tup ks) (viewO a (s a))) = _
  unfold getA inOT
  cases s a with
  | none => rfl
  | some o => cases o with
    | dT kvs => cases e : keysD ks <;> simp [e] <;> rfl
    | _ => rfl
theorem lenX_r : lenX s (.ref a) = lenXO (s a) := by
  show (match lenD (viewO a (s a)) with | some r => some r | none => lenO (s a)) = _
  cases s a with
  | none => rfl
  | some o => cases o <;> rfl
theorem isLs_o : IsLs s (.ref a) = isLsO (s a) := by
  show ((lstV (viewO a (s a))).isSome = true) = _
  cases s a with
  | none => simp [viewO, lstV, isLsO]
  | some o => cases o <;> simp [viewO, lstV, isLsO]
theorem ixOI_l : ixOI (some (.lst ds)) i = (atI ds i).map fun d => (d, True) := rfl
theorem ixOI_k : ixOI (some (.dK kvs)) i = (valA kvs (.inl i)).map fun d => (d, True) := rfl
theorem ixOS_k : ixOS (some (.dK kvs)) z = (valA kvs (.inr (ofL z))).map fun d => (d, True) := rfl
theorem ixOT_t : ixOT (some (.dT kts)) ks = (keysD ks).bind fun k => (valA kts k).map fun d => (d, True) := rfl
theorem inOI_l : inOI (some (.lst ds)) i = inD (.int i) (.lst ds) := rfl
theorem inOI_k : inOI (some (.dK kvs)) i = some (.bl (valA kvs (.inl i)).isSome, True) := rfl
theorem inOS_l : inOS (some (.lst ds)) z = inD (.str z) (.lst ds) := rfl
theorem inOS_k : inOS (some (.dK kvs)) z = some (.bl (valA kvs (.inr (ofL z))).isSome, True) := rfl
theorem inOT_t : inOT (some (.dT kts)) ks = match keysD ks with
    | some k => some (.bl (valA kts k).isSome, True)
    | none => none := rfl
theorem keysD_0 : keysD [] = some [] := rfl
theorem keysD_i : keysD (.int i :: ks) = (keysD ks).map (.inl i :: ·) := rfl
theorem keysD_s : keysD (.str z :: ks) = (keysD ks).map (.inr (ofL z) :: ·) := rfl
theorem lenXO_l : lenXO (some (.lst ds)) = some (ds.length, True) := rfl
theorem lenXO_k : lenXO (some (.dK kvs)) = some (kvs.length, True) := rfl
theorem lenXO_t : lenXO (some (.dT kts)) = some (kts.length, True) := rfl
theorem isLsO_l : isLsO (some (.lst ds)) = True := rfl
/-- what is put -/
def setO (a : Addr) (o : Option Ob) (i d : D) (s : Ah) (Q : Ah → Prop) : Prop := match o with
  | some (.lst ds) => match i with
    | .int k => opt (ixN ds.length k) (fun j => Q (aup s a (.lst (ds.set j d)))) ⟨⟩
    | _ => False
  | some (.dK kvs) => opt (keyD i) (fun k => Rq (kvs.length < 16777216) (Q (aup s a (.dK (putA kvs k d)))) ⟨⟩) ⟨⟩
  | some (.dT kvs) => match i with
    | .tup ks => opt (keysD ks) (fun k => Rq (kvs.length < 16777216) (Q (aup s a (.dT (putA kvs k d)))) ⟨⟩) ⟨⟩
    | _ => False
  | _ => False
theorem setIt_r {i d : D} {Q : Ah → Prop} : setIt (.ref a) i d s Q = setO a (s a) i d s Q := rfl
theorem setO_l {k : Int} {d : D} {Q : Ah → Prop} : setO a (some (.lst ds)) (.int k) d s Q = opt (ixN ds.length k) (fun j => Q (aup s a (.lst (ds.set j d)))) ⟨⟩ := rfl
theorem setO_k {i d : D} {Q : Ah → Prop} : setO a (some (.dK kvs)) i d s Q = opt (keyD i) (fun k => Rq (kvs.length < 16777216) (Q (aup s a (.dK (putA kvs k d)))) ⟨⟩) ⟨⟩ := rfl
theorem setO_t {d : D} {Q : Ah → Prop} : setO a (some (.dT kts)) (.tup ks) d s Q = opt (keysD ks) (fun k => Rq (kts.length < 16777216) (Q (aup s a (.dT (putA kts k d)))) ⟨⟩) ⟨⟩ := rfl
theorem keyD_i : keyD (.int i) = some (.inl i) := rfl
theorem keyD_s : keyD (.str z) = some (.inr (ofL z)) := rfl
end
def shO : Option Ob → Option (SA × Sh)
  | some (.shf ad sh) => some (ad, sh)
  | _ => none
theorem shO_s {ad : SA} {sh : Sh} : shO (some (.shf ad sh)) = some (ad, sh) := rfl
theorem shO_eq {o : Option Ob} {r : SA × Sh} (h : shO o = some r) : o = some (.shf r.1 r.2) := by
  unfold shO at h
  split at h
  · cases h; rfl
  · cases h
theorem strm_eq {o : Option Ob} {c : Int} (h : strm o = some c) : o = some (.lst [.int c]) := by
  unfold strm at h
  split at h
  · cases h; rfl
  · cases h
/-- yes or no of what nobody computes -/
noncomputable def dc (p : Prop) : Bool := @decide p (Classical.propDecidable p)
theorem br_dc {A B p : Prop} (h1 : p → A) (h2 : ¬ p → B) : Br (dc p) A B ⟨⟩ ⟨⟩ := @br_dec A B p (Classical.propDecidable p) h1 h2
theorem dc_t {p : Prop} (h : p) : dc p = true := @decide_eq_true p (Classical.propDecidable p) h
theorem dc_f {p : Prop} (h : ¬ p) : dc p = false := @decide_eq_false p (Classical.propDecidable p) h
theorem br_of {b : Bool} {A B : Prop} {t : Tg A} {u : Tg B} (h : Br b A B t u) : (b = true → A) ∧ (b = false → B) := by
  unfold Br at h
  cases b
  · exact ⟨fun e => (nomatch e), fun _ => by simpa using h⟩
  · exact ⟨fun _ => by simpa using h, fun e => (nomatch e)⟩
theorem br_dcof {A B p : Prop} {t : Tg A} {u : Tg B} (h : Br (dc p) A B t u) : (p → A) ∧ (¬ p → B) := ⟨fun e => (br_of h).1 (dc_t e), fun e => (br_of h).2 (dc_f e)⟩
theorem br_decof {A B p : Prop} [Decidable p] {t : Tg A} {u : Tg B} (h : Br (decide p) A B t u) : (p → A) ∧ (¬ p → B) := ⟨fun e => (br_of h).1 (decide_eq_true e), fun e => (br_of h).2 (decide_eq_false e)⟩
section
variable {X : Cx} {W : WX} {k : Nat} {x c m : Str} {ps : List Str} {f : ASp} {p pos apos : Pos} {e o : Expr} {es : List Expr} {ta : ATE} {t : ATA} {K : PySem.W.Frag}
theorem ae_methK {pl : Sem Bool} {ns : List Str} (M : CalM X.prog X.w K X.mg X.base k c m ps (spA K f)) (hK : K = X.K) (hn : ns.contains m = false) (he : AE X W o ta) (hr : Room k X.A) (tk : Takes X W) (ha : AA X W (e :: es) t)
    (hst : starEach (e :: es) X.env = (false, eval e X.env) :: starEach es X.env := by rfl) (hpl : (backTo pos (starEach es X.env)).any (·.1) = false := by rfl)
    (ht : eval (.Call (.Attribute o m apos) (e :: es) [] pos) X.env = (do
      let ov ← eval o X.env
      standAt apos.atName
      let (f, first) ← holding [ov] (getMethod ov m pl)
      callWith pos f first (backTo pos (starEach (e :: es) X.env)) (backToKw pos (keywordEach [] X.env))) := by rfl) :
    AE X W (.Call (.Attribute o m apos) (e :: es) [] pos) (aMeth K (He.ga K c) ns f ta t) := by
  subst hK
  exact ae_meth M hn he hr tk ha hst hpl ht
theorem ae_meth0K {pl : Sem Bool} {ns : List Str} (M : CalM X.prog X.w K X.mg X.base k c m ps (spA K f)) (hK : K = X.K) (hn : ns.contains m = false) (he : AE X W o ta) (hr : Room k X.A) (tk : Takes X W)
    (ht : eval (.Call (.Attribute o m apos) [] [] pos) X.env = (do
      let ov ← eval o X.env
      standAt apos.atName
      let (f, first) ← holding [ov] (getMethod ov m pl)
      callWith pos f first (backTo pos (starEach [] X.env)) (backToKw pos (keywordEach [] X.env))) := by rfl) :
    AE X W (.Call (.Attribute o m apos) [] [] pos) (aMeth K (He.ga K c) ns f ta aNil) := by
  subst hK
  exact ae_meth0 M hn he hr tk ht
theorem ae_makeK (M : CalK X.prog X.w K X.mg X.base k c ps (spA K f)) (hK : K = X.K) (hr : Room (k + 1) X.A) (tk : Takes X W) (ha : AA X W (e :: es) t) (hg : Gl X c := by rfl) (hdb : (c == ("__debug__" : Str)) = false := by decide)
    (he : starEach (e :: es) X.env = (false, eval e X.env) :: starEach es X.env := by rfl) (hpl : (backTo pos (starEach es X.env)).any (·.1) = false := by rfl) : AE X W (.Call (.Name c p) (e :: es) [] pos) (aMake (He.ga K c) f t) := by
  subst hK
  exact ae_make M hr tk ha hg hdb he hpl
theorem ae_make0K (M : CalK X.prog X.w K X.mg X.base k c ps (spA K f)) (hK : K = X.K) (hr : Room (k + 1) X.A) (tk : Takes X W) (hg : Gl X c := by rfl) (hdb : (c == ("__debug__" : Str)) = false := by decide) : AE X W (.Call (.Name c p) [] [] pos) (aMake (He.ga K c) f aNil) := by
  subst hK
  exact ae_make0 M hr tk hg hdb
theorem as_try_onlyK {x : Str} {c : Value} {body suite : List Stmt} {b0 : Stmt} {np pos pos' : Pos} {t u : ATS} (hK : K = X.K) (hs : X.stack = X.env :: X.outer) (hf : X.env.frame = some X.env.locals) (hc : Names X x c) (tk : Takes X W)
    (hb : ∀ (W : WX) (pn : List (Addr × Obj)) (xe : Value → Shared → Prop), Takes (X.tr pn xe) W → PassesOwn (model X.prog X.w) X.A X.env xe → ASs (X.tr pn xe) W body t)
    (hsu : ∀ (a : Addr) (oe : Obj) (pn : List (Addr × Obj)), ASs (X.suite a ((a, oe) :: pn)) W0 (b0 :: suite) u) :
    AS X W (.Try body [.ExceptHandler (some (.Name x np)) none (b0 :: suite) pos'] [] [] pos) (aTryOnly K c t u) := by
  subst hK
  exact as_try_only hs hf hc tk hb hsu
theorem as_try_asK {x n : Str} {c : Value} {i : Nat} {body suite : List Stmt} {b0 : Stmt} {np pos pos' : Pos} {t : ATS} {u : Addr → Value → Option Addr → ATS} (hK : K = X.K) (hs : X.stack = X.env :: X.outer) (hf : X.env.frame = some X.env.locals) (hN : X.N.Nodup) (hi : X.N[i]? = some n) (hln : X.env.kindOf n = some .local) (hc : Names X x c) (tk : Takes X W)
    (hb : ∀ (W : WX) (pn : List (Addr × Obj)) (xe : Value → Shared → Prop), Takes (X.tr pn xe) W → PassesOwn (model X.prog X.w) X.A X.env xe → ASs (X.tr pn xe) W body t)
    (hsu : ∀ (a : Addr) (oe : Obj) (cls : Value) (d : Option Addr) (pn : List (Addr × Obj)), Zc cls d oe → (∃ vs, oe.data = .fields vs) → ASs (X.suite a ((a, oe) :: pn)) W0 (b0 :: suite) (u a cls d)) :
    AS X W (.Try body [.ExceptHandler (some (.Name x np)) (some n) (b0 :: suite) pos'] [] [] pos) (aTryAs K c i t u) := by
  subst hK
  exact as_try_as hs hf hN hi hln hc tk hb hsu
end
/-! ### comprehensions that leave the store -/
theorem alc_filter {α : Type} {l : List α} {e v : α → D} {p : α → Bool} {G : Ah → Prop} {g : ATG} {tt : ATT} {te : ATE} {as : ASt} {s : Ah} {Q : AVK} (hl : l.length < 16777216) (hG : G s)
    (hs : ∀ x ∈ l, ∀ (k : AVK) (k' : Ah → Prop), (p x = true → k (v x) s) → (p x = false → k' s) → g (e x) as s fun as2 s2 => tt as2 s2 (fun b s3 => Br b (te as2 s3 k noX) (k' s3) ⟨⟩ ⟨⟩) noX) (hq : Q (.lst ((l.filter p).map v)) s) : AskLc (l.map e) G g tt te as s Q ⟨⟩ := by
  refine ⟨fun i acc s' => s' = s ∧ acc = ((l.take i).filter p).map v, ⟨rfl, by simp⟩, fun i acc s' _ h => h.1 ▸ hG, by rw [List.length_map]; exact hl, fun i d acc s' hd h => ?_, fun acc s' h => ?_⟩
  · obtain ⟨rfl, rfl⟩ := h
    rw [List.getElem?_map] at hd
    obtain ⟨x, hx, rfl⟩ := Option.map_eq_some_iff.mp hd
    have hm : x ∈ l := List.mem_of_getElem? hx
    have ht : l.take (i + 1) = l.take i ++ [x] := by rw [List.take_add_one, hx]; rfl
    refine hs x hm _ _ (fun hp => ⟨s', Le.refl _, rfl, ?_⟩) fun hp => ⟨s', Le.refl _, rfl, ?_⟩
    · rw [ht, List.filter_append, List.map_append]; simp [hp]
    · rw [ht, List.filter_append, List.map_append]; simp [hp]
  · obtain ⟨rfl, rfl⟩ := h
    rw [List.length_map, List.take_length]
    exact hq
theorem alc_map {α : Type} {l : List α} {e v : α → D} {G : Ah → Prop} {g : ATG} {te : ATE} {as : ASt} {s : Ah} {Q : AVK} (hl : l.length < 16777216) (hG : G s)
    (hs : ∀ x ∈ l, ∀ k : AVK, k (v x) s → g (e x) as s fun as2 s2 => te as2 s2 k noX) (hq : Q (.lst (l.map v)) s) : AskLc (l.map e) G g aYes te as s Q ⟨⟩ := by
  refine ⟨fun i acc s' => s' = s ∧ acc = (l.take i).map v, ⟨rfl, by simp⟩, fun i acc s' _ h => h.1 ▸ hG, by rw [List.length_map]; exact hl, fun i d acc s' hd h => ?_, fun acc s' h => ?_⟩
  · obtain ⟨rfl, rfl⟩ := h
    rw [List.getElem?_map] at hd
    obtain ⟨x, hx, rfl⟩ := Option.map_eq_some_iff.mp hd
    have hm : x ∈ l := List.mem_of_getElem? hx
    have ht : l.take (i + 1) = l.take i ++ [x] := by rw [List.take_add_one, hx]; rfl
    have := hs x hm (fun y s4 => ∃ s5, Le s5 s4 ∧ s5 = s' ∧ (l.take i).map v ++ [y] = (l.take (i + 1)).map v) ⟨s', Le.refl _, rfl, by rw [ht, List.map_append]; rfl⟩
    simpa only [aYes, Br_true] using this
  · obtain ⟨rfl, rfl⟩ := h
    rw [List.length_map, List.take_length]
    exact hq
theorem wipe_0 {as : ASt} : wipeA as [] = as := rfl
theorem wipe_1 {as : ASt} {i : Nat} {l : List Nat} : wipeA as (i :: l) = (wipeA as l).set i none := rfl
theorem ae_strL {X : Cx} {W : WX} {x : Str} {j} {pos : Pos} {z : List Nat} (h : x.cps.toList = z) : AE X W (.Constant (.str x) j pos) (aC (.str z)) := by subst h; exact ae_str
theorem ae_gstrL {X : Cx} {W : WX} {x y : Str} {pos : Pos} {z : List Nat} (h : y.cps.toList = z) (c : ∃ t, X.mg x = some (.str y t)) (hg : Gl X x) (hd : (x == ("__debug__" : Str)) = false := by decide) : AE X W (.Name x pos) (aC (.str z)) := by subst h; exact ae_gstr c hg hd
theorem blsD_mapF {α : Type} (l : List α) (f : α → Bool) : blsD (l.map fun x => .bl (f x)) = some (l.map f) := by
  rw [← blsD_map, List.map_map]
  rfl
theorem intsD_mapF {α : Type} (l : List α) (f : α → Int) : intsD (l.map fun x => .int (f x)) = some (l.map f) := by
  rw [← intsD_map, List.map_map]
  rfl
theorem insA_r {s : Ah} {a : Addr} : insA s (.ref a) = insO a (s a) := rfl
theorem insO_i {a C dx : Addr} {fs : List (Str × D)} : insO a (some (.ins C dx fs)) = some (a, C, dx, fs) := rfl
theorem putFA_0 {f : Str} {d : D} : putFA f d [] = [(f, d)] := rfl
theorem putFA_ne {f g : Str} {d e : D} {r : List (Str × D)} (h : g ≠ f) : putFA f d ((g, e) :: r) = (g, e) :: putFA f d r := by
  show (if g = f then _ else _) = _
  rw [if_neg h]
theorem fldA_r {f : Str} {s : Ah} {a : Addr} : fldA f s (.ref a) = fldO f (s a) := rfl
theorem aup3 {s : Ah} {x y : Addr} {a b c : Ob} (h : x ≠ y) : aup (aup (aup s x a) y b) x c = aup (aup s x c) y b := by
  rw [aup_swap h, aup_aup, aup_swap (fun e => h e.symm)]
theorem aup3' {s : Ah} {x y z : Addr} {a b c d : Ob} (h : x ≠ y) (k : x ≠ z) : aup (aup (aup (aup s x a) y b) z c) x d = aup (aup (aup s x d) y b) z c := by
  funext w
  simp only [aup]
  by_cases h1 : w = x
  · subst h1; rw [if_pos rfl, if_neg k, if_neg h, if_pos rfl]
  · simp only [if_neg h1]
theorem aup3'' {s : Ah} {x y z u : Addr} {a b c d e : Ob} (h : x ≠ y) (k : x ≠ z) (l : x ≠ u) : aup (aup (aup (aup (aup s x a) y b) z c) u d) x e = aup (aup (aup (aup s x e) y b) z c) u d := by
  funext w
  simp only [aup]
  by_cases h1 : w = x
  · subst h1; rw [if_pos rfl, if_neg l, if_neg k, if_neg h, if_pos rfl]
  · simp only [if_neg h1]
end Sk
namespace Sk
open PySem PySem.Spec PyProof.Rows L2
/-! ### a shelf is opened: its parts stand one by one -/
def leafL : List Nat := [108, 101, 97, 102]
def forkL : List Nat := [102, 111, 114, 107]
theorem leafL_eq : ofL leafL = ("leaf" : Str) := by rfl
theorem forkL_eq : ofL forkL = ("fork" : Str) := by rfl
def pcD : Pc → D
  | .leaf z => .tup [.str leafL, .str z]
  | .fork a b => .tup [.str forkL, .int a, .int b]
def kvsD : Nat → List Pc → List (List Key × D)
  | _, [] => []
  | i, q :: r => (q.key, .int (i + 1 : Nat)) :: kvsD (i + 1) r
def fldsD (ad : SA) : List (Str × D) := [("pieces", .ref ad.pc), ("numbers", .ref ad.nm), ("told_signs", .ref ad.sg), ("told_ends", .ref ad.en), ("told_leaves", .ref ad.lv), ("told_heights", .ref ad.ht), ("firsts", .ref ad.fi), ("lasts", .ref ad.la)]
theorem lkD_pieces (ad : SA) : (fldsD ad).lookup ("pieces" : Str) = some (.ref ad.pc) := by kernel_rfl
theorem lkD_numbers (ad : SA) : (fldsD ad).lookup ("numbers" : Str) = some (.ref ad.nm) := by kernel_rfl
theorem lkD_signs (ad : SA) : (fldsD ad).lookup ("told_signs" : Str) = some (.ref ad.sg) := by kernel_rfl
theorem lkD_ends (ad : SA) : (fldsD ad).lookup ("told_ends" : Str) = some (.ref ad.en) := by kernel_rfl
theorem lkD_leaves (ad : SA) : (fldsD ad).lookup ("told_leaves" : Str) = some (.ref ad.lv) := by kernel_rfl
theorem lkD_heights (ad : SA) : (fldsD ad).lookup ("told_heights" : Str) = some (.ref ad.ht) := by kernel_rfl
theorem lkD_firsts (ad : SA) : (fldsD ad).lookup ("firsts" : Str) = some (.ref ad.fi) := by kernel_rfl
theorem lkD_lasts (ad : SA) : (fldsD ad).lookup ("lasts" : Str) = some (.ref ad.la) := by kernel_rfl
/-- the parts -/
structure Prt (C x : Addr) (ad : SA) (ps : List Pc) (sg en lv ht fi la : List Int) (s : Ah) : Prop where
  ob : s x = some (.ins C ad.dx (fldsD ad))
  pc : s ad.pc = some (.lst (.non :: ps.map pcD))
  nm : s ad.nm = some (.dT (kvsD 0 ps))
  sg : s ad.sg = some (.lst (sg.map .int))
  en : s ad.en = some (.lst (en.map .int))
  lv : s ad.lv = some (.lst (lv.map .int))
  ht : s ad.ht = some (.lst (ht.map .int))
  fi : s ad.fi = some (.lst (fi.map .int))
  la : s ad.la = some (.lst (la.map .int))
abbrev Sh.sgs (sh : Sh) : List Int := sh.ms.map Me.sg
abbrev Sh.ens (sh : Sh) : List Int := sh.ms.map Me.en
abbrev Sh.lvs (sh : Sh) : List Int := sh.ms.map fun m => (m.lv : Int)
abbrev Sh.hts (sh : Sh) : List Int := sh.ms.map fun m => m.ht
abbrev Sh.fis (sh : Sh) : List Int := sh.ms.map fun m => (m.fi : Int)
abbrev Sh.las (sh : Sh) : List Int := sh.ms.map fun m => (m.la : Int)
abbrev PrtS (C x : Addr) (ad : SA) (sh : Sh) (s : Ah) : Prop := Prt C x ad sh.ps sh.sgs sh.ens sh.lvs sh.hts sh.fis sh.las s
/-- all of the shelf's addresses are apart -/
def SA.Apart (x : Addr) (ad : SA) : Prop := (x :: ad.own).Nodup
theorem kvsD_len : ∀ (i : Nat) (l : List Pc), (kvsD i l).length = l.length
  | _, [] => rfl
  | i, _ :: r => congrArg Nat.succ (kvsD_len (i + 1) r)
theorem kvsD_snoc : ∀ (i : Nat) (l : List Pc) (q : Pc), kvsD i (l ++ [q]) = kvsD i l ++ [(q.key, .int (i + l.length + 1 : Nat))]
  | i, [], q => rfl
  | i, p :: r, q => by
    show (p.key, _) :: kvsD (i + 1) (r ++ [q]) = _
    rw [kvsD_snoc (i + 1) r q]
    simp [kvsD]
    omega
theorem rkv_kvs {K : PySem.W.Frag} {H : Hp} {N : Addr → Prop} : ∀ (i : Nat) (l : List Pc), Rkv K H N (kvsD i l) (kvsOf i l)
  | _, [] => .nil
  | i, q :: r => .cons ⟨rfl, .int _⟩ (rkv_kvs (i + 1) r)
theorem rkv_kvs_eq {K : PySem.W.Frag} {H : Hp} {N : Addr → Prop} : ∀ {i : Nat} {l : List Pc} {ws : List (List Key × V)}, Rkv K H N (kvsD i l) ws → ws = kvsOf i l
  | _, [], _, .nil => rfl
  | i, q :: r, _, .cons (b := b) h t => by
    obtain ⟨h1, h2⟩ := h
    obtain ⟨b1, b2⟩ := b
    have h1 : q.key = b1 := h1
    have h2 : Rp K H N (.int (i + 1 : Nat)) b2 := h2
    cases h2
    subst h1
    show _ = (q.key, V.int (i + 1 : Nat)) :: kvsOf (i + 1) r
    rw [rkv_kvs_eq t]
theorem rpsIn {K : PySem.W.Frag} {H : Hp} {N : Addr → Prop} : ∀ (l : List Int), Rps K H N (l.map .int) (l.map .int)
  | [] => .nil
  | i :: r => .cons (.int i) (rpsIn r)
theorem rpsIe {K : PySem.W.Frag} {H : Hp} {N : Addr → Prop} : ∀ {l : List Int} {vs : List V}, Rps K H N (l.map .int) vs → vs = l.map .int
  | [], _, .nil => rfl
  | i :: r, _, .cons h t => by cases h; rw [rpsIe t]; rfl
theorem map_ints {α : Type} (f : α → Int) (l : List α) : (l.map f).map V.int = l.map fun m => V.int (f m) := by rw [List.map_map]; rfl
theorem rpsIm {α : Type} {K : PySem.W.Frag} {H : Hp} {N : Addr → Prop} (f : α → Int) (l : List α) : Rps K H N ((l.map f).map D.int) (l.map fun m => V.int (f m)) := by rw [← map_ints]; exact rpsIn _
theorem rp_pc {K : PySem.W.Frag} {H : Hp} {N : Addr → Prop} {q : Pc} {a : Addr} (h : H a = some (.tup q.vals)) (n : ¬ N a) : Rp K H N (pcD q) (.ref a) := by
  cases q with
  | leaf z =>
    refine .tup h n (.cons ?_ (.cons (.str z) .nil))
    exact Rp.str leafL
  | fork a b =>
    refine .tup h n (.cons ?_ (.cons (.int a) (.cons (.int b) .nil)))
    exact Rp.str forkL
theorem rp_pc_eq {K : PySem.W.Frag} {H : Hp} {N : Addr → Prop} {q : Pc} {v : V} (r : Rp K H N (pcD q) v) : ∃ a, v = .ref a ∧ H a = some (.tup q.vals) ∧ ¬ N a := by
  cases q with
  | leaf z =>
    cases r with
    | tup h n r =>
      refine ⟨_, rfl, ?_, n⟩
      cases r with
      | cons h1 t =>
        cases h1
        cases t with
        | cons h2 t => cases h2; cases t; exact h
  | fork a b =>
    cases r with
    | tup h n r =>
      refine ⟨_, rfl, ?_, n⟩
      cases r with
      | cons h1 t =>
        cases h1
        cases t with
        | cons h2 t =>
          cases h2
          cases t with
          | cons h3 t => cases h3; cases t; exact h
theorem rps_pcs {K : PySem.W.Frag} {H : Hp} {N : Addr → Prop} : ∀ {ps : List Pc} {ts : List Addr}, ts.length = ps.length → (∀ (i : Nat) (a : Addr) (q : Pc), ts[i]? = some a → ps[i]? = some q → H a = some (.tup q.vals) ∧ ¬ N a) → Rps K H N (ps.map pcD) (ts.map V.ref)
  | [], [], _, _ => .nil
  | q :: r, a :: t, hl, h => .cons (rp_pc (h 0 a q rfl rfl).1 (h 0 a q rfl rfl).2) (rps_pcs (by simpa using hl) fun i b p e1 e2 => h (i + 1) b p (by simpa using e1) (by simpa using e2))
theorem rps_pcs_eq {K : PySem.W.Frag} {H : Hp} {N : Addr → Prop} : ∀ {ps : List Pc} {vs : List V}, Rps K H N (ps.map pcD) vs → ∃ ts : List Addr, vs = ts.map V.ref ∧ ts.length = ps.length ∧ ∀ (i : Nat) (a : Addr) (q : Pc), ts[i]? = some a → ps[i]? = some q → H a = some (.tup q.vals)
  | [], _, .nil => ⟨[], rfl, rfl, fun i a q e => by simp at e⟩
  | q :: r, _, .cons h t => by
    obtain ⟨a, rfl, h1, _⟩ := rp_pc_eq h
    obtain ⟨ts, rfl, h2, h3⟩ := rps_pcs_eq t
    refine ⟨a :: ts, rfl, by simp [h2], fun i b p e1 e2 => ?_⟩
    cases i with
    | zero => simp at e1 e2; subst e1 e2; exact h1
    | succ i => exact h3 i b p (by simpa using e1) (by simpa using e2)
theorem rkv_flds {K : PySem.W.Frag} {H : Hp} {N : Addr → Prop} (ad : SA) : Rkv K H N (fldsD ad) (flds ad) :=
  .cons ⟨rfl, .ref _⟩ (.cons ⟨rfl, .ref _⟩ (.cons ⟨rfl, .ref _⟩ (.cons ⟨rfl, .ref _⟩ (.cons ⟨rfl, .ref _⟩ (.cons ⟨rfl, .ref _⟩ (.cons ⟨rfl, .ref _⟩ (.cons ⟨rfl, .ref _⟩ .nil)))))))
theorem rkv_flds_eq {K : PySem.W.Frag} {H : Hp} {N : Addr → Prop} {κ : Type} : ∀ {fs : List (κ × Addr)} {gs : List (κ × V)}, Rkv K H N (fs.map fun p => (p.1, D.ref p.2)) gs → gs = fs.map fun p => (p.1, V.ref p.2)
  | [], _, .nil => rfl
  | p :: r, _, .cons (b := b) h t => by
    obtain ⟨h1, h2⟩ := h
    obtain ⟨b1, b2⟩ := b
    have h1 : p.1 = b1 := h1
    have h2 : Rp K H N (.ref p.2) b2 := h2
    cases h2
    subst h1
    rw [rkv_flds_eq t]
    rfl
def fldsP (ad : SA) : List (Str × Addr) := [("pieces", ad.pc), ("numbers", ad.nm), ("told_signs", ad.sg), ("told_ends", ad.en), ("told_leaves", ad.lv), ("told_heights", ad.ht), ("firsts", ad.fi), ("lasts", ad.la)]
theorem flds_of {K : PySem.W.Frag} {H : Hp} {N : Addr → Prop} {ad : SA} {gs : List (Str × V)} (r : Rkv K H N (fldsD ad) gs) : gs = flds ad := rkv_flds_eq (fs := fldsP ad) r
/-- the parts, each with its thing -/
def prtL (C x : Addr) (ad : SA) (sh : Sh) : List (Addr × Ob) := [(x, .ins C ad.dx (fldsD ad)), (ad.pc, .lst (.non :: sh.ps.map pcD)), (ad.nm, .dT (kvsD 0 sh.ps)), (ad.sg, .lst (sh.sgs.map .int)), (ad.en, .lst (sh.ens.map .int)), (ad.lv, .lst (sh.lvs.map .int)), (ad.ht, .lst (sh.hts.map .int)), (ad.fi, .lst (sh.fis.map .int)), (ad.la, .lst (sh.las.map .int))]
def opnL (s : Ah) (l : List (Addr × Ob)) : Ah := fun b => match l.lookup b with
  | some o => some o
  | none => s b
theorem look_mem {l : List (Addr × Ob)} (nd : (l.map Prod.fst).Nodup) {p : Addr × Ob} (h : p ∈ l) : l.lookup p.1 = some p.2 := by
  induction l with
  | nil => cases h
  | cons a r ih =>
    rw [List.map_cons, List.nodup_cons] at nd
    rw [List.lookup_cons]
    rcases List.mem_cons.mp h with e | e
    · subst e
      simp
    · have : (p.1 == a.1) = false := by
        rw [beq_eq_false_iff_ne]
        intro z
        exact nd.1 (by rw [← z]; exact List.mem_map_of_mem e)
      rw [this]
      exact ih nd.2 e
theorem look_not {l : List (Addr × Ob)} {b : Addr} (h : b ∉ l.map Prod.fst) : l.lookup b = none := by
  induction l with
  | nil => rfl
  | cons a r ih =>
    rw [List.map_cons, List.mem_cons, not_or] at h
    rw [List.lookup_cons]
    have : (b == a.1) = false := by rw [beq_eq_false_iff_ne]; exact h.1
    rw [this]
    exact ih h.2
theorem look_of {l : List (Addr × Ob)} {b : Addr} {o : Ob} (h : l.lookup b = some o) : (b, o) ∈ l := by
  induction l with
  | nil => cases h
  | cons a r ih =>
    rw [List.lookup_cons] at h
    by_cases e : b = a.1
    · subst e
      simp at h
      subst h
      exact List.mem_cons_self
    · have : (b == a.1) = false := by rw [beq_eq_false_iff_ne]; exact e
      rw [this] at h
      exact List.mem_cons_of_mem _ (ih h)
theorem prtL_fst (C x : Addr) (ad : SA) (sh : Sh) : (prtL C x ad sh).map Prod.fst = x :: ad.own := rfl
/-- what is known of an opened shelf -/
structure Opened (C x : Addr) (ad : SA) (sh : Sh) (s s1 : Ah) : Prop where
  prt : PrtS C x ad sh s1
  ap : SA.Apart x ad
  ok : sh.Ok
  no : ∀ a ∈ ad.own, s a = none
  oth : ∀ b, b ∉ x :: ad.own → s1 b = s b
theorem opened {C x : Addr} {ad : SA} {sh : Sh} {s : Ah} (ap : SA.Apart x ad) (ok : sh.Ok) (no : ∀ a ∈ ad.own, s a = none) : Opened C x ad sh s (opnL s (prtL C x ad sh)) := by
  have nd : ((prtL C x ad sh).map Prod.fst).Nodup := by rw [prtL_fst]; exact ap
  have g : ∀ {a : Addr} {o : Ob}, (a, o) ∈ prtL C x ad sh → opnL s (prtL C x ad sh) a = some o := fun {a o} h => by
    unfold opnL
    rw [look_mem nd h]
  refine ⟨⟨g (by simp [prtL]), g (by simp [prtL]), g (by simp [prtL]), g (by simp [prtL]), g (by simp [prtL]), g (by simp [prtL]), g (by simp [prtL]), g (by simp [prtL]), g (by simp [prtL])⟩, ap, ok, no, fun b hb => ?_⟩
  unfold opnL
  rw [look_not (by rw [prtL_fst]; exact hb)]
section
variable {K : PySem.W.Frag} {Z : Addr → Prop} {H : Hp} {s s' : Ah} {x : Addr} {ad : SA} {sh : Sh}
theorem Rep.notup (R : Rep K Z H s) {a : Addr} {vs : List V} (h : H a = some (.tup vs)) : ¬ Ow Z s a := fun z => by
  rcases z with z | z
  · obtain ⟨u, e, nt⟩ := R.tracked z
    rw [h] at e
    cases e
    exact nt
  · obtain ⟨⟨u, e, nt⟩, _⟩ := R.zed a z
    rw [h] at e
    cases e
    exact nt
theorem Rep.apart (R : Rep K Z H s) (h : s x = some (.shf ad sh)) : SA.Apart x ad ∧ sh.Ok ∧ ∀ a ∈ ad.own, s a = none := by
  have S : ShelfAt (shC K) H x ad sh := R.at_ _ _ h
  have hx : x ∉ ad.own := S.no_ins S.ob |> fun z => z
  refine ⟨List.nodup_cons.mpr ⟨hx, S.nd⟩, S.ok, fun a ha => ?_⟩
  cases e : s a with
  | none => rfl
  | some u =>
    have ne : x ≠ a := fun z => hx (by rw [z]; exact ha)
    exact absurd ha (R.dis x a _ u h e ne).1
/-- a shelf is opened -/
theorem Rep.open_ (R : Rep K Z H s) (h : s x = some (.shf ad sh)) : Rep K Z H (opnL s (prtL (shC K) x ad sh)) ∧ Fr H s H (opnL s (prtL (shC K) x ad sh)) := by
  obtain ⟨ap, ok, no⟩ := R.apart h
  have S : ShelfAt (shC K) H x ad sh := R.at_ _ _ h
  have O := opened (C := shC K) (s := s) ap ok no
  have own : ∀ y, Own (opnL s (prtL (shC K) x ad sh)) y → Own s y := by
    rintro y ⟨a, o, e, k⟩
    by_cases ha : a ∈ x :: ad.own
    · refine ⟨x, _, h, ?_⟩
      have hp : (a, o) ∈ prtL (shC K) x ad sh := by
        unfold opnL at e
        split at e
        · rename_i o' e'
          cases e
          exact look_of e'
        · rename_i e'
          have := look_mem (l := prtL (shC K) x ad sh) (by rw [prtL_fst]; exact ap) (p := (a, o))
          exfalso
          have hm : a ∈ (prtL (shC K) x ad sh).map Prod.fst := by rw [prtL_fst]; exact ha
          obtain ⟨⟨a', o'⟩, hm1, rfl⟩ := List.mem_map.mp hm
          rw [look_mem (by rw [prtL_fst]; exact ap) hm1] at e'
          cases e'
      have np : o.priv = [] := by
        simp only [prtL, List.mem_cons, List.not_mem_nil, or_false, Prod.mk.injEq] at hp
        rcases hp with ⟨_, rfl⟩ | ⟨_, rfl⟩ | ⟨_, rfl⟩ | ⟨_, rfl⟩ | ⟨_, rfl⟩ | ⟨_, rfl⟩ | ⟨_, rfl⟩ | ⟨_, rfl⟩ | ⟨_, rfl⟩ <;> rfl
      rcases k with rfl | k
      · rcases List.mem_cons.mp ha with rfl | z
        · exact .inl rfl
        · exact .inr z
      · rw [np] at k; cases k
    · rw [O.oth a ha] at e
      exact ⟨a, o, e, k⟩
  have f : Fr H s H (opnL s (prtL (shC K) x ad sh)) := fun p u hp n => ⟨hp, fun z => n (own p z)⟩
  refine ⟨⟨fun y z => ⟨(R.zed y z).1, fun o => (R.zed y z).2 (own y o)⟩, fun a o e => ?_, fun a b o u e1 e2 hab => ?_⟩, f⟩
  · unfold opnL at e
    split at e
    · rename_i o' e'
      cases e
      have hp := look_of e'
      obtain ⟨ts, h1, h2, h3⟩ := S.pc
      simp only [prtL, List.mem_cons, List.not_mem_nil, or_false, Prod.mk.injEq] at hp
      rcases hp with ⟨rfl, rfl⟩ | ⟨rfl, rfl⟩ | ⟨rfl, rfl⟩ | ⟨rfl, rfl⟩ | ⟨rfl, rfl⟩ | ⟨rfl, rfl⟩ | ⟨rfl, rfl⟩ | ⟨rfl, rfl⟩ | ⟨rfl, rfl⟩
      · exact ⟨_, S.ob, rkv_flds ad⟩
      · refine ⟨_, h1, .cons .non (rps_pcs h2 fun i a q e1 e2 => ⟨h3 i a q e1 e2, fun z => R.notup (h3 i a q e1 e2) (z.elim (fun z => .inl (own _ z)) .inr)⟩)⟩
      · exact ⟨_, S.nm, rkv_kvs 0 sh.ps⟩
      · exact ⟨_, S.sg, rpsIm _ sh.ms⟩
      · exact ⟨_, S.en, rpsIm _ sh.ms⟩
      · exact ⟨_, S.lv, rpsIm _ sh.ms⟩
      · exact ⟨_, S.ht, rpsIm _ sh.ms⟩
      · exact ⟨_, S.fi, rpsIm _ sh.ms⟩
      · exact ⟨_, S.la, rpsIm _ sh.ms⟩
    · exact (R.at_ a o e).gen f.n (fun _ _ => rfl) fun _ _ h => h
  · have np : ∀ {a : Addr} {o : Ob}, opnL s (prtL (shC K) x ad sh) a = some o → (o.priv = [] ∧ a ∈ x :: ad.own) ∨ (s a = some o ∧ a ∉ x :: ad.own) := fun {a o} e => by
      unfold opnL at e
      split at e
      · rename_i o' e'
        cases e
        have hp := look_of e'
        refine .inl ⟨?_, by rw [← prtL_fst (shC K) x ad sh]; exact List.mem_map.mpr ⟨_, hp, rfl⟩⟩
        simp only [prtL, List.mem_cons, List.not_mem_nil, or_false, Prod.mk.injEq] at hp
        rcases hp with ⟨_, rfl⟩ | ⟨_, rfl⟩ | ⟨_, rfl⟩ | ⟨_, rfl⟩ | ⟨_, rfl⟩ | ⟨_, rfl⟩ | ⟨_, rfl⟩ | ⟨_, rfl⟩ | ⟨_, rfl⟩ <;> rfl
      · rename_i e'
        refine .inr ⟨e, fun z => ?_⟩
        rw [← prtL_fst (shC K) x ad sh] at z
        obtain ⟨⟨a', o'⟩, hm1, rfl⟩ := List.mem_map.mp z
        rw [look_mem (by rw [prtL_fst]; exact ap) hm1] at e'
        cases e'
    rcases np e1 with ⟨p1, m1⟩ | ⟨q1, m1⟩
    · rw [p1]
      exact ⟨by simp, by simp⟩
    · have hax : a ≠ x := fun z => m1 (by rw [z]; exact List.mem_cons_self)
      have d1 := R.dis a x o _ q1 h hax
      rcases np e2 with ⟨p2, m2⟩ | ⟨q2, m2⟩
      · rw [p2]
        refine ⟨fun z => ?_, by simp⟩
        rcases List.mem_cons.mp m2 with rfl | m2
        · exact d1.1 z
        · exact d1.2 b z m2
      · exact R.dis a b o u q1 q2 hab
/-- and shut -/
theorem Rep.shut {s0 : Ah} (R : Rep K Z H s') (P : PrtS (shC K) x ad sh s') (ok : sh.Ok) (ap : SA.Apart x ad) (no : ∀ a ∈ ad.own, s0 a = none) (oth : ∀ b o, b ∉ x :: ad.own → s0 b = some o → s' b = some o) :
    Rep K Z H (aup s0 x (.shf ad sh)) ∧ Fr H s' H (aup s0 x (.shf ad sh)) := by
  obtain ⟨hx, nd⟩ := List.nodup_cons.mp ap
  have st : ∀ {b : Addr} {o : Ob}, aup s0 x (.shf ad sh) b = some o → (b = x ∧ o = .shf ad sh) ∨ (b ∉ x :: ad.own ∧ s0 b = some o ∧ s' b = some o) := fun {b o} e => by
    by_cases hb : b = x
    · subst hb; rw [aup_same] at e; cases e; exact .inl ⟨rfl, rfl⟩
    · rw [aup_ne hb] at e
      have m : b ∉ x :: ad.own := fun z => by
        rcases List.mem_cons.mp z with z | z
        · exact hb z
        · rw [no b z] at e; cases e
      exact .inr ⟨m, e, oth b o m e⟩
  have mine : ∀ y, y ∈ ad.own → ∃ o, s' y = some o ∧ o.priv = [] := fun y hy => by
    simp only [SA.own, List.mem_cons, List.not_mem_nil, or_false] at hy
    rcases hy with rfl | rfl | rfl | rfl | rfl | rfl | rfl | rfl
    · exact ⟨_, P.pc, rfl⟩
    · exact ⟨_, P.nm, rfl⟩
    · exact ⟨_, P.sg, rfl⟩
    · exact ⟨_, P.en, rfl⟩
    · exact ⟨_, P.lv, rfl⟩
    · exact ⟨_, P.ht, rfl⟩
    · exact ⟨_, P.fi, rfl⟩
    · exact ⟨_, P.la, rfl⟩
  have own : ∀ y, Own (aup s0 x (.shf ad sh)) y → Own s' y := by
    rintro y ⟨a, o, e, k⟩
    rcases st e with ⟨rfl, rfl⟩ | ⟨_, _, e'⟩
    · rcases k with rfl | k
      · exact ⟨_, _, P.ob, .inl rfl⟩
      · obtain ⟨o, e1, _⟩ := mine y k
        exact ⟨_, _, e1, .inl rfl⟩
    · exact ⟨a, o, e', k⟩
  have f : Fr H s' H (aup s0 x (.shf ad sh)) := fun p u hp n => ⟨hp, fun z => n (own p z)⟩
  have sf : ∀ {b : Addr} {u : Ob}, b ∉ x :: ad.own → s' b = some u → b ∉ ad.own ∧ x ∉ u.priv ∧ ∀ y ∈ ad.own, y ∉ u.priv := fun {b u} m e => by
    refine ⟨fun z => m (List.mem_cons_of_mem _ z), (R.dis b x u _ e P.ob fun z => m (by rw [z]; exact List.mem_cons_self)).1, fun y hy z => ?_⟩
    obtain ⟨o, e1, _⟩ := mine y hy
    exact (R.dis b y u o e e1 fun w => m (by rw [w]; exact List.mem_cons_of_mem _ hy)).1 z
  refine ⟨⟨fun y z => ⟨(R.zed y z).1, fun o => (R.zed y z).2 (own y o)⟩, fun a o e => ?_, fun a b o u e1 e2 hab => ?_⟩, f⟩
  · rcases st e with ⟨rfl, rfl⟩ | ⟨_, _, e'⟩
    · obtain ⟨gs, g1, g2⟩ := R.at_ _ _ P.ob
      have := flds_of g2
      subst this
      obtain ⟨v1, a1, r1⟩ := R.at_ _ _ P.pc
      obtain ⟨v2, a2, r2⟩ := R.at_ _ _ P.nm
      obtain ⟨v3, a3, r3⟩ := R.at_ _ _ P.sg
      obtain ⟨v4, a4, r4⟩ := R.at_ _ _ P.en
      obtain ⟨v5, a5, r5⟩ := R.at_ _ _ P.lv
      obtain ⟨v6, a6, r6⟩ := R.at_ _ _ P.ht
      obtain ⟨v7, a7, r7⟩ := R.at_ _ _ P.fi
      obtain ⟨v8, a8, r8⟩ := R.at_ _ _ P.la
      cases r1 with
      | cons hn rt =>
        cases hn
        obtain ⟨ts, rfl, l1, l2⟩ := rps_pcs_eq rt
        obtain rfl := rkv_kvs_eq r2
        obtain rfl := rpsIe r3
        obtain rfl := rpsIe r4
        obtain rfl := rpsIe r5
        obtain rfl := rpsIe r6
        obtain rfl := rpsIe r7
        obtain rfl := rpsIe r8
        exact ⟨g1, ⟨ts, a1, l1, l2⟩, a2, by rw [map_ints] at a3; exact a3, by rw [map_ints] at a4; exact a4, by rw [map_ints] at a5; exact a5, by rw [map_ints] at a6; exact a6, by rw [map_ints] at a7; exact a7, by rw [map_ints] at a8; exact a8, nd, ok⟩
    · exact (R.at_ a o e').gen f.n (fun _ _ => rfl) fun _ _ h => h
  · rcases st e1 with ⟨rfl, rfl⟩ | ⟨m1, _, e1'⟩
    · rcases st e2 with ⟨rfl, rfl⟩ | ⟨m2, _, e2'⟩
      · exact absurd rfl hab
      · exact ⟨(sf m2 e2').1, (sf m2 e2').2.2⟩
    · rcases st e2 with ⟨rfl, rfl⟩ | ⟨m2, _, e2'⟩
      · exact ⟨(sf m1 e1').2.1, fun y hy z => (sf m1 e1').2.2 y z hy⟩
      · exact R.dis a b o u e1' e2' hab
end
end Sk
namespace Sk
open PySem PySem.Spec PyProof.Rows L2
/-- shut again at x, and k holds -/
def ShR (C x : Addr) (s0 s' : Ah) (k : Ah → Prop) : Prop := ∃ ad sh, PrtS C x ad sh s' ∧ sh.Ok ∧ SA.Apart x ad ∧ (∀ a ∈ ad.own, s0 a = none) ∧ (∀ b o, b ∉ x :: ad.own → s0 b = some o → s' b = some o) ∧ k (aup s0 x (.shf ad sh))
def endsSh (C x : Addr) (s0 : Ah) (Q : AVK) (E : AX) : AEnds := { nx := fun _ s' => ShR C x s0 s' (Q .non), rt := fun d s' => ShR C x s0 s' (Q d), bk := fun _ _ => False, ct := fun _ _ => False, ex := fun c od _ s' => ShR C x s0 s' (E c od) }
section
variable {P : Program} {w : World} {K : PySem.W.Frag} {mg : Str → Option Value} {base : Heap} {k : Nat} {x c m qual : Str} {N ps : List Str} {f : ASp} {args : Arguments} {body : List Stmt} {sc : Scope} {tl : ASt}
abbrev BodyS (P : Program) (w : World) (K : PySem.W.Frag) (mg : Str → Option Value) (base : Heap) (k : Nat) (N : List Str) (qual : Str) (sc : Scope) (body : List Stmt) (fA : Addr) (tl : ASt) (f : ASp) : Prop :=
  ∃ at_ : ATS, (∀ cdv A outer s H E, Room k (A.deeper (envOfC qual sc s.heap.objs.size fA cdv)) → ASs (cxOf (L2.CX P w) P w K mg base N qual sc fA cdv A outer s H E) (fun c d _ H => E c d H) body at_) ∧
    ∀ ds s Q E, f ds s Q E → ∃ (s1 : Ah) (x : Addr), (∀ Z H, Rep K Z H s → Rep K Z H s1 ∧ Fr H s H s1) ∧ ((∃ Z H, Rep K Z H s) → at_ (endsSh (shC K) x s Q E) (ds.map some ++ tl) s1)
theorem body_ofS {fA : Addr} (len : ∀ ds s Q E, f ds s Q E → ds.length = ps.length) (htl : tl = List.replicate (N.length - ps.length) none) (h : BodyS P w K mg base k N qual sc body fA tl f) : Body P w K mg base k N qual sc body fA (spA K f) := by
  obtain ⟨at_, h1, h2⟩ := h
  intro cdv A outer s0 H vs Q E hr hsp
  obtain ⟨Z, ds, s, Qa, Ea, R, r, q, L, LX⟩ := hsp
  obtain ⟨s1, x, cv, hq⟩ := h2 ds s Qa Ea q
  obtain ⟨R1, f1⟩ := cv Z H R
  have out : ∀ {s' : Ah} {H' : Hp} {k : Ah → Prop}, Rep K Z H' s' → ShR (shC K) x s s' k → ∃ s2, Rep K Z H' s2 ∧ Fr H' s' H' s2 ∧ k s2 := fun {s' H' k} R' ⟨ad, sh, h1, h2, h3, h4, h5, h6⟩ => by
    obtain ⟨a, b⟩ := R'.shut h1 h2 h3 h4 h5
    exact ⟨_, a, b, h6⟩
  refine ⟨_, (h1 cdv A outer s0 H E hr).pss, Z, endsSh (shC K) x s Qa Ea, _, s1, (r.fr f1).start R1 (by rw [← r.len]; exact len _ _ _ _ q) htl, hq ⟨Z, H, R⟩, ?_⟩
  have ret : Lnk K Z H s1 (fun d s' => ShR (shC K) x s s' (Qa d)) Q := fun d s' v H' R' r' f' q' => by
    obtain ⟨s2, R2, f2, q2⟩ := out R' q'
    exact L d s2 v H' R2 (r'.fr f2) ((f1.trans f').trans f2) q2
  refine ⟨fun as' s' σ' H' R' f' q' => ret .non s' .non H' R'.rep .non f' q', ret, fun _ _ _ _ _ _ z => z.elim, fun _ _ _ _ _ _ z => z.elim, fun c od as' s' σ' H' R' f' q' => ?_⟩
  obtain ⟨s2, R2, f2, q2⟩ := out R'.rep q'
  exact LX c od s2 H' R2 ((f1.trans f').trans f2) q2
theorem calMS (F : ∃ fd, FunD K m qual args body sc [] [] (He.fAd K (c, some m)) fd) (cl : Cls K (He.ga K c)) (me : Meth K (He.ga K c) m (He.ma K (He.ga K c) m)) (S : FnScope N ps sc)
    (b : ∀ (kV doc pm : Value) (an : Option Addr) (cdv ct : Value) (us : List Value), us.length = ps.length → bindArgs (PySem.W.fnOf m qual args body sc .none kV doc pm an cdv ct) ⟨us, []⟩ = pure (ps.zip us))
    (htl : tl = List.replicate (N.length - ps.length) none) (len : ∀ ds s Q E, f ds s Q E → ds.length = ps.length) (h : BodyS P w K mg base k N qual sc body (He.ma K (He.ga K c) m) tl f) : CalM P w K mg base (k + 1) c m ps (spA K f) :=
  CalM.of F cl me S b (spA_len len) (body_ofS len htl h)
theorem calKS (F : ∃ fd, FunD K "__init__" qual args body sc [] [] (He.fAd K (c, some "__init__")) fd) (g : mg c = some (.ref (He.ga K c))) (mk : Mk K (He.ga K c) (He.ma K (He.ga K c) "__init__")) (S : FnScope N ps sc)
    (b : ∀ (kV doc pm : Value) (an : Option Addr) (cdv ct : Value) (us : List Value), us.length = ps.length → bindArgs (PySem.W.fnOf "__init__" qual args body sc .none kV doc pm an cdv ct) ⟨us, []⟩ = pure (ps.zip us))
    (htl : tl = List.replicate (N.length - ps.length) none) (len : ∀ ds s Q E, f ds s Q E → ds.length = ps.length) (h : BodyS P w K mg base k N qual sc body (He.ma K (He.ga K c) "__init__") tl f) : CalK P w K mg base (k + 1) c ps (spA K f) :=
  CalK.of F g mk S b (spA_len len) (body_ofS len htl h)
end
/-- a shelf is opened at the start -/
theorem opening {K : PySem.W.Frag} {s : Ah} {x : Addr} {ad : SA} {sh : Sh} (h : s x = some (.shf ad sh)) {G : Ah → Prop} (k : ∀ s1, Opened (shC K) x ad sh s s1 → G s1) :
    (∀ Z H, Rep K Z H s → Rep K Z H (opnL s (prtL (shC K) x ad sh)) ∧ Fr H s H (opnL s (prtL (shC K) x ad sh))) ∧ ((∃ Z H, Rep K Z H s) → G (opnL s (prtL (shC K) x ad sh))) :=
  ⟨fun Z H R => R.open_ h, fun ⟨Z, H, R⟩ => let ⟨ap, ok, no⟩ := R.apart h; k _ (opened ap ok no)⟩
/-- nothing was done -/
theorem ShR.same {C x : Addr} {ad : SA} {sh : Sh} {s s1 : Ah} {k : Ah → Prop} (O : Opened C x ad sh s s1) (h : s x = some (.shf ad sh)) (q : k s) : ShR C x s s1 k :=
  ⟨ad, sh, O.prt, O.ok, O.ap, O.no, fun b o m e => by rw [O.oth b m]; exact e, by rw [aup_id h]; exact q⟩
theorem sh_of {o : Option Ob} {k : SA × Sh → Prop} {t : Tg k} (h : opt (shO o) k t) : ∃ ad sh, o = some (.shf ad sh) ∧ k (ad, sh) := by
  obtain ⟨r, e, q⟩ := opt_of h
  exact ⟨r.1, r.2, shO_eq e, q⟩
def Sh.has (sh : Sh) (t : Int) : Prop := 0 ≤ t ∧ t ≤ sh.n
def Sh.hasP (sh : Sh) (t : Int) : Prop := 0 < t ∧ t ≤ sh.n
theorem ms_at {sh : Sh} (ok : sh.Ok) {t : Int} (h : sh.has t) (f : Me → Int) : atI ((sh.ms.map f).map D.int) t = some (.int (f (sh.m t.toNat))) := by
  have hl := ok.len
  obtain ⟨h0, h1⟩ := h
  refine atI_n h0 ?_
  have : t.toNat < sh.ms.length := by omega
  unfold Sh.m
  rw [List.getElem?_map, List.getElem?_map, List.getD_eq_getElem?_getD, List.getElem?_eq_getElem this]
  rfl
def Sh.pc (sh : Sh) (t : Int) : Pc := sh.ps.getD (t.toNat - 1) (.leaf [])
theorem pc_at {sh : Sh} {t : Int} (h : sh.hasP t) : atI (D.non :: sh.ps.map pcD) t = some (pcD (sh.pc t)) := by
  obtain ⟨h0, h1⟩ := h
  refine atI_n (by omega) ?_
  obtain ⟨n, e⟩ : ∃ n, t.toNat = n + 1 := ⟨t.toNat - 1, by omega⟩
  have hl : n < sh.ps.length := by show n < sh.n; omega
  unfold Sh.pc
  rw [e, List.getElem?_cons_succ, List.getElem?_map, List.getD_eq_getElem?_getD, Nat.add_sub_cancel, List.getElem?_eq_getElem hl]
  rfl
def Sh.loose (sh : Sh) (a b : Nat) : Prop := (sh.m (sh.m a).la).txt.length + (sh.m (sh.m b).fi).txt.length ≤ 8
def Sh.level (sh : Sh) (a b : Nat) : Prop := (sh.m a).ht - (sh.m b).ht ≤ 1 ∧ (sh.m b).ht - (sh.m a).ht ≤ 1
theorem maxX_2 {s : Ah} {i j : Int} : maxX s [.int i, .int j] = some (.int (max i j), True) := rfl
theorem minX_2 {s : Ah} {i j : Int} : minX s [.int i, .int j] = some (.int (min i j), True) := rfl
theorem maxX_1 {s : Ah} {d : D} : maxX s [d] = ((lst1 s [d]).bind intsD).map fun ns => (.int (maxL ns), ns ≠ []) := by cases d <;> rfl
theorem minX_1 {s : Ah} {d : D} : minX s [d] = ((lst1 s [d]).bind intsD).map fun ns => (.int (minL ns), ns ≠ []) := by cases d <;> rfl
theorem intsD_0 : intsD [] = some [] := rfl
theorem intsD_c {i : Int} {r : List D} : intsD (.int i :: r) = (intsD r).map (i :: ·) := rfl
theorem maxL_2 {a b : Int} : maxL [a, b] = max a b := rfl
theorem minL_2 {a b : Int} : minL [a, b] = min a b := rfl
theorem sCount_1 {z : List Nat} {c : Nat} {s : Ah} {Q : AVK} : sCount z (.str [c]) s Q = Q (.int (z.count c : Nat)) s := rfl
theorem tyA_of {s : Ah} {d : D} {t : String} (h : tyD d = some t) : tyA s d = some t := by cases d <;> first | exact h | cases h
theorem valA_pos {κ : Type} [DecidableEq κ] {p : κ × D} {r : List (κ × D)} {k : κ} (h : p.1 = k) : valA (p :: r) k = some p.2 := by simp [valA, List.find?_cons, h]
theorem valA_neg {κ : Type} [DecidableEq κ] {p : κ × D} {r : List (κ × D)} {k : κ} (h : ¬ p.1 = k) : valA (p :: r) k = valA r k := by simp [valA, List.find?_cons, h]
theorem valA_nil {κ : Type} [DecidableEq κ] {k : κ} : valA ([] : List (κ × D)) k = none := rfl
theorem kvsD_none : ∀ {i : Nat} {l : List Pc} {q : Pc}, q ∉ l → valA (kvsD i l) q.key = none
  | _, [], _, _ => rfl
  | i, p :: r, q, h => by
    have h1 : ¬ p.key = q.key := fun e => h (by rw [Pc.key_inj e]; exact List.mem_cons_self)
    show valA ((p.key, _) :: kvsD (i + 1) r) q.key = none
    rw [valA_neg (p := (p.key, _)) h1]
    exact kvsD_none fun e => h (List.mem_cons_of_mem _ e)
theorem kvsD_some : ∀ {i : Nat} {l : List Pc} {q : Pc}, q ∈ l → valA (kvsD i l) q.key = some (.int (i + l.idxOf q + 1 : Nat))
  | i, p :: r, q, h => by
    show valA ((p.key, _) :: kvsD (i + 1) r) q.key = _
    by_cases e : p = q
    · subst e
      rw [valA_pos (p := (p.key, _)) rfl]
      simp
    · have h1 : ¬ p.key = q.key := fun z => e (Pc.key_inj z)
      rw [valA_neg (p := (p.key, _)) h1]
      rcases List.mem_cons.mp h with z | z
      · exact absurd z.symm e
      · rw [kvsD_some z, show (p :: r).idxOf q = r.idxOf q + 1 by rw [List.idxOf_cons, show (p == q) = false by simp [e]]; rfl]
        congr 2
        omega
theorem putA_new {κ : Type} [DecidableEq κ] {kvs : List (κ × D)} {k : κ} {v : D} (h : valA kvs k = none) : putA kvs k v = kvs ++ [(k, v)] := by
  have : (kvs.any fun kv => decide (kv.1 = k)) = false := by
    rw [← Bool.not_eq_true, List.any_eq_true]
    rintro ⟨x, hx, hk⟩
    unfold valA at h
    rw [Option.map_eq_none_iff, List.find?_eq_none] at h
    exact h x hx hk
  unfold putA
  rw [this, if_neg (by decide)]
theorem putA_kvs {l : List Pc} {q : Pc} (h : q ∉ l) : putA (kvsD 0 l) q.key (.int (l.length + 1 : Nat)) = kvsD 0 (l ++ [q]) := by
  rw [putA_new (kvsD_none h), kvsD_snoc]
  simp
theorem key_leaf (z : List Nat) : [Sum.inr (ofL leafL), Sum.inr (ofL z)] = (Pc.leaf z).key := by rw [leafL_eq]; rfl
theorem key_fork (a b : Nat) : [Sum.inr (ofL forkL), Sum.inl (a : Int), Sum.inl (b : Int)] = (Pc.fork a b).key := by rw [forkL_eq]; rfl
theorem br_ndc {A B p : Prop} (h1 : ¬ p → A) (h2 : p → B) : Br (!dc p) A B ⟨⟩ ⟨⟩ := @br_ndec A B p (Classical.propDecidable p) h1 h2
theorem keyL_leaf (z : List Nat) : ([Sum.inr (ofL [108, 101, 97, 102]), Sum.inr (ofL z)] : List Key) = (Pc.leaf z).key := key_leaf z
theorem keyL_fork (a b : Nat) : ([Sum.inr (ofL [102, 111, 114, 107]), Sum.inl (a : Int), Sum.inl (b : Int)] : List Key) = (Pc.fork a b).key := key_fork a b
theorem put_mem {sh : Sh} {q : Pc} (h : q ∈ sh.ps) : sh.put q = (sh.ps.idxOf q + 1, sh) := by unfold Sh.put; rw [if_pos h]
theorem put_new {sh : Sh} {q : Pc} (h : q ∉ sh.ps) : sh.put q = (sh.n + 1, sh.lay q) := by unfold Sh.put; rw [if_neg h]
/-- a new piece was laid -/
theorem ShR.lay {C x : Addr} {ad : SA} {sh : Sh} {s s1 : Ah} {k : Ah → Prop} {q : Pc} {dq : D} {kq : List Key} {n a b c d e f : Int} (O : Opened C x ad sh s s1) (hq : q ∉ sh.ps) (g : sh.good q) (hdq : dq = pcD q) (hkq : kq = q.key) (hn : n = (sh.n + 1 : Nat)) (ha : a = (sh.mk1 q).sg) (hb : b = (sh.mk1 q).en) (hc : c = ((sh.mk1 q).lv : Int)) (hd : d = (sh.mk1 q).ht) (he : e = ((sh.mk1 q).fi : Int)) (hf : f = ((sh.mk1 q).la : Int))
    (hk : k (aup s x (.shf ad (sh.lay q)))) :
    ShR C x s (aup (aup (aup (aup (aup (aup (aup (aup s1 ad.pc (.lst (D.non :: (sh.ps.map pcD ++ [dq])))) ad.nm (.dT (putA (kvsD 0 sh.ps) kq (.int n)))) ad.sg (.lst (sh.sgs.map D.int ++ [.int a]))) ad.en (.lst (sh.ens.map D.int ++ [.int b]))) ad.lv (.lst (sh.lvs.map D.int ++ [.int c]))) ad.ht (.lst (sh.hts.map D.int ++ [.int d])))
      ad.fi (.lst (sh.fis.map D.int ++ [.int e]))) ad.la (.lst (sh.las.map D.int ++ [.int f]))) k := by
  subst hdq hkq hn ha hb hc hd he hf
  have ap := O.ap
  have nd := ap
  simp only [SA.Apart, SA.own, List.nodup_cons, List.mem_cons, List.not_mem_nil, or_false, not_or, not_false_eq_true, List.nodup_nil, and_true] at nd
  obtain ⟨⟨x1, x2, x3, x4, x5, x6, x7, x8⟩, ⟨p2, p3, p4, p5, p6, p7, p8⟩, ⟨n3, n4, n5, n6, n7, n8⟩, ⟨s4, s5, s6, s7, s8⟩, ⟨e5, e6, e7, e8⟩, ⟨l6, l7, l8⟩, ⟨h7, h8⟩, f8⟩ := nd
  refine ⟨ad, sh.lay q, ⟨?_, ?_, ?_, ?_, ?_, ?_, ?_, ?_, ?_⟩, .lay O.ok g hq, ap, O.no, fun b o m h => ?_, hk⟩
  · rw [aup_ne x8, aup_ne x7, aup_ne x6, aup_ne x5, aup_ne x4, aup_ne x3, aup_ne x2, aup_ne x1]; exact O.prt.ob
  · rw [aup_ne p8, aup_ne p7, aup_ne p6, aup_ne p5, aup_ne p4, aup_ne p3, aup_ne p2, aup_same]; simp [Sh.lay]
  · rw [aup_ne n8, aup_ne n7, aup_ne n6, aup_ne n5, aup_ne n4, aup_ne n3, aup_same, putA_kvs hq]; rfl
  · rw [aup_ne s8, aup_ne s7, aup_ne s6, aup_ne s5, aup_ne s4, aup_same]; simp [Sh.lay, Sh.sgs]
  · rw [aup_ne e8, aup_ne e7, aup_ne e6, aup_ne e5, aup_same]; simp [Sh.lay, Sh.ens]
  · rw [aup_ne l8, aup_ne l7, aup_ne l6, aup_same]; simp [Sh.lay, Sh.lvs]
  · rw [aup_ne h8, aup_ne h7, aup_same]; simp [Sh.lay, Sh.hts]
  · rw [aup_ne f8, aup_same]; simp [Sh.lay, Sh.fis]
  · rw [aup_same]; simp [Sh.lay, Sh.las]
  · have hb := O.oth b m
    simp only [SA.own, List.mem_cons, List.not_mem_nil, or_false, not_or] at m
    obtain ⟨m0, m1, m2, m3, m4, m5, m6, m7, m8⟩ := m
    rw [aup_ne m8, aup_ne m7, aup_ne m6, aup_ne m5, aup_ne m4, aup_ne m3, aup_ne m2, aup_ne m1, hb]
    exact h
end Sk
namespace Sk
open PySem PySem.Spec PyProof.Rows L2
theorem u_aSeq (t u : ATS) : ∀ A as s, aSeq t u A as s = (t { A with nx := u A } as s) := fun _ _ _ => (rfl)
theorem u_aAsg (a : ATE) (g : ATG) : ∀ A as s, aAsg a g A as s = (a as s (fun x s1 => g x as s1 A.nx) (fun c p s1 => A.ex c p as s1)) := fun _ _ _ => (rfl)
theorem u_agName (i : Nat) : ∀ d as s Q, agName i d as s Q = (Q (setS as i d) s) := fun _ _ _ _ => (rfl)
theorem u_aVar (i : Nat) : ∀ as s Q v3_, aVar i as s Q v3_ = (opt (getS as i) (fun d => Q d s) ⟨⟩) := fun _ _ _ _ => (rfl)
theorem u_aC (d : D) : ∀ v0_ s Q v3_, aC d v0_ s Q v3_ = (Q d s) := fun _ _ _ _ => (rfl)
theorem u_aOp (f : AR2) (a b : ATE) : ∀ as s Q E, aOp f a b as s Q E = (a as s (fun x s1 => b as s1 (fun y s2 => f x y s2 Q) E) E) := fun _ _ _ _ => (rfl)
theorem u_aUn (f : AR1) (a : ATE) : ∀ as s Q E, aUn f a as s Q E = (a as s (fun x s1 => f x s1 Q) E) := fun _ _ _ _ => (rfl)
theorem u_aCB (f : ARL) (a : ATA) : ∀ as s Q E, aCB f a as s Q E = (a as s (fun xs s1 => f xs s1 Q) E) := fun _ _ _ _ => (rfl)
theorem u_aM (f : ARM) (a : ATE) (b : ATA) : ∀ as s Q E, aM f a b as s Q E = (a as s (fun x s1 => b as s1 (fun ys s2 => f x ys s2 Q) E) E) := fun _ _ _ _ => (rfl)
theorem u_aNil : ∀ v0_ s Q v3_, aNil v0_ s Q v3_ = (Q [] s) := fun _ _ _ _ => (rfl)
theorem u_aCons (a : ATE) (b : ATA) : ∀ as s Q E, aCons a b as s Q E = (a as s (fun x s1 => b as s1 (fun xs s2 => Q (x :: xs) s2) E) E) := fun _ _ _ _ => (rfl)
theorem u_aTest (a : ATE) : ∀ as s Q E, aTest a as s Q E = (a as s (fun x s1 => opt (blD x) (fun b => Q b s1) ⟨⟩) E) := fun _ _ _ _ => (rfl)
theorem u_aTruth (a : ATE) : ∀ as s Q E, aTruth a as s Q E = (a as s (fun x s1 => opt (truA s1 x) (fun r => Rq r.2 (Q r.1 s1) ⟨⟩) ⟨⟩) E) := fun _ _ _ _ => (rfl)
theorem u_aAnd (t u : ATT) : ∀ as s Q E, aAnd t u as s Q E = (t as s (fun c s1 => Br c (u as s1 Q E) (Q false s1) ⟨⟩ ⟨⟩) E) := fun _ _ _ _ => (rfl)
theorem u_aOr (t u : ATT) : ∀ as s Q E, aOr t u as s Q E = (t as s (fun c s1 => Br c (Q true s1) (u as s1 Q E) ⟨⟩ ⟨⟩) E) := fun _ _ _ _ => (rfl)
theorem u_aNot (t : ATT) : ∀ as s Q E, aNot t as s Q E = (t as s (fun c s1 => Q (!c) s1) E) := fun _ _ _ _ => (rfl)
theorem u_aAndV (ta tb : ATE) : ∀ as s Q E, aAndV ta tb as s Q E = (ta as s (fun x s1 => opt (truA s1 x) (fun r => Rq r.2 (Br r.1 (tb as s1 Q E) (Q (asB x false) s1) ⟨⟩ ⟨⟩) ⟨⟩) ⟨⟩) E) := fun _ _ _ _ => (rfl)
theorem u_aOrV (ta tb : ATE) : ∀ as s Q E, aOrV ta tb as s Q E = (ta as s (fun x s1 => opt (truA s1 x) (fun r => Rq r.2 (Br r.1 (Q (asB x true) s1) (tb as s1 Q E) ⟨⟩ ⟨⟩) ⟨⟩) ⟨⟩) E) := fun _ _ _ _ => (rfl)
theorem u_aNotV (ta : ATE) : ∀ as s Q E, aNotV ta as s Q E = (ta as s (fun x s1 => opt (truA s1 x) (fun r => Rq r.2 (Q (.bl (!r.1)) s1) ⟨⟩) ⟨⟩) E) := fun _ _ _ _ => (rfl)
theorem u_aIf (t : ATT) (ta tb : ATE) : ∀ as s Q E, aIf t ta tb as s Q E = (t as s (fun c s1 => Br c (ta as s1 Q E) (tb as s1 Q E) ⟨⟩ ⟨⟩) E) := fun _ _ _ _ => (rfl)
theorem u_aChain (f g : AR2) (ta tb tc : ATE) : ∀ as s Q E, aChain f g ta tb tc as s Q E = (ta as s (fun x s1 => tb as s1 (fun y s2 => f x y s2 fun z s3 => opt (blD z) (fun k => Br k (tc as s3 (fun w s4 => g y w s4 Q) E) (Q (.bl false) s3) ⟨⟩ ⟨⟩) ⟨⟩) E) E) := fun _ _ _ _ => (rfl)
theorem u_aLst (t : ATA) : ∀ as s Q E, aLst t as s Q E = (t as s (fun ds s1 => Rq (ds.length ≤ 16777216) (Q (.lst ds) s1) ⟨⟩) E) := fun _ _ _ _ => (rfl)
theorem u_aLstO (t : ATA) : ∀ as s Q E, aLstO t as s Q E = (t as s (fun ds s1 => Rq (ds.length ≤ 16777216) (New s1 (fun p => Q (.ref p) (aup s1 p (.lst ds))) ⟨⟩) ⟨⟩) E) := fun _ _ _ _ => (rfl)
theorem u_aTup (t : ATA) : ∀ as s Q E, aTup t as s Q E = (t as s (fun ds s1 => Rq (ds.length ≤ 16777216) (Q (.tup ds) s1) ⟨⟩) E) := fun _ _ _ _ => (rfl)
theorem u_aDnewK : ∀ v0_ s Q v3_, aDnewK v0_ s Q v3_ = (New s (fun p => Q (.ref p) (aup s p (.dK []))) ⟨⟩) := fun _ _ _ _ => (rfl)
theorem u_aDnewT : ∀ v0_ s Q v3_, aDnewT v0_ s Q v3_ = (New s (fun p => Q (.ref p) (aup s p (.dT []))) ⟨⟩) := fun _ _ _ _ => (rfl)
theorem u_aNext : ∀ A as s, aNext A as s = (A.nx as s) := fun _ _ _ => (rfl)
theorem u_aDrop (a : ATE) : ∀ A as s, aDrop a A as s = (a as s (fun _ s1 => A.nx as s1) (fun c p s1 => A.ex c p as s1)) := fun _ _ _ => (rfl)
theorem u_aRet (a : ATE) : ∀ A as s, aRet a A as s = (a as s A.rt (fun c p s1 => A.ex c p as s1)) := fun _ _ _ => (rfl)
theorem u_aRetN : ∀ A v1_ s, aRetN A v1_ s = (A.rt .non s) := fun _ _ _ => (rfl)
theorem u_aIfS (c : ATT) (t u : ATS) : ∀ A as s, aIfS c t u A as s = (c as s (fun b s1 => Br b (t A as s1) (u A as s1) ⟨⟩ ⟨⟩) (fun c p s1 => A.ex c p as s1)) := fun _ _ _ => (rfl)
theorem u_aBreak : ∀ A as s, aBreak A as s = (A.bk as s) := fun _ _ _ => (rfl)
theorem u_aCont : ∀ A as s, aCont A as s = (A.ct as s) := fun _ _ _ => (rfl)
theorem u_agNil : ∀ ds as s Q, agNil ds as s Q = (Rq (ds = []) (Q as s) ⟨⟩) := fun _ _ _ _ => (rfl)
theorem u_agCons (t : ATG) (u : ATGs) : ∀ ds as s Q, agCons t u ds as s Q = (opt (unc ds) (fun p => t p.1 as s fun as' s' => u p.2 as' s' Q) ⟨⟩) := fun _ _ _ _ => (rfl)
theorem u_agTup (n : Nat) (t : ATGs) : ∀ d as s Q, agTup n t d as s Q = (opt (tupD (view s d)) (fun ds => Rq (ds.length = n) (t ds as s Q) ⟨⟩) ⟨⟩) := fun _ _ _ _ => (rfl)
theorem u_agLst (n : Nat) (t : ATGs) : ∀ d as s Q, agLst n t d as s Q = (opt (lstD (view s d)) (fun ds => Rq (ds.length = n) (t ds as s Q) ⟨⟩) ⟨⟩) := fun _ _ _ _ => (rfl)
theorem u_agSub (to ti : ATE) (f : ASet) : ∀ d as s Q, agSub to ti f d as s Q = (to as s (fun o s1 => ti as s1 (fun i s2 => f o i d s2 fun s3 => Q as s3) noX) noX) := fun _ _ _ _ => (rfl)
theorem u_aPar (i j : Nat) (a : ATA) : ∀ A as s, aPar i j a A as s = (a as s (fun ds s1 => opt (two ds) (fun p => A.nx (setS (setS as i p.1) j p.2) s1) ⟨⟩) (fun c p s1 => A.ex c p as s1)) := fun _ _ _ => (rfl)
theorem u_aFor (wi : ATI) (g : ATG) (tb : ATS) : ∀ A as s, aFor wi g tb A as s = (wi as s (fun ds G s1 => AskFor ds G g tb as s1 A ⟨⟩) (fun c p s1 => A.ex c p as s1)) := fun _ _ _ => (rfl)
theorem u_aWhile (c : ATT) (tb : ATS) : ∀ A as s, aWhile c tb A as s = (AskWhile c tb as s A ⟨⟩) := fun _ _ _ => (rfl)
theorem u_aiAny (a : ATE) : ∀ as s Q E, aiAny a as s Q E = (a as s (fun x s1 => opt (iterD s1 x) (fun r => Q r.1 r.2 s1) ⟨⟩) E) := fun _ _ _ _ => (rfl)
theorem u_aiEnum (a : ATA) : ∀ as s Q E, aiEnum a as s Q E = (a as s (fun xs s1 => opt ((one xs).bind (iterL s1)) (fun r => Q (enumD r.1) r.2 s1) ⟨⟩) E) := fun _ _ _ _ => (rfl)
theorem u_aiRev (a : ATA) : ∀ as s Q E, aiRev a as s Q E = (a as s (fun xs s1 => opt ((one xs).bind (iterL s1)) (fun r => Q r.1.reverse r.2 s1) ⟨⟩) E) := fun _ _ _ _ => (rfl)
theorem u_aiZip (a : ATA) : ∀ as s Q E, aiZip a as s Q E = (a as s (fun xs s1 => opt (two2 s1 xs) (fun r => Q (zipD r.1.1 r.2.1) (fun s => r.1.2 s ∧ r.2.2 s) s1) ⟨⟩) E) := fun _ _ _ _ => (rfl)
theorem u_aiRng1 (a : ATA) : ∀ as s Q E, aiRng1 a as s Q E = (a as s (fun xs s1 => opt (int1 xs) (fun j => Rq (RgOk1 j) (Q (rng 0 j.toNat) tt_ s1) ⟨⟩) ⟨⟩) E) := fun _ _ _ _ => (rfl)
theorem u_aiRng2 (a : ATA) : ∀ as s Q E, aiRng2 a as s Q E = (a as s (fun xs s1 => opt (int2 xs) (fun r => Rq (RgOk1 r.1 ∧ RgOk1 r.2) (Q (rng r.1 (r.2 - r.1).toNat) tt_ s1) ⟨⟩) ⟨⟩) E) := fun _ _ _ _ => (rfl)
theorem u_aiRng3 (a : ATA) : ∀ as s Q E, aiRng3 a as s Q E = (a as s (fun xs s1 => opt (rgOf3 xs) (fun r => ∃ n, RgC r.1 r.2.1 r.2.2 n ∧ Q (rngC r.1 r.2.2 n) tt_ s1) ⟨⟩) E) := fun _ _ _ _ => (rfl)
theorem u_aLc (wi : ATI) (g : ATG) (tt : ATT) (te : ATE) (vs : List Nat) : ∀ as s Q E, aLc wi g tt te vs as s Q E = (wi as s (fun ds G s1 => AskLc ds G g tt te (wipeA as vs) s1 Q ⟨⟩) E) := fun _ _ _ _ => (rfl)
theorem u_aYes : ∀ v0_ s Q v3_, aYes v0_ s Q v3_ = (Q true s) := fun _ _ _ _ => (rfl)
theorem u_aNoPart : ∀ v0_ s Q v3_, aNoPart v0_ s Q v3_ = (Q none s) := fun _ _ _ _ => (rfl)
theorem u_aPart (a : ATE) : ∀ as s Q E, aPart a as s Q E = (a as s (fun x s1 => opt (intD x) (fun i => Q (some i) s1) ⟨⟩) E) := fun _ _ _ _ => (rfl)
theorem u_aSl (a : ATE) (lo hi : ATO) : ∀ as s Q E, aSl a lo hi as s Q E = (a as s (fun x s1 => lo as s1 (fun l s2 => hi as s2 (fun u s3 => opt (slD (view s3 x) l u) (fun r => Rq r.2 (Q r.1 s3) ⟨⟩) ⟨⟩) E) E) E) := fun _ _ _ _ => (rfl)
theorem u_aCall (f : ASp) (a : ATA) : ∀ as s Q E, aCall f a as s Q E = (a as s (fun ds s1 => Ask f ds s1 Q E ⟨⟩ ⟨⟩) E) := fun _ _ _ _ => (rfl)
theorem u_aMeth (K : PySem.W.Frag) (C : Addr) (ns : List Str) (f : ASp) (o : ATE) (a : ATA) : ∀ as s Q E, aMeth K C ns f o a as s Q E = (o as s (fun x s1 => Rq (Recv K C ns s1 x) (a as s1 (fun ds s2 => Ask f (x :: ds) s2 Q E ⟨⟩ ⟨⟩) E) ⟨⟩) E) := fun _ _ _ _ => (rfl)
theorem u_aMake (C : Addr) (f : ASp) (a : ATA) : ∀ as s Q E, aMake C f a as s Q E = (a as s (fun ds s1 => ∀ x dx, s1 x = none → Ask f (.ref x :: ds) (aup s1 x (.ins C dx [])) (fun d s2 => d = .non ∧ Q (.ref x) s2) (fun _ _ _ => False) ⟨⟩ ⟨⟩) E) := fun _ _ _ _ => (rfl)
theorem u_aFld (C : Addr) (f : Str) (o : ATE) : ∀ as s Q E, aFld C f o as s Q E = (o as s (fun x s1 => opt (fldA f s1 x) (fun r => Rq (r.1 = C) (Q r.2 s1) ⟨⟩) ⟨⟩) E) := fun _ _ _ _ => (rfl)
theorem u_aSFld (C : Addr) (f : Str) (o v : ATE) : ∀ A as s, aSFld C f o v A as s = (v as s (fun y s1 => o as s1 (fun x s2 => opt (insA s2 x) (fun r => Rq (r.2.1 = C ∧ r.2.2.2.length < 1000) (A.nx as (aup s2 r.1 (.ins C r.2.2.1 (putFA f y r.2.2.2)))) ⟨⟩) ⟨⟩) (fun c p s1 => A.ex c p as s1)) (fun c p s1 => A.ex c p as s1)) := fun _ _ _ => (rfl)
theorem u_aRaise (C : Addr) : ∀ A as s, aRaise C A as s = (A.ex (.ref C) none as s) := fun _ _ _ => (rfl)
theorem u_aTryOnly (K : PySem.W.Frag) (C : Value) (t u : ATS) : ∀ A as s, aTryOnly K C t u A as s = (t { A with ex := fun c od as' s' => opt (PySem.W.exmOne K c C) (fun b => Br b (u { A with ex := fun _ _ _ _ => False } as' s') (A.ex c od as' s') ⟨⟩ ⟨⟩) ⟨⟩ } as s) := fun _ _ _ => (rfl)
theorem u_aTryAs (K : PySem.W.Frag) (C : Value) (i : Nat) (t : ATS) (u : Addr → Value → Option Addr → ATS) : ∀ A as s, aTryAs K C i t u A as s = (t { A with ex := fun c od as' s' => opt (PySem.W.exmOne K c C) (fun b => Br b (∀ a, u a c od { nx := fun as2 s2 => A.nx (forS as2 i) s2, rt := A.rt, bk := fun as2 s2 => A.bk (forS as2 i) s2, ct := fun as2 s2 => A.ct (forS as2 i) s2, ex := fun _ _ _ _ => False } (setS as' i (.ref a)) s') (A.ex c od as' s') ⟨⟩ ⟨⟩) ⟨⟩ } as s) := fun _ _ _ => (rfl)
theorem u_aBM (f : ARM) (a : ATE) (b : ATA) : ∀ as s Q E, aBM f a b as s Q E = (a as s (fun x s1 => Rq (IsLs s1 x) (b as s1 (fun ys s2 => f x ys s2 Q) E) ⟨⟩) E) := fun _ _ _ _ => (rfl)
theorem u_aSM (f : FS) (a b : ATE) : ∀ as s Q E, aSM f a b as s Q E = (a as s (fun x s1 => opt (strD x) (fun z => b as s1 (fun y s2 => f z y s2 Q) E) ⟨⟩) E) := fun _ _ _ _ => (rfl)
theorem u_bOp (f : F2) : ∀ x y s Q, bOp f x y s Q = (opt (f (view s x) (view s y)) (fun r => Rq r.2 (Q r.1 s) ⟨⟩) ⟨⟩) := fun _ _ _ _ => (rfl)
theorem u_bOpH (f : F2) : ∀ x y s Q, bOpH f x y s Q = (opt (f (viewH s x) (viewH s y)) (fun r => Rq r.2 (Q r.1 s) ⟨⟩) ⟨⟩) := fun _ _ _ _ => (rfl)
theorem u_bOpS (f : FS2) : ∀ x y s Q, bOpS f x y s Q = (opt (f s x y) (fun r => Rq r.2 (Q r.1 s) ⟨⟩) ⟨⟩) := fun _ _ _ _ => (rfl)
theorem u_bL (f : FL) : ∀ xs s Q, bL f xs s Q = (opt (f s xs) (fun r => Rq r.2 (Q r.1 s) ⟨⟩) ⟨⟩) := fun _ _ _ => (rfl)
theorem u_bLen : ∀ xs s Q, bLen xs s Q = (opt (one xs) (fun x => opt (lenX s x) (fun r => Rq r.2 (Q (.int r.1) s) ⟨⟩) ⟨⟩) ⟨⟩) := fun _ _ _ => (rfl)
theorem u_bListO : ∀ xs s Q, bListO xs s Q = (opt ((vw1 s xs).bind seqV) (fun ds => New s (fun p => Q (.ref p) (aup s p (.lst ds))) ⟨⟩) ⟨⟩) := fun _ _ _ => (rfl)
theorem u_bDict : ∀ xs s Q, bDict xs s Q = (opt (dkA s xs) (fun kvs => New s (fun p => Q (.ref p) (aup s p (.dK kvs))) ⟨⟩) ⟨⟩) := fun _ _ _ => (rfl)
theorem u_bSortI : ∀ xs s Q, bSortI xs s Q = (opt ((lst1 s xs).bind intsD) (fun ns => ∀ ms : List Int, ms.Perm ns → ms.Pairwise (· ≤ ·) → Q (.lst (ms.map D.int)) s) ⟨⟩) := fun _ _ _ => (rfl)
theorem u_negD : ∀ x s Q, negD x s Q = (opt (intD x) (fun i => Q (.int (-i)) s) ⟨⟩) := fun _ _ _ => (rfl)
theorem u_mAppend : ∀ x ys s Q, mAppend x ys s Q = (opt (ownL s x) (fun p => opt (one ys) (fun y => Rq (p.2.length < 16777216) (Q .non (aup s p.1 (.lst (p.2 ++ [y])))) ⟨⟩) ⟨⟩) ⟨⟩) := fun _ _ _ _ => (rfl)
theorem u_mExtend : ∀ x ys s Q, mExtend x ys s Q = (opt (ownL s x) (fun p => opt ((one ys).bind fun y => lstV (viewH s y)) (fun es => Rq (p.2.length + es.length ≤ 16777216) (Q .non (aup s p.1 (.lst (p.2 ++ es)))) ⟨⟩) ⟨⟩) ⟨⟩) := fun _ _ _ _ => (rfl)
theorem u_mPop : ∀ x ys s Q, mPop x ys s Q = (opt (ownL s x) (fun p => opt (nil0 ys) (fun _ => opt p.2.getLast? (fun y => Q y (aup s p.1 (.lst p.2.dropLast))) ⟨⟩) ⟨⟩) ⟨⟩) := fun _ _ _ _ => (rfl)
theorem u_mPopAt : ∀ x ys s Q, mPopAt x ys s Q = (opt (ownL s x) (fun p => opt (int1 ys) (fun i => Rq (-(2 ^ 63) ≤ i ∧ i < 2 ^ 63) (opt (seqIndex? i p.2.length) (fun k => opt p.2[k]? (fun y => Q y (aup s p.1 (.lst (p.2.eraseIdx k)))) ⟨⟩) ⟨⟩) ⟨⟩) ⟨⟩) ⟨⟩) := fun _ _ _ _ => (rfl)
theorem u_mReverse : ∀ x ys s Q, mReverse x ys s Q = (opt (ownL s x) (fun p => opt (nil0 ys) (fun _ => Q .non (aup s p.1 (.lst p.2.reverse))) ⟨⟩) ⟨⟩) := fun _ _ _ _ => (rfl)
theorem u_mClear : ∀ x ys s Q, mClear x ys s Q = (opt (ownL s x) (fun p => opt (nil0 ys) (fun _ => Q .non (aup s p.1 (.lst []))) ⟨⟩) ⟨⟩) := fun _ _ _ _ => (rfl)
theorem u_mInsert : ∀ x ys s Q, mInsert x ys s Q = (opt (ownL s x) (fun p => opt (ins2 ys) (fun r => Rq (p.2.length < 16777216 ∧ 0 ≤ r.1 ∧ r.1 < 2 ^ 63) (Q .non (aup s p.1 (.lst (p.2.take r.1.toNat ++ [r.2] ++ p.2.drop r.1.toNat)))) ⟨⟩) ⟨⟩) ⟨⟩) := fun _ _ _ _ => (rfl)
theorem u_mIndex : ∀ x ys s Q, mIndex x ys s Q = (opt (lstV (view s x)) (fun ds => opt (one ys) (fun y => Rq (y.flat = true ∧ ds.all D.flat = true ∧ (ds.any fun d => deq d y) = true) (Q (.int (ds.findIdx fun d => deq d y)) s) ⟨⟩) ⟨⟩) ⟨⟩) := fun _ _ _ _ => (rfl)
theorem u_sJoin : ∀ z y s Q, sJoin z y s Q = (opt ((lstV (view s y)).bind strsD) (fun zs => Rq ((zs.map List.length).sum + zs.length * z.length ≤ 16777216) (Q (.str (TL.joinL z zs)) s) ⟨⟩) ⟨⟩) := fun _ _ _ _ => (rfl)
theorem u_notA (f : FS2) : ∀ s x y, notA f s x y = ((f s x y).map fun r => (r.1.neg, r.2)) := fun _ _ _ => (rfl)
theorem u_absX : ∀ v0_ xs, absX v0_ xs = ((int1 xs).map fun i => (.int (if i < 0 then -i else i), True)) := fun _ _ => (rfl)
theorem u_intX : ∀ v0_ xs, intX v0_ xs = ((intC xs).map fun i => (.int i, True)) := fun _ _ => (rfl)
theorem u_strX : ∀ v0_ xs, strX v0_ xs = ((int1 xs).map fun i => (.str (numS i), i.natAbs.log2 < 1920)) := fun _ _ => (rfl)
theorem u_sumX : ∀ s xs, sumX s xs = (((lst1 s xs).bind intsD).map fun ns => (.int ns.sum, True)) := fun _ _ => (rfl)
theorem u_allX : ∀ s xs, allX s xs = (((lst1 s xs).bind blsD).map fun ns => (.bl (ns.all id), True)) := fun _ _ => (rfl)
theorem u_anyX : ∀ s xs, anyX s xs = (((lst1 s xs).bind blsD).map fun ns => (.bl (ns.any id), True)) := fun _ _ => (rfl)
theorem u_listX : ∀ s xs, listX s xs = (((vw1 s xs).bind seqV).map fun ds => (.lst ds, True)) := fun _ _ => (rfl)
theorem u_isiX : ∀ s xs, isiX s xs = ((tyN xs).bind fun p => (tyA s p.1).bind fun t => (kitN t p.2).map fun b => (.bl b, True)) := fun _ _ => (rfl)
theorem u_noX : ∀ v0_ v1_ v2_, noX v0_ v1_ v2_ = (False) := fun _ _ _ => (rfl)
theorem u_enx {Q E as s} : (endsA Q E).nx as s = CvR Q .non s := (rfl)
theorem u_ert {Q E d s} : (endsA Q E).rt d s = CvR Q d s := (rfl)
theorem u_eex {Q E c od as s} : (endsA Q E).ex c od as s = ∃ s2, Le s2 s ∧ E c od s2 := (rfl)
theorem u_snx {C x s0 Q E as s} : (endsSh C x s0 Q E).nx as s = ShR C x s0 s (Q .non) := (rfl)
theorem u_srt {C x s0 Q E d s} : (endsSh C x s0 Q E).rt d s = ShR C x s0 s (Q d) := (rfl)
theorem u_sex {C x s0 Q E c od as s} : (endsSh C x s0 Q E).ex c od as s = ShR C x s0 s (E c od) := (rfl)
end Sk
namespace Sk
open PySem PySem.Spec PyProof.Rows L2
/-! ### a hook with facts of one's own -/
abbrev Exs := List (PySem.W.Frag → Bool)
def obsX (fa : List He.Fa) (fn : List He.DefD) (exs : Exs) (K : PySem.W.Frag) : Bool × He.AlD := (exs.all fun f => f K, He.obsD fa fn K)
def SaysX (fa : List He.Fa) (fn : List He.DefD) (exs : Exs) (K : PySem.W.Frag) : Prop := obsX fa fn exs K = (true, He.valD fn)
def obsXG (n : Nat) (fa : List He.Fa) (fn : List He.DefD) (exs : Exs) (g : Addr → Option Obj) : Bool × He.AlD := obsX fa fn exs (He.frG g (He.asD g n))
def hookX (n : Nat) (fa : List He.Fa) (fn : List He.DefD) (exs : Exs) : PySem.W.Hook where
  α := Bool × He.AlD
  obs := fun s => obsXG n fa fn exs s.heap.get?
  val := fun _ => (true, He.valD fn)
  says := fun _ h => ∃ K : PySem.W.Frag, K.In h ∧ SaysX fa fn exs K
  of := fun _ _ e => ⟨_, He.frG_in, e⟩
  keeps := fun _ _ _ ⟨K, hK, c⟩ k => ⟨K, PySem.W.Frag.In.keeps hK k, c⟩
theorem obsXG_eq {n : Nat} {fa : List He.Fa} {fn : List He.DefD} {exs : Exs} {g : Addr → Option Obj} {s : Shared} (h : ∀ a, g a = s.heap.get? a) : obsXG n fa fn exs g = (hookX n fa fn exs).obs s := by
  have e : g = s.heap.get? := funext h
  rw [e] <;> rfl
theorem SaysX.d {fa : List He.Fa} {fn : List He.DefD} {exs : Exs} {K : PySem.W.Frag} (c : SaysX fa fn exs K) : He.SaysD fa fn K := congrArg (fun z : Bool × He.AlD => z.2) c
theorem SaysX.ex {fa : List He.Fa} {fn : List He.DefD} {exs : Exs} {K : PySem.W.Frag} (c : SaysX fa fn exs K) (i : Nat) {f : PySem.W.Frag → Bool} (h : exs[i]? = some f := by rfl) : f K = true := by
  have c1 : (exs.all fun f => f K) = true := congrArg (fun z : Bool × He.AlD => z.1) c
  exact List.all_eq_true.mp c1 f (List.mem_of_getElem? h)
end Sk
namespace Sk
open PySem PySem.Spec PyProof.Rows L2
/-! ### facts of errors -/
def xBool (x : Str) (K : PySem.W.Frag) : Bool :=
  He.eqO (PySem.W.findIn K (.ref (He.ga K x)) "__getattribute__") (some (some (.builtin "BaseException.__getattribute__"))) && (He.eqO (PySem.W.findIn K (.ref (He.ga K x)) "__getattr__") (some none) && (decide (PySem.W.subIn K (.ref (He.ga K x)) (.type "BaseException") = some true) && (PySem.W.hasDictIn K (He.ga K x) &&
  (He.eqO (PySem.W.findIn K (.ref (He.ga K x)) "__class__") (some (some (.builtin "object.__class__"))) && (He.eqO (PySem.W.specialIn K (.builtin "object.__class__") "__get__") (some (some (.builtin "getset_descriptor.__get__"))) && (decide (PySem.W.takesIn K (.builtin "object.__class__") = some true) && decide (PySem.W.mroIn K (He.ga K x) (.type "object") = some true)))))))
theorem xBool_ok {x : Str} {K : PySem.W.Frag} (h : xBool x K = true) : ExcC K (He.ga K x) := by
  obtain ⟨h1, h⟩ := He.ba h
  obtain ⟨h2, h⟩ := He.ba h
  obtain ⟨h3, h⟩ := He.ba h
  obtain ⟨h4, h⟩ := He.ba h
  obtain ⟨h5, h⟩ := He.ba h
  obtain ⟨h6, h⟩ := He.ba h
  obtain ⟨h7, h8⟩ := He.ba h
  exact ⟨He.eqO_ok h1, He.eqO_ok h2, of_decide_eq_true h3, h4, He.eqO_ok h5, He.eqO_ok h6, of_decide_eq_true h7, of_decide_eq_true h8⟩
def xKit (x y : Str) (b : Bool) (K : PySem.W.Frag) : Bool := decide (PySem.W.kitOne K (.ref (He.ga K x)) (.ref (He.ga K y)) = some b)
def xKitB (x : Str) (n : String) (b : Bool) (K : PySem.W.Frag) : Bool := decide (PySem.W.kitOne K (.ref (He.ga K x)) (.type n) = some b)
def xExm (x y : Str) (b : Bool) (K : PySem.W.Frag) : Bool := decide (PySem.W.exmOne K (.ref (He.ga K x)) (.ref (He.ga K y)) = some b)
def xExmB (x : Str) (n : String) (b : Bool) (K : PySem.W.Frag) : Bool := decide (PySem.W.exmOne K (.ref (He.ga K x)) (.type n) = some b)
end Sk
namespace Sk
open PySem PySem.Spec PyProof.Rows L2
/-! ### isinstance of the error that is held -/
def rIsEX (K : PySem.W.Frag) (D a : Addr) : List V → Hp → VK → Prop := fun xs H Q => ∃ (c : V) (b : Bool), xs = [.ref a, c] ∧ ((∃ cv, ClsV c cv ∧ PySem.W.kitOne K (.ref D) cv = some b) ∨ ∃ tp cs us, c = .ref tp ∧ H tp = some (.tup cs) ∧ Paired ClsV cs us ∧ PySem.W.kitAny K (.ref D) us = some b) ∧ Q (.bl b) H
theorem call_isEX {X : Cx} {a D : Addr} {oe : Obj} {pn : List (Addr × Obj)} (C : ExcC X.K D) (hz : Zc (.ref D) none oe) (hf : ∃ vs, oe.data = .fields vs) : CallR (X.suite a ((a, oe) :: pn)) (.builtin "isinstance") (rIsEX X.K D a) := by
  intro pins s σ H xs us Q I r h
  obtain ⟨c, b, rfl, hcv, q⟩ := h
  cases r with
  | cons rx rr =>
    cases rr with
    | cons rt rr =>
      cases rr
      cases rx
      obtain ⟨hget, _⟩ := I.pin (a, oe) (List.mem_append.mpr (.inl List.mem_cons_self))
      obtain ⟨vs, hv⟩ := hf
      have J : PySem.W.InstAt s.heap a oe D none := by
        obtain ⟨oc, od, oda, osl⟩ := oe
        obtain ⟨h1, h2⟩ := hz
        dsimp only at h1 h2 hv
        subst h1 h2 hv
        exact ⟨hget, rfl, rfl, trivial⟩
      rcases hcv with ⟨cv, k, e⟩ | ⟨tp, cs, ws, rfl, hT, k, e⟩
      · have ec := k.eq rt
        subst ec
        exact PySem.W.kia_one (PySem.W.handS_kitx_exc C.hg C.hk C.hs C.hd C.ha C.hn C.ht C.hm) I.kIn J e (fun z => nomatch z) fun tk => ⟨.bl b, H, I.kept (t' := tk) fun _ _ z => z, rfl, q⟩
      · cases rt
        obtain ⟨_, its, rv, o, h1, h2, n, h3⟩ := (show ObjOk X.prog X.w H s.heap tp (.tup cs) from I.hok tp _ hT)
        have e3 := ClsV.all k rv
        subst e3
        obtain ⟨oc, od, dt, sl⟩ := o
        simp only at h2 h3
        subst h2 h3
        exact PySem.W.kia_tup (PySem.W.handS_kitx_exc C.hg C.hk C.hs C.hd C.ha C.hn C.ht C.hm) I.kIn J h1 e (fun z => nomatch z) fun tk => ⟨.bl b, H, I.kept (t' := tk) fun _ _ z => z, rfl, q⟩
def clsVD : D → Option Value
  | .ref C => some (.ref C)
  | .ty n => some (.type n)
  | _ => none
def clsVs : List D → Option (List Value)
  | [] => some []
  | d :: r => match clsVD d with
    | some v => (clsVs r).map (v :: ·)
    | none => none
def isED (K : PySem.W.Frag) (a0 D0 : Addr) : List D → Option Bool
  | [.ref a, .tup cs] => if a = a0 then (clsVs cs).bind (PySem.W.kitAny K (.ref D0)) else none
  | [.ref a, c] => if a = a0 then (clsVD c).bind (PySem.W.kitOne K (.ref D0)) else none
  | _ => none
theorem clsVD_ok {K : PySem.W.Frag} {H : Hp} {N : Addr → Prop} {d : D} {v : V} {u : Value} (r : Rp K H N d v) (e : clsVD d = some u) : ClsV v u := by
  cases r <;> first | (cases e; exact .own _) | (cases e; exact .ty _) | cases e
theorem clsVs_ok {K : PySem.W.Frag} {H : Hp} {N : Addr → Prop} : ∀ {ds : List D} {vs : List V} {us : List Value}, Rps K H N ds vs → clsVs ds = some us → Paired ClsV vs us
  | [], _, _, .nil, e => by cases e; exact .nil
  | d :: r, _, _, .cons h t, e => by
    unfold clsVs at e
    split at e
    · rename_i v ev
      obtain ⟨us, eu, rfl⟩ := Option.map_eq_some_iff.mp e
      exact .cons (clsVD_ok h ev) (clsVs_ok t eu)
    · cases e
def aIsX (K : PySem.W.Frag) (a0 : Addr) (cls : Value) (od : Option Addr) (t : ATA) : ATE := fun as s Q E => ∃ D0, cls = .ref D0 ∧ od = none ∧ ExcC K D0 ∧ t as s (fun xs s1 => opt (isED K a0 D0 xs) (fun b => Q (.bl b) s1) ⟨⟩) E
theorem ae_isX {X : Cx} {W : WX} {a : Addr} {oe : Obj} {pn : List (Addr × Obj)} {cls : Value} {od : Option Addr} {K : PySem.W.Frag} {e : Expr} {es : List Expr} {t : ATA} {p pos : Pos} (hK : K = X.K) (hz : Zc cls od oe) (hf : ∃ vs, oe.data = .fields vs) (hm : (X.suite a ((a, oe) :: pn)).mg "isinstance" = none) (ha : AA (X.suite a ((a, oe) :: pn)) W (e :: es) t) (hg : Gl (X.suite a ((a, oe) :: pn)) "isinstance" := by rfl)
    (he : starEach (e :: es) (X.suite a ((a, oe) :: pn)).env = (false, eval e (X.suite a ((a, oe) :: pn)).env) :: starEach es (X.suite a ((a, oe) :: pn)).env := by rfl) (hpl : (backTo pos (starEach es (X.suite a ((a, oe) :: pn)).env)).any (·.1) = false := by rfl) :
    AE (X.suite a ((a, oe) :: pn)) W (.Call (.Name "isinstance" p) (e :: es) [] pos) (aIsX K a cls od t) := by
  subst hK
  refine ⟨⟨fun pins s σ H Qc I q => ?_⟩⟩
  obtain ⟨Z, as, s1, Q, E, R, ⟨D0, rfl, rfl, C, q⟩, L, LX⟩ := q
  refine (pe_callB (call_isEX C hz hf) hg hm bt_isinstance ha.pa (by decide) (by decide) he hpl).run pins s σ H Qc I ?_
  show concA X.K W t σ H fun vs H1 => rIsEX X.K D0 a vs H1 Qc
  refine conc_bindA (Q1 := fun xs s1 => opt (isED X.K a D0 xs) (fun b => Q (.bl b) s1) ⟨⟩) R LX q fun xs s2 vs H1 R1 r1 f1 L1 q1 => ?_
  obtain ⟨b, eb, q2⟩ := opt_of q1
  have fin : Qc (.bl b) H1 := L (.bl b) s2 (.bl b) H1 R1.rep (.bl b) f1 q2
  unfold isED at eb
  split at eb
  · split at eb
    · rename_i a' cs ea
      subst ea
      obtain ⟨us, e1, e2⟩ := Option.bind_eq_some_iff.mp eb
      cases r1 with
      | cons h1 t1 =>
        cases h1
        cases t1 with
        | cons h2 t2 =>
          cases t2
          cases h2 with
          | tup hp n rs => exact ⟨_, b, rfl, .inr ⟨_, _, us, rfl, hp, clsVs_ok rs e1, e2⟩, fin⟩
    · cases eb
  · split at eb
    · rename_i a' c _ ea
      subst ea
      obtain ⟨u, e1, e2⟩ := Option.bind_eq_some_iff.mp eb
      cases r1 with
      | cons h1 t1 =>
        cases h1
        cases t1 with
        | cons h2 t2 =>
          cases t2
          exact ⟨_, b, rfl, .inl ⟨u, clsVD_ok h2 e1, e2⟩, fin⟩
    · cases eb
  · cases eb
end Sk
namespace Sk
open PySem PySem.Spec PyProof.Rows L2
def p_law : ASp
  | [.scr ds], _, Q, _ => (∃ ns : List Int, ds = ns.map .int ∧ ns.length ≤ 63) ∧ ∀ s', Q (.bl true) s'
  | _, _, _, _ => False
theorem law_spA {K : PySem.W.Frag} {vs : List V} {H : Hp} {Q : VK} {E : XK} (h : spLaw K vs H Q E) : spA K p_law vs H Q E := by
  obtain ⟨a, ns, rfl, hq, hl, k⟩ := h
  have no : ∀ x, ¬ Ow (fun _ => False) (fun _ => none) x := fun x z => by
    rcases z with ⟨_, _, e, _⟩ | z
    · cases e
    · exact z
  refine ⟨fun _ => False, [.scr (ns.map .int)], fun _ => none, fun d _ => d = .bl true, fun _ _ _ => False, ⟨fun _ z => z.elim, fun _ _ e => (nomatch e), fun _ _ _ _ e => (nomatch e)⟩, .one (.scr ?_ (rpsIn ns)), ⟨⟨ns, rfl, hl⟩, fun _ => rfl⟩, fun d s' v H' R r f q => ?_, fun _ _ _ _ _ _ z => z.elim⟩
  · rcases hq with hq | hq
    · exact .inl ⟨hq, no a⟩
    · exact .inr hq
  · subst q
    cases r
    exact k H'
theorem fnW {CX : CXT} {P : Program} {w : World} {K : PySem.W.Frag} {mg : Str → Option Value} {base : Heap} {k : Nat} {f : Addr} {fd : FuncData} {ps : List Str} {sp sp' : Sp} (F : FnOk P w K mg base CX k f fd ps sp') (h : ∀ vs H Q E, sp vs H Q E → sp' vs H Q E) : FnOk P w K mg base CX k f fd ps sp :=
  ⟨fun vs H Q E z => F.len vs H Q E (h _ _ _ _ z), fun A outer s H args us vs Q E hr he hb hv hs => F.run A outer s H args us vs Q E hr he hb hv (h _ _ _ _ hs)⟩
theorem u_aIsX (K : PySem.W.Frag) (a0 : Addr) (cls : Value) (od : Option Addr) (t : ATA) : ∀ as s Q E, aIsX K a0 cls od t as s Q E = (∃ D0, cls = .ref D0 ∧ od = none ∧ ExcC K D0 ∧ t as s (fun xs s1 => opt (isED K a0 D0 xs) (fun b => Q (.bl b) s1) ⟨⟩) E) := fun _ _ _ _ => (rfl)
theorem dc_True : dc True = true := dc_t trivial
theorem dc_False : dc False = false := dc_f id
theorem isED_r {K : PySem.W.Frag} {a D0 C : Addr} : isED K a D0 [.ref a, .ref C] = PySem.W.kitOne K (.ref D0) (.ref C) := by show (if a = a then _ else _) = _; rw [if_pos rfl]; rfl
theorem isED_y {K : PySem.W.Frag} {a D0 : Addr} {n : String} : isED K a D0 [.ref a, .ty n] = PySem.W.kitOne K (.ref D0) (.type n) := by show (if a = a then _ else _) = _; rw [if_pos rfl]; rfl
theorem isED_t {K : PySem.W.Frag} {a D0 : Addr} {cs : List D} : isED K a D0 [.ref a, .tup cs] = (clsVs cs).bind (PySem.W.kitAny K (.ref D0)) := by show (if a = a then _ else _) = _; rw [if_pos rfl]
theorem clsVs_0 : clsVs [] = some [] := rfl
theorem clsVs_r {C : Addr} {r : List D} : clsVs (.ref C :: r) = (clsVs r).map (.ref C :: ·) := rfl
theorem clsVs_y {n : String} {r : List D} : clsVs (.ty n :: r) = (clsVs r).map (.type n :: ·) := rfl
theorem kitAny_0 {K : PySem.W.Frag} {t : Value} : PySem.W.kitAny K t [] = some false := rfl
theorem kitAny_f {K : PySem.W.Frag} {t c : Value} {r : List Value} (h : PySem.W.kitOne K t c = some false) : PySem.W.kitAny K t (c :: r) = PySem.W.kitAny K t r := by
  show (match PySem.W.kitOne K t c with | some true => some true | some false => PySem.W.kitAny K t r | none => none) = _
  rw [h]
theorem kitAny_t {K : PySem.W.Frag} {t c : Value} {r : List Value} (h : PySem.W.kitOne K t c = some true) : PySem.W.kitAny K t (c :: r) = some true := by
  show (match PySem.W.kitOne K t c with | some true => some true | some false => PySem.W.kitAny K t r | none => none) = _
  rw [h]
theorem isx_in {K : PySem.W.Frag} {C : Addr} {A : Addr → Prop} (h : ExcC K C) (k : A C) : ∃ D0, Value.ref C = Value.ref D0 ∧ ExcC K D0 ∧ A D0 := ⟨C, rfl, h, k⟩
theorem leafL_t : (leafL = [108, 101, 97, 102]) = True := eq_true rfl
theorem leafL_f : (leafL = [102, 111, 114, 107]) = False := eq_false (by decide)
theorem forkL_t : (forkL = [102, 111, 114, 107]) = True := eq_true rfl
theorem forkL_f : (forkL = [108, 101, 97, 102]) = False := eq_false (by decide)
theorem bt_ValueError : bootBuiltins "ValueError" = some (.type "ValueError") := by decide +kernel
end Sk
namespace Sk
open PySem PySem.Spec PyProof.Rows L2
/-! ### defs that call themselves: as deep as n -/
def recP (p : Nat → ASp) : Nat → ASp
  | 0 => fun _ _ _ _ => False
  | n + 1 => p n
theorem recP_s {p : Nat → ASp} {n : Nat} : recP p (n + 1) = p n := rfl
section
variable {P : Program} {w : World} {K : PySem.W.Frag} {mg : Str → Option Value} {base : Heap} {k : Nat} {x c m qual : Str} {args : Arguments} {body : List Stmt} {sc : Scope} {ps : List Str} {p : Nat → ASp}
theorem calF (F : ∃ fd, FunD K x qual args body sc [] [] (He.fAd K (x, none)) fd) (g : mg x = some (.ref (He.ga K x)))
    (b : ∀ (kV doc pm : Value) (an : Option Addr) (cdv ct : Value) (us : List Value), us.length = ps.length → bindArgs (PySem.W.fnOf x qual args body sc .none kV doc pm an cdv ct) ⟨us, []⟩ = pure (ps.zip us)) : Cal P w K mg base k x ps (spA K (recP p 0)) := by
  obtain ⟨fd, F⟩ := F
  exact ⟨⟨fd, ⟨fun vs H Q E ⟨_, _, _, _, _, _, _, z, _⟩ => z.elim, fun A outer s H args us vs Q E hr he hb hv ⟨_, _, _, _, _, _, _, z, _⟩ => z.elim⟩, F.bindsN b, .of F⟩, g, F.kp⟩
theorem calMF (F : ∃ fd, FunD K m qual args body sc [] [] (He.fAd K (c, some m)) fd) (cl : Cls K (He.ga K c)) (me : Meth K (He.ga K c) m (He.ma K (He.ga K c) m))
    (b : ∀ (kV doc pm : Value) (an : Option Addr) (cdv ct : Value) (us : List Value), us.length = ps.length → bindArgs (PySem.W.fnOf m qual args body sc .none kV doc pm an cdv ct) ⟨us, []⟩ = pure (ps.zip us)) : CalM P w K mg base k c m ps (spA K (recP p 0)) := by
  obtain ⟨fd, F⟩ := F
  exact ⟨⟨fd, ⟨fun vs H Q E ⟨_, _, _, _, _, _, _, z, _⟩ => z.elim, fun A outer s H args us vs Q E hr he hb hv ⟨_, _, _, _, _, _, _, z, _⟩ => z.elim⟩, F.bindsN b⟩, cl, me⟩
end
end Sk
namespace Sk
open PySem PySem.Spec PyProof.Rows L2
/-! ### likeness of plain things, told by rows -/
section
variable {ds es : List D} {d e : D} {i j : Int} {y z : List Nat} {b c : Bool}
theorem deq_ll : deq (.lst (d :: ds)) (.lst (e :: es)) = (deq d e && deq (.lst ds) (.lst es)) := rfl
theorem deq_l0 : deq (.lst []) (.lst []) = true := rfl
theorem deq_l1 : deq (.lst (d :: ds)) (.lst []) = false := rfl
theorem deq_l2 : deq (.lst []) (.lst (e :: es)) = false := rfl
theorem deq_tt : deq (.tup (d :: ds)) (.tup (e :: es)) = (deq d e && deq (.tup ds) (.tup es)) := rfl
theorem deq_t0 : deq (.tup []) (.tup []) = true := rfl
theorem deq_t1 : deq (.tup (d :: ds)) (.tup []) = false := rfl
theorem deq_t2 : deq (.tup []) (.tup (e :: es)) = false := rfl
theorem deq_lt : deq (.lst ds) (.tup es) = false := rfl
theorem deq_tl : deq (.tup ds) (.lst es) = false := rfl
theorem deq_ii : deq (.int i) (.int j) = decide (i = j) := rfl
theorem deq_bb : deq (.bl b) (.bl c) = decide (b = c) := by cases b <;> cases c <;> rfl
theorem deq_nn : deq .non .non = true := rfl
theorem ofL_beq : (ofL y == ofL z) = decide (y = z) := by
  by_cases h : y = z
  · subst h; simp
  · have : ¬ ofL y = ofL z := fun k => h (ofL_inj k)
    simp [h, this]
theorem deq_ss : deq (.str y) (.str z) = decide (y = z) := ofL_beq
theorem deq_is : deq (.int i) (.str z) = false := rfl
theorem deq_si : deq (.str z) (.int i) = false := rfl
theorem deq_it : deq (.int i) (.tup es) = false := rfl
theorem deq_ti : deq (.tup es) (.int i) = false := rfl
theorem deq_st : deq (.str z) (.tup es) = false := rfl
theorem deq_ts : deq (.tup es) (.str z) = false := rfl
theorem deq_sl : deq (.str z) (.lst es) = false := rfl
theorem deq_ls : deq (.lst es) (.str z) = false := rfl
theorem deq_il : deq (.int i) (.lst es) = false := rfl
theorem deq_li : deq (.lst es) (.int i) = false := rfl
theorem deq_ns : deq .non (.str z) = false := rfl
theorem deq_sn : deq (.str z) .non = false := rfl
theorem deq_nl : deq .non (.lst es) = false := rfl
theorem deq_ln : deq (.lst es) .non = false := rfl
theorem deq_nt : deq .non (.tup es) = false := rfl
theorem deq_tn : deq (.tup es) .non = false := rfl
theorem deq_bs : deq (.bl b) (.str z) = false := rfl
theorem deq_sb : deq (.str z) (.bl b) = false := rfl
/-- as deep as k at most -/
def okK (k : Nat) (d : D) : Prop := d.pure = true ∧ d.py.canLay0 = true ∧ d.py.depth ≤ k
theorem okD_of (h : okK 64 d) : okD d := ⟨h.1, by show (_ && _) = true; rw [h.2.1, decide_eq_true h.2.2]; rfl⟩
theorem okK_i {k : Nat} : okK k (.int i) := ⟨rfl, rfl, Nat.zero_le _⟩
theorem okK_b {k : Nat} : okK k (.bl b) := ⟨rfl, rfl, Nat.zero_le _⟩
theorem okK_n {k : Nat} : okK k .non := ⟨rfl, rfl, Nat.zero_le _⟩
def Uni (z : List Nat) : Prop := ∀ c ∈ z, c < 1114112
theorem okK_s {k : Nat} (h : Uni z) : okK k (.str z) := ⟨rfl, by
  show PyData.strOk (ofL z) = true
  unfold PyData.strOk
  show (List.toArray z).all _ = true
  rw [List.all_toArray]
  exact List.all_eq_true.mpr fun c hc => decide_eq_true (h c hc), Nat.zero_le _⟩
theorem okK_l0 {k : Nat} : okK (k + 1) (.lst []) := ⟨rfl, rfl, by show 0 + 1 ≤ _; omega⟩
theorem okK_t0 {k : Nat} : okK (k + 1) (.tup []) := ⟨rfl, rfl, by show 0 + 1 ≤ _; omega⟩
theorem okK_lc {k : Nat} (h : okK k d) (r : okK (k + 1) (.lst ds)) : okK (k + 1) (.lst (d :: ds)) := by
  obtain ⟨h1, h2, h3⟩ := h
  obtain ⟨r1, r2, r3⟩ := r
  refine ⟨?_, ?_, ?_⟩
  · show (_ && _) = true; rw [h1]; exact r1
  · show PyData.canLayAll0 (_ :: _) = true; unfold PyData.canLayAll0; rw [h2]; exact r2
  · show PyData.depthAll (_ :: _) + 1 ≤ _
    have r3 : PyData.depthAll (D.py.pys ds) + 1 ≤ k + 1 := r3
    unfold PyData.depthAll
    omega
theorem okK_tc {k : Nat} (h : okK k d) (r : okK (k + 1) (.tup ds)) : okK (k + 1) (.tup (d :: ds)) := okK_lc (ds := ds) h r
theorem okK_lst {k : Nat} : ∀ {ds : List D}, (∀ d ∈ ds, okK k d) → okK (k + 1) (.lst ds)
  | [], _ => okK_l0
  | d :: ds, h => okK_lc (h d List.mem_cons_self) (okK_lst fun e he => h e (List.mem_cons_of_mem _ he))
theorem deq_map {α : Type} [DecidableEq α] {f : α → D} (hf : ∀ x y, deq (f x) (f y) = decide (x = y)) : ∀ {l m : List α}, deq (.lst (l.map f)) (.lst (m.map f)) = decide (l = m)
  | [], [] => rfl
  | [], _ :: _ => rfl
  | _ :: _, [] => rfl
  | x :: l, y :: m => by
    rw [List.map_cons, List.map_cons, deq_ll, hf, deq_map hf]
    by_cases h1 : x = y <;> by_cases h2 : l = m <;> simp [h1, h2]
theorem deq_ints {l m : List Int} : deq (.lst (l.map D.int)) (.lst (m.map D.int)) = decide (l = m) := deq_map fun _ _ => rfl
theorem deq_strs {l m : List (List Nat)} : deq (.lst (l.map D.str)) (.lst (m.map D.str)) = decide (l = m) := deq_map fun _ _ => deq_ss
end
end Sk
namespace Sk
open PySem PySem.Spec PyProof.Rows L2
/-! ### two lists joined to a list of one's own -/
def lst2 : D → D → Option (List D)
  | .lst a, .lst b => some (a ++ b)
  | _, _ => none
theorem lst2_l {a b : List D} : lst2 (.lst a) (.lst b) = some (a ++ b) := rfl
def bAddO : AR2 := fun x y s Q => opt (lst2 (view s x) (view s y)) (fun ds => Rq (ds.length ≤ 16777216) (New s (fun p => Q (.ref p) (aup s p (.lst ds))) ⟨⟩) ⟨⟩) ⟨⟩
theorem sr_addO {K : PySem.W.Frag} : SR K (rAddAll K) bAddO := by
  intro Z H s x y v u Q Qc R rx ry q L
  obtain ⟨ds, e, hl, q⟩ := opt_of q
  unfold lst2 at e
  split at e
  · rename_i a b e1 e2
    cases e
    obtain ⟨p1, vs, rfl, h1, r1⟩ := view_lst R rx e1
    obtain ⟨p2, ws, rfl, h2, r2⟩ := view_lst R ry e2
    have r := r1.app r2
    refine .inr (.inr (.inl ⟨p1, p2, vs, ws, rfl, rfl, h1, h2, by rw [List.length_append] at hl; rw [← r1.len, ← r2.len]; exact hl, fun p hp => ?_⟩))
    obtain ⟨R', f'⟩ := new_own R hp (u := .lst (vs ++ ws)) (o := .lst (a ++ b)) rfl fun f => ⟨vs ++ ws, upd_same, r.fr f⟩
    exact L _ _ _ _ R' (.ref p) f' (q p (R.no hp))
  · cases e
theorem u_bAddO : ∀ x y s Q, bAddO x y s Q = (opt (lst2 (view s x) (view s y)) (fun ds => Rq (ds.length ≤ 16777216) (New s (fun p => Q (.ref p) (aup s p (.lst ds))) ⟨⟩) ⟨⟩) ⟨⟩) := fun _ _ _ _ => (rfl)
end Sk
namespace Sk
open PySem PySem.Spec PyProof.Rows L2
/-! ### a op1 b op2 c op3 d -/
def tChain3 (r r' r'' : R2) (ta tb tc td : TE) : TE := fun σ H Q => ta σ H fun x H1 => tb σ H1 fun y H2 => r x y H2 fun z H3 => ∃ k, z = .bl k ∧
  (if k = true then tc σ H3 fun w H4 => r' y w H4 fun z' H5 => ∃ k', z' = .bl k' ∧ (if k' = true then td σ H5 fun v H6 => r'' w v H6 Q else Q (.bl false) H5) else Q (.bl false) H3)
section
variable {X : Cx} {a b c d : Expr} {ta tb tc td : TE} {pos : Pos}
theorem pt_chain3 {op op' op'' : CmpOp} {r r' r'' : R2} (ho : OpR X (compareOp op) r) (ho' : OpR X (compareOp op') r') (ho'' : OpR X (compareOp op'') r'') (ha : PE X a ta) (hb : PE X b tb) (hc : PE X c tc) (hd : PE X d td)
    (hm : lastMarks [op, op', op''] [b, c, d] = false := by with_unfolding_all rfl) : PT X (.Compare a [op, op', op''] [b, c, d] pos) (tTest (tChain3 r r' r'' ta tb tc td)) := by
  refine ⟨fun pins s σ H Q I h => ?_⟩
  refine isTrue_chain (thn (ha.run pins s σ H _ I h) fun v s1 ⟨x, H1, I1, r1, q1⟩ => test_link (thn (hb.run pins s1 σ H1 _ I1 q1) fun u s2 ⟨y, H2, I2, r2, q2⟩ =>
    thn (ho pins s2 σ H2 x y v u _ I2 r1 r2 q2) fun e s3 ⟨z, H3, I3, r3, k, ek, q3⟩ => ?_)) hm
  subst ek
  cases r3
  refine wpAny_truthy_bool ?_
  cases k with
  | false =>
    obtain ⟨k', e', q'⟩ := q3
    cases e'
    exact ite_ff ⟨H3, I3, q'⟩
  | true =>
    refine ite_tt (test_link (thn (hc.run pins s3 σ H3 _ I3 q3) fun w' s4 ⟨z', H4, I4, r4, q4⟩ => thn (ho' pins s4 σ H4 y z' u w' _ I4 r2 r4 q4) fun d' s5 ⟨z2, H5, I5, r5, k2, e2, q5⟩ => ?_))
    subst e2
    cases r5
    refine wpAny_truthy_bool ?_
    cases k2 with
    | false =>
      obtain ⟨k', e', q'⟩ := q5
      cases e'
      exact ite_ff ⟨H5, I5, q'⟩
    | true =>
      refine ite_tt (test_last (thn (hd.run pins s5 σ H5 _ I5 q5) fun w6 s6 ⟨z6, H6, I6, r6, q6⟩ => thn (ho'' pins s6 σ H6 z' z6 w' w6 _ I6 r4 r6 q6) fun d7 s7 ⟨z7, H7, I7, r7, k7, e7, q7⟩ => ?_))
      subst e7
      cases r7
      exact wpAny_truthy_bool ⟨H7, I7, q7⟩
end
def aChain3 (f g h : AR2) (ta tb tc td : ATE) : ATE := fun as s Q E => ta as s (fun x s1 => tb as s1 (fun y s2 => f x y s2 fun z s3 => opt (blD z) (fun k => Br k (tc as s3 (fun w s4 => g y w s4 fun z' s5 => opt (blD z') (fun k' => Br k' (td as s5 (fun v s6 => h w v s6 Q) E) (Q (.bl false) s5) ⟨⟩ ⟨⟩) ⟨⟩) E) (Q (.bl false) s3) ⟨⟩ ⟨⟩) ⟨⟩) E) E
section
variable {X : Cx} {W : WX} {a b c d : Expr} {ta tb tc td : ATE} {pos : Pos}
theorem conc_chain3 {K : PySem.W.Frag} {r r' r'' : R2} {f g h : AR2} (hf : SR K r f) (hg : SR K r' g) (hh : SR K r'' h) : ∀ σ H Qc, concE K W (aChain3 f g h ta tb tc td) σ H Qc → tChain3 r r' r'' (concE K W ta) (concE K W tb) (concE K W tc) (concE K W td) σ H Qc := by
  rintro σ H Qc ⟨Z, as, s, Q, E, R, q, L, LX⟩
  refine conc_bind (Q1 := fun x s1 => tb as s1 (fun y s2 => f x y s2 fun z s3 => opt (blD z) (fun k => Br k (tc as s3 (fun w s4 => g y w s4 fun z' s5 => opt (blD z') (fun k' => Br k' (td as s5 (fun v s6 => h w v s6 Q) E) (Q (.bl false) s5) ⟨⟩ ⟨⟩) ⟨⟩) E) (Q (.bl false) s3) ⟨⟩ ⟨⟩) ⟨⟩) E) R LX q fun x s1 v H1 R1 r1 f1 L1 q1 => ?_
  refine conc_bind (Q1 := fun y s2 => f x y s2 fun z s3 => opt (blD z) (fun k => Br k (tc as s3 (fun w s4 => g y w s4 fun z' s5 => opt (blD z') (fun k' => Br k' (td as s5 (fun v s6 => h w v s6 Q) E) (Q (.bl false) s5) ⟨⟩ ⟨⟩) ⟨⟩) E) (Q (.bl false) s3) ⟨⟩ ⟨⟩) ⟨⟩) R1 L1 q1 fun y s2 u H2 R2 r2 f2 L2 q2 => ?_
  refine hf Z H2 s2 x y v u _ _ R2.rep (r1.fr f2) r2 q2 fun z s3 w H3 R3 r3 f3 q3 => ?_
  obtain ⟨k, ek, q4⟩ := opt_of q3
  refine ⟨k, blD_v r3 ek, ?_⟩
  have f13 := (f1.trans f2).trans f3
  cases k with
  | true =>
    rw [Br_true] at q4
    have R3' := R2.fr R3 f3
    refine b_t (conc_bind (Q1 := fun w s4 => g y w s4 fun z' s5 => opt (blD z') (fun k' => Br k' (td as s5 (fun v s6 => h w v s6 Q) E) (Q (.bl false) s5) ⟨⟩ ⟨⟩) ⟨⟩) R3' (L2.fr f3) q4 fun w' s4 v' H4 R4 r4 f4 L4 q5 => ?_)
    refine hg Z H4 s4 y w' _ _ _ _ R4.rep ((r2.fr f3).fr f4) r4 q5 fun z5 s5 w5 H5 R5 r5 f5 q6 => ?_
    obtain ⟨k5, ek5, q7⟩ := opt_of q6
    refine ⟨k5, blD_v r5 ek5, ?_⟩
    have f15 := (f13.trans f4).trans f5
    cases k5 with
    | true =>
      rw [Br_true] at q7
      refine b_t (conc_bind (Q1 := fun v s6 => h w' v s6 Q) (R4.fr R5 f5) (L4.fr f5) q7 fun w6 s6 v6 H6 R6 r6 f6 L6 q8 => ?_)
      exact hh Z H6 s6 w' w6 _ _ Q Qc R6.rep ((r4.fr f5).fr f6) r6 q8 (L.fr (f15.trans f6))
    | false =>
      rw [Br_false] at q7
      exact b_f (L _ s5 _ H5 R5 (.bl _) f15 q7)
  | false =>
    rw [Br_false] at q4
    exact b_f (L _ s3 _ H3 R3 (.bl _) f13 q4)
theorem at_chain3 {op op' op'' : CmpOp} {r r' r'' : R2} {f g h : AR2} (ho : OpR X (compareOp op) r) (hs : SR X.K r f) (ho' : OpR X (compareOp op') r') (hs' : SR X.K r' g) (ho'' : OpR X (compareOp op'') r'') (hs'' : SR X.K r'' h) (ha : AE X W a ta) (hb : AE X W b tb) (hc : AE X W c tc) (hd : AE X W d td)
    (hm : lastMarks [op, op', op''] [b, c, d] = false := by with_unfolding_all rfl) : AT X W (.Compare a [op, op', op''] [b, c, d] pos) (aTest (aChain3 f g h ta tb tc td)) :=
  ⟨weakT (pt_chain3 ho ho' ho'' ha.pe hb.pe hc.pe hd.pe hm) fun σ H Qc k => conc_chain3 hs hs' hs'' _ _ _ (conc_test k)⟩
end
theorem u_aChain3 (f g h : AR2) (ta tb tc td : ATE) : ∀ as s Q E, aChain3 f g h ta tb tc td as s Q E = (ta as s (fun x s1 => tb as s1 (fun y s2 => f x y s2 fun z s3 => opt (blD z) (fun k => Br k (tc as s3 (fun w s4 => g y w s4 fun z' s5 => opt (blD z') (fun k' => Br k' (td as s5 (fun v s6 => h w v s6 Q) E) (Q (.bl false) s5) ⟨⟩ ⟨⟩) ⟨⟩) E) (Q (.bl false) s3) ⟨⟩ ⟨⟩) ⟨⟩) E) E) := fun _ _ _ _ => (rfl)
end Sk
namespace Sk
open PySem PySem.Spec PyProof.Rows L2
/-! ### enumerate of a text -/
def Ites (x : Str) : It :=
  ⟨fun i _ => i < x.cps.size, fun i H v H' => ∃ T c, v = .ref T ∧ H T = none ∧ H' = upd H T (.tup [.int (i : Nat), .str ⟨#[c]⟩]) ∧ x.cps[i]? = some c, fun i _ => x.cps.size ≤ i⟩
theorem draws_text {prog : Program} {w : World} {A : Around} (hh : A.handled = none) (it : Addr) (x : Str) (t : Tok) :
    Draws prog w A it [it] x.cps.size (fun i v => ∃ c u, x.cps[i]? = some c ∧ v = .str ⟨#[c]⟩ u) (fun i h => h.IsStrIter it (strIterType x) x t i) := by
  cases ha : x.cps.all (· < 128)
  · rw [show strIterType x = "str_iterator" by simp [strIterType, ha]]; exact Draws.strWide hh it x t
  · rw [show strIterType x = "str_ascii_iterator" by simp [strIterType, ha]]; exact Draws.strAscii hh it x t
theorem turn_enumS {P : Program} {w : World} {K : PySem.W.Frag} {elts : List Expr} {kk : Nat} {tpos : Pos} (e it : Addr) (x : Str) (t : Tok) :
    Turn P w K (.Tuple elts kk tpos) (Ites x) [e, it] e (fun i h => (∃ old, IsEnum h e it ((i : Nat) : Int) old) ∧ h.IsStrIter it (strIterType x) x t i ∧ e ≠ it) where
  mem := by simp
  obj := fun i h st b hb => by
    obtain ⟨⟨old, he⟩, ⟨o, ho, hc, hd⟩, _⟩ := st
    have e' : b = e ∨ b = it := by simpa using hb
    rcases e' with z | z
    · rw [z]; exact ⟨_, he, fun v q => nomatch q⟩
    · rw [z]; exact ⟨o, ho, fun v q => by rw [hd] at q; cases q⟩
  keep := fun i h h' st k => let ⟨⟨old, he⟩, ⟨o, ho, r⟩, hne⟩ := st; ⟨⟨old, k e (by simp) _ he⟩, ⟨o, k it (by simp) o ho, r⟩, hne⟩
  item := by
    intro X hP hw hK hc i pins s σ H E I hf st hg
    subst hP hw hK
    obtain ⟨⟨old, he⟩, hit, hne⟩ := st
    have hel : e < s.heap.objs.size := Heap.lt_size he
    have hil : it < s.heap.objs.size := by obtain ⟨_, q, _⟩ := hit; exact Heap.lt_size q
    refine wpAny_pyNext_enum_itemD (draws_text (A := X.A.in1) (I.ok.hd hc) it x t) he hit hg hne (by simpa using hne) fun y h' tk hy ho hit' hT hsz hk => ?_
    obtain ⟨c, u, hcx, rfl⟩ := hy
    refine ⟨_, rfl, wpAny_letOwnedTupleGo_enum (s := { s with heap := h', toks := tk + 1 }) ho fun h'' he' sb => ?_⟩
    have hT2 : h''.get? s.heap.objs.size = some { cls := .type "tuple", data := .seq #[.int i tk, .str ⟨#[c]⟩ u] } := (sb.2 _ (Nat.ne_of_gt hel)).trans hT
    have new : ObjOk X.prog X.w (upd H s.heap.objs.size (.tup [.int (i : Nat), .str ⟨#[c]⟩])) h'' s.heap.objs.size (.tup [.int (i : Nat), .str ⟨#[c]⟩]) :=
      ⟨by show 2 ≤ sizeLine; decide, [.int i tk, .str ⟨#[c]⟩ u], .cons ⟨_, rfl⟩ (.cons ⟨_, rfl⟩ .nil), ⟨_, hT2, rfl, _, rfl⟩⟩
    have I1 : Inv X pins σ (upd H s.heap.objs.size (.tup [.int (i : Nat), .str ⟨#[c]⟩])) { s with heap := h'', toks := tk + 1 } :=
      I.turnedNew (ch := [e, it]) (fun b ob hb q => (sb.2 b (fun z => hb (by simp [z]))).trans (hk b ob (fun z => hb (by simp [z])) (fun z => hb (by simp [z])) q)) hf (Nat.le_refl _) new
    refine ⟨.ref s.heap.objs.size, _, I1, rfl, ⟨_, c, rfl, I.hok.fresh (Nat.le_refl _), rfl, hcx⟩, ⟨⟨.str ⟨#[c]⟩ u, ?_⟩, ?_, hne⟩, fun b hb => ?_⟩
    · have e1 : ((i + 1 : Nat) : Int) = (i : Int) + 1 := by omega
      rw [e1]; exact he'
    · obtain ⟨o, ho2, r⟩ := hit'
      exact ⟨o, (sb.2 it (Ne.symm hne)).trans ho2, r⟩
    · have hb' : b < s.heap.objs.size := by
        have e' : b = e ∨ b = it := by simpa using hb
        rcases e' with z | z
        · rw [z]; exact hel
        · rw [z]; exact hil
      rw [upd_ne (Nat.ne_of_lt hb')]
      exact (hf b hb).1
  done := by
    intro X hP hw hK hc i pins s σ H E I hf st hg
    subst hP hw hK
    obtain ⟨⟨old, he⟩, hit, hne⟩ := st
    obtain ⟨f0, f1, f2, f3, f4, f5⟩ := hf it (by simp)
    have hx : x.cps[i]? = none := Array.getElem?_eq_none hg
    have fin : ∀ h', Heap.ExtBut it s.heap h' → (none : Option Value) = none ∧ Inv X pins σ H { s with heap := h' } := fun h' eb => ⟨rfl, I.turned (t' := s.toks) (fun b o hb q => eb b o hb q) f0 f1 f3 f4 f5⟩
    have hT : s.TypeIs (.ref e) "enumerate" := ⟨_, he, rfl⟩
    unfold pyNext
    refine wpAny_bind (wpAny_attempt (wpAny_callSpecial?_slot (name := Str.ofString "__next__") hT F.slot_enumerate_next
      (wpAny_call_entry F.slot_enumerate_next hT F.entry_enumerate_next ?_ (F.args_enumerate_next_1 _))))
    show wpAny _ _ (field (.ref e) 2 >>= _) _ _ _
    refine wpAny_bind (wpAny_field he rfl (x := .ref it) rfl ?_)
    cases ha : x.cps.all (· < 128)
    · rw [show strIterType x = "str_iterator" by simp [strIterType, ha]] at hit
      refine wpAny_bind (wpAny_nextOf_wide_end (I.ok.hd hc) hit hx fun h' x he' hx' => ?_)
      obtain ⟨o, ho, hc⟩ := hx'
      refine wpAny_bind (wpAny_isInstance (T := "StopIteration") (b := true) ⟨o, ho, hc⟩ isSubtype_stop ?_)
      exact wpAny_pure (fin _ he')
    · rw [show strIterType x = "str_ascii_iterator" by simp [strIterType, ha]] at hit
      refine wpAny_bind (wpAny_nextOf_ascii_end (I.ok.hd hc) hit hx fun h' x he' hx' => ?_)
      obtain ⟨o, ho, hc⟩ := hx'
      refine wpAny_bind (wpAny_isInstance (T := "StopIteration") (b := true) ⟨o, ho, hc⟩ isSubtype_stop ?_)
      exact wpAny_pure (fin _ he')
  self := fun A i s Q E st h => let ⟨⟨_, he⟩, _⟩ := st; wpAny_pyIter_enum he h
def iEnumB (K : PySem.W.Frag) (ta : TA) : TI := fun σ H R => ta σ H fun vs H1 => (∃ a xs, vs = [.ref a] ∧ SqL K H1 a xs ∧ R (Ite K a) H1) ∨ (∃ x, vs = [.str x] ∧ R (Ites x) H1)
theorem pi_enumB {X : Cx} {e : Expr} {ta : TA} {p pos tpos : Pos} {elts : List Expr} {kk : Nat} (hg : Gl X "enumerate") (hm : X.mg "enumerate" = none) (ha : PA X [e] ta) (hs : starEach [e] X.env = [(false, eval e X.env)] := by rfl) :
    PI X (.Tuple elts kk tpos) (.Call (.Name "enumerate" p) [e] [] pos) (iEnumB X.K ta) := by
  refine ⟨fun pins s σ H R I h => ?_⟩
  refine Call_ (ld_blt I hg hm boot_enumerate (PyProof.Rows.callWith_type1 (thn (ha.run pos pins s σ H _ I h) fun us s1 ⟨vs, H1, I1, r1, q1⟩ => ?_) hs rfl))
  rcases q1 with ⟨a, xs, ex, hq, q⟩ | ⟨x, ex, q⟩
  · subst ex
    cases r1 with
    | cons r rr =>
      cases rr
      cases r
      obtain ⟨its, rv, p', hz⟩ := I1.list hq
      refine call_enumerate_list p'.isList fun h' he hit hsz hk => wpAny_pyIter_enum he ?_
      have I2 : Inv X pins σ H1 { s1 with heap := h' } := I1.kept (t' := s1.toks) hk
      refine ⟨s1.heap.objs.size + 1, [s1.heap.objs.size + 1, s1.heap.objs.size], _, _, H1, rfl, I2, turn_enum a (s1.heap.objs.size + 1) s1.heap.objs.size, ⟨⟨.none, he⟩, hit, Nat.succ_ne_self _⟩, fun b hb => ?_, q⟩
      have e' : b = s1.heap.objs.size + 1 ∨ b = s1.heap.objs.size := by simpa using hb
      have hle : s1.heap.objs.size ≤ b := by
        rcases e' with z | z
        · rw [z]; exact Nat.le_add_right _ _
        · rw [z]; exact Nat.le_refl _
      exact I1.fpOk hle (I1.hok.fresh hle)
  · subst ex
    cases r1 with
    | cons r rr =>
      cases rr
      obtain ⟨t, rfl⟩ := r
      refine call_enumerate_str fun h' he hit hsz hk => wpAny_pyIter_enum he ?_
      have I2 : Inv X pins σ H1 { s1 with heap := h' } := I1.kept (t' := s1.toks) hk
      refine ⟨s1.heap.objs.size + 1, [s1.heap.objs.size + 1, s1.heap.objs.size], _, _, H1, rfl, I2, turn_enumS (s1.heap.objs.size + 1) s1.heap.objs.size x t, ⟨⟨.none, he⟩, hit, Nat.succ_ne_self _⟩, fun b hb => ?_, q⟩
      have e' : b = s1.heap.objs.size + 1 ∨ b = s1.heap.objs.size := by simpa using hb
      have hle : s1.heap.objs.size ≤ b := by
        rcases e' with z | z
        · rw [z]; exact Nat.le_add_right _ _
        · rw [z]; exact Nat.le_refl _
      exact I1.fpOk hle (I1.hok.fresh hle)
theorem wd_enumS {K : PySem.W.Frag} {Z : Addr → Prop} {H : Hp} {s : Ah} {z : List Nat} : WkD K Z H s (enumD (sgs z)) tt_ (Ites (ofL z)) where
  go := fun i Z2 H' s' hi R' f g => by
    show i < z.toArray.size
    rw [List.size_toArray]
    simpa [enumD, sgs] using hi
  stop := fun Z2 H' s' R' f g => by
    show z.toArray.size ≤ (enumD (sgs z)).length
    rw [List.size_toArray]
    simp [enumD, sgs]
  yld := fun i d Z2 H' s' x H2 e R' f g y => by
    obtain ⟨T, c, rfl, hT, rfl, e1⟩ := y
    rw [enumD, List.getElem?_mapIdx] at e
    obtain ⟨d', ed, rfl⟩ := Option.map_eq_some_iff.mp e
    unfold sgs at ed
    rw [List.getElem?_map] at ed
    have e1 : z.toArray[i]? = some c := e1
    rw [List.getElem?_toArray] at e1
    rw [e1] at ed
    cases ed
    obtain ⟨R2, f2, _⟩ := R'.new (u := .tup [.int (i : Nat), .str ⟨#[c]⟩]) hT
    exact ⟨R2, f2, rp_newT R' (.cons (.int _) (.one (.str [c]))) hT⟩
def iterE (s : Ah) : D → Option (List D × (Ah → Prop))
  | .str z => some (sgs z, tt_)
  | d => iterL s d
def aiEnm (a : ATA) : ATI := fun as s Q E => a as s (fun xs s1 => opt ((one xs).bind (iterE s1)) (fun r => Q (enumD r.1) r.2 s1) ⟨⟩) E
theorem u_aiEnm (a : ATA) : ∀ as s Q E, aiEnm a as s Q E = (a as s (fun xs s1 => opt ((one xs).bind (iterE s1)) (fun r => Q (enumD r.1) r.2 s1) ⟨⟩) E) := fun _ _ _ _ => (rfl)
theorem iterE_s {s : Ah} {z : List Nat} : iterE s (.str z) = some (sgs z, tt_) := rfl
theorem iterE_l {s : Ah} {ds : List D} : iterE s (.lst ds) = some (ds, tt_) := rfl
theorem iterE_c {s : Ah} {ds : List D} : iterE s (.scr ds) = some (ds, tt_) := rfl
theorem iterE_r {s : Ah} {a : Addr} : iterE s (.ref a) = iterO a (s a) := rfl
section
variable {X : Cx} {W : WX}
theorem ai_enm {e : Expr} {ta : ATA} {p pos tpos : Pos} {elts : List Expr} {kk : Nat} (hg : Gl X "enumerate") (hm : X.mg "enumerate" = none) (ha : AA X W [e] ta) (hs : starEach [e] X.env = [(false, eval e X.env)] := by rfl) :
    AI X W (.Tuple elts kk tpos) (.Call (.Name "enumerate" p) [e] [] pos) (aiEnm ta) := ⟨weakI (pi_enumB hg hm ha.pa hs) fun σ H Rc => by
  rintro ⟨Z, as, s, Q, E, R, q, L, LX⟩
  refine conc_bindA (Q1 := fun xs s1 => opt ((one xs).bind (iterE s1)) (fun r => Q (enumD r.1) r.2 s1) ⟨⟩) R LX q fun xs s1 vs H1 R1 r1 f1 L1 q1 => ?_
  obtain ⟨⟨ds, G⟩, e, q2⟩ := opt_of q1
  obtain ⟨x, ex, e⟩ := Option.bind_eq_some_iff.mp e
  obtain ⟨v, rfl, rx⟩ := one_rp r1 ex
  unfold iterE at e
  split at e
  · cases e
    cases rx
    exact .inr ⟨_, rfl, L _ _ _ H1 s1 R1 f1 wd_enumS q2⟩
  · obtain ⟨p, rfl, ⟨ws, hq⟩, _, k⟩ := iterL_ok R1.rep rx e
    exact .inl ⟨p, ws, rfl, hq, L _ _ _ H1 s1 R1 f1 (wd_enum k) q2⟩⟩
end
/-! ### xs[::-1], of a list or a text -/
def tRevB (K : PySem.W.Frag) (te : TE) : TE := fun σ H Q => te σ H fun x H1 => (∃ a xs, x = .ref a ∧ SqL K H1 a xs ∧ ∀ p, H1 p = none → Q (.ref p) (upd H1 p (.lst xs.reverse))) ∨
  ∃ z : Str, x = .str z ∧ z.length ≤ sizeLine ∧ Q (.str ⟨z.cps.toList.reverse.toArray⟩) H1
theorem slice_rev {z : Str} {t t2 : Tok} : sliceMade z t none none (some (-1, t2)) = Made.str ⟨z.cps.toList.reverse.toArray⟩ := by
  have e : (Builtin.Str.strSliceIndices none none (-1) z.length).filterMap (z.cps[·]?) = z.cps.toList.reverse := by
    have h : Builtin.Str.strSliceIndices none none (-1) z.length = (List.range z.cps.size).reverse := by
      rw [← PySem.W.krv_range, ← PySem.W.krv_sliceRange]
      rfl
    rw [h, List.filterMap_reverse, PySem.W.krv_all]
  show Made.str ⟨((Builtin.Str.strSliceIndices none none (-1) z.length).filterMap (z.cps[·]?)).toArray⟩ = _
  rw [e]
theorem pe_revB {X : Cx} {e : Expr} {te : TE} {k : Nat} {p1 p2 p3 pos : Pos} (he : PE X e te) : PE X (.Subscript e (.Slice none none (some (.UnaryOp .USub (.Constant (.int 1) k p1) p2)) p3) pos) (tRevB X.K te) := by
  refine ⟨fun pins s σ H Q I h => ?_⟩
  refine Subscript_ (thn (he.run pins s σ H _ I h) fun v s1 ⟨x, H1, I1, r1, q1⟩ => ?_)
  have hst : PO X (some (.UnaryOp .USub (.Constant (.int 1) k p1) p2)) (tPart (tUn (rU fun i => .int (-i)) (tC (.int 1)))) := po_some (pe_un un_neg pe_int)
  refine wpAny_Slice (thn (po_none.run pins s1 σ H1 (fun o H2 => o = none ∧ H2 = H1) I1 ⟨rfl, rfl⟩) fun vl s2 ⟨l, H2, I2, pl, el, e2⟩ => ?_)
  subst el e2
  refine thn (po_none.run pins s2 σ H2 (fun o H3 => o = none ∧ H3 = H2) I2 ⟨rfl, rfl⟩) fun vu s3 ⟨u, H3, I3, pu, eu, e3⟩ => ?_
  subst eu e3
  refine thn (hst.run pins s3 σ H3 (fun o H4 => o = some (-1) ∧ H4 = H3) I3 ⟨1, rfl, -1, rfl, rfl, rfl⟩) fun vs s4 ⟨o, H4, I4, ps, eo, e4⟩ => ?_
  subst eo e4
  have I5 : Inv X pins σ H4 { s4 with heap := s4.heap.push { cls := .type "slice", data := .fields #[vl, vu, vs] } } := I4.kept (t' := s4.toks) fun b ob q => Heap.get?_push_of_some _ q
  rcases q1 with ⟨a, xs, ex, hx, q⟩ | ⟨z, ex, hz, q⟩
  · subst ex
    cases r1
    obtain ⟨its, r, ht, hz⟩ := I5.list hx
    have hlen := r.length
    show wpAny (model X.prog X.w) X.A (subscriptTail e (.Slice none none (some (.UnaryOp .USub (.Constant (.int 1) k p1) p2)) p3) (.ref a) (.ref s4.heap.objs.size)) (EP X pins σ Q) X.xe { s4 with heap := s4.heap.push { cls := .type "slice", data := .fields #[vl, vu, vs] } }
    refine tail_any (ops := [.ref a, .ref s4.heap.objs.size]) ht.isList.typeIs (PySem.slot_list_getitem.lookup) ?_ (by with_unfolding_all rfl)
    refine wpAny_getItem_list_slice ht.isList (Heap.IsSliceOf.new _ vl vu vs) pl pu ps (by decide) ?_ (by rw [List.size_toArray]; omega)
    rw [PySem.W.krv_pick]
    refine ⟨.ref _, _, I5.laid (t' := s4.toks) (o := .lst xs.reverse) (fun b ob q => Heap.get?_push_of_some _ q) (Nat.le_refl _) ?_, rfl, q _ (I5.hok.fresh (Nat.le_refl _))⟩
    exact ⟨by rw [List.length_reverse]; exact hz, _, 0, r.reverse, Heap.get?_push_size _ rfl⟩
  · subst ex
    obtain ⟨t, rfl⟩ := r1
    cases pl
    cases pu
    cases ps with
    | int i t2 =>
      show wpAny (model X.prog X.w) X.A (subscriptTail e (.Slice none none (some (.UnaryOp .USub (.Constant (.int 1) k p1) p2)) p3) (.str z t) (.ref s4.heap.objs.size)) (EP X pins σ Q) X.xe { s4 with heap := s4.heap.push { cls := .type "slice", data := .fields #[.none, .none, .int (-1) t2] } }
      refine tail_any (ops := [.str z t, .ref s4.heap.objs.size]) (typeIs_str _ _ _) F.slot_str_getitem.lookup ?_ (by with_unfolding_all rfl)
      refine wpAny_getItem_str_slice (l := none) (u := none) (st := some (-1, t2)) ⟨_, Heap.get?_push_size _ rfl, rfl, rfl⟩ rfl ?_
      rw [slice_rev]
      exact ⟨by show (z.cps.toList.reverse.toArray).size ≤ _; rw [List.size_toArray, List.length_reverse]; exact hz, .str _, _, I5.tok _, ⟨_, rfl⟩, q⟩
def rvD : D → Option (D × Prop)
  | .lst ds => some (.lst ds.reverse, True)
  | .str z => some (.str z.reverse, z.length ≤ 16777216)
  | _ => none
theorem rvD_l {ds : List D} : rvD (.lst ds) = some (.lst ds.reverse, True) := rfl
theorem rvD_s {z : List Nat} : rvD (.str z) = some (.str z.reverse, z.length ≤ 16777216) := rfl
def aRevL (a : ATE) : ATE := fun as s Q E => a as s (fun x s1 => opt (rvD (view s1 x)) (fun r => Rq r.2 (Q r.1 s1) ⟨⟩) ⟨⟩) E
theorem u_aRevL (a : ATE) : ∀ as s Q E, aRevL a as s Q E = (a as s (fun x s1 => opt (rvD (view s1 x)) (fun r => Rq r.2 (Q r.1 s1) ⟨⟩) ⟨⟩) E) := fun _ _ _ _ => (rfl)
theorem ae_revL {X : Cx} {W : WX} {e : Expr} {te : ATE} {k : Nat} {p1 p2 p3 pos : Pos} (he : AE X W e te) : AE X W (.Subscript e (.Slice none none (some (.UnaryOp .USub (.Constant (.int 1) k p1) p2)) p3) pos) (aRevL te) := by
  refine ⟨weakE (pe_revB he.pe) ?_⟩
  rintro σ H Qc ⟨Z, as, s, Q, E, R, q, L, LX⟩
  refine conc_bind (Q1 := fun x s1 => opt (rvD (view s1 x)) (fun r => Rq r.2 (Q r.1 s1) ⟨⟩) ⟨⟩) R LX q fun x s1 v H1 R1 r1 f1 L1 q1 => ?_
  obtain ⟨⟨z, p⟩, e, hp, q2⟩ := opt_of q1
  unfold rvD at e
  split at e
  · rename_i e1
    cases e
    obtain ⟨a, vs, rfl, h1, r2⟩ := view_lst R1.rep r1 e1
    refine .inl ⟨a, vs, rfl, h1, fun p0 hp0 => ?_⟩
    obtain ⟨R', f', _⟩ := R1.rep.new (u := .lst vs.reverse) hp0
    exact L _ _ _ _ R' (rp_newL R1.rep r2.rev hp0) (f1.trans f') q2
  · rename_i z' e1
    cases e
    cases view_str r1 e1
    refine .inr ⟨_, rfl, by rw [ofL_len]; exact hp, L _ _ _ _ R1.rep (rp_str (l := z'.reverse) rfl) f1 q2⟩
  · cases e
end Sk
namespace Sk
open PySem PySem.Spec PyProof.Rows L2
/-! ### how often a plain thing stands in a list -/
section
variable {X : Cx}
theorem count_eqU {y : V} : ∀ {xs : List V} {us : List Value}, Vals xs us → xs.all flatV = true → us.countP (eqU y) = xs.countP fun z => eqV z y
  | _, _, .nil, _ => rfl
  | z :: xs, u :: us, .cons r t, f => by
    rw [List.all_cons, Bool.and_eq_true] at f
    rw [List.countP_cons, List.countP_cons, count_eqU t f.2, eqU_of r f.1]
def rCntF (K : PySem.W.Frag) : V → List V → Hp → VK → Prop := fun x xs H Q => ∃ (a : Addr) (ys : List V) (y : V), x = V.ref a ∧ xs = [y] ∧ SqL K H a ys ∧ flatV y = true ∧ ys.all flatV = true ∧ Q (.int ((ys.countP fun z => eqV z y : Nat))) H
theorem mt_countF : MtR X "list.count" (rCntF X.K) := by
  intro pins s σ H x xs v us Q I rx rxs h
  obtain ⟨a, ys, y, rfl, rfl, hs, fy, fys, q⟩ := h
  cases rx
  cases rxs with
  | cons ry rt =>
    rename_i uy ut
    cases rt
    obtain ⟨its, rv, ⟨⟨cls, dd, data, sl⟩, n, ho, hc, hdn, hd⟩, hlen⟩ := I.list hs
    simp only at hc hd
    subst hc hd
    refine call_meets PySem.F.slot_list_count ⟨_, ho, rfl⟩ PySem.F.entry_list_count (PySem.F.args_list_count_2 _ _)
      (SeqAt.list_countAt a its.toArray n dd sl uy (eqU y)) ⟨ho, fun u' hu' => mem_eqAt ry fy rv fys u' (by simpa using hu'), ?_⟩
    have ec : its.toArray.toList.countP (eqU y) = ys.countP fun z => eqV z y := count_eqU rv fys
    refine ⟨.int ((ys.countP fun z => eqV z y : Nat)), H, I.tok _, ⟨s.toks, ?_⟩, q⟩
    show Value.int ((its.toArray.toList.countP (eqU y) : Nat) : Int) s.toks = Value.int ((ys.countP fun z => eqV z y : Nat) : Int) s.toks
    rw [ec]
end
def cntD (ds : List D) (y : D) : Nat := ds.countP fun d => deq d y
theorem cntD_0 {y : D} : cntD [] y = 0 := rfl
theorem cntD_c {d y : D} {ds : List D} : cntD (d :: ds) y = (deq d y).toNat + cntD ds y := by
  unfold cntD
  rw [List.countP_cons]
  cases deq d y <;> simp [Nat.add_comm]
def mCount : ARM := fun x ys s Q => opt (lstV (view s x)) (fun ds => opt (one ys) (fun y => Rq (y.flat = true ∧ ds.all D.flat = true) (Q (.int (cntD ds y : Nat)) s) ⟨⟩) ⟨⟩) ⟨⟩
theorem u_mCount : ∀ x ys s Q, mCount x ys s Q = (opt (lstV (view s x)) (fun ds => opt (one ys) (fun y => Rq (y.flat = true ∧ ds.all D.flat = true) (Q (.int (cntD ds y : Nat)) s) ⟨⟩) ⟨⟩) ⟨⟩) := fun _ _ _ _ => (rfl)
theorem cnt_of {K : PySem.W.Frag} {H : Hp} {N : Addr → Prop} {y : D} {u : V} (ru : Rp K H N y u) (f1 : y.flat = true) : ∀ {ds : List D} {ws : List V}, Rps K H N ds ws → ds.all D.flat = true → ws.countP (fun z => eqV z u) = cntD ds y
  | _, _, .nil, _ => rfl
  | d :: ds, w :: ws, .cons h t, f => by
    rw [List.all_cons, Bool.and_eq_true] at f
    have ih := cnt_of ru f1 t f.2
    rw [cntD_c, List.countP_cons, ih, flat_eq h ru f.1 f1]
    cases deq d y <;> simp [Nat.add_comm]
theorem srm_count {K : PySem.W.Frag} : SRM K (rCntF K) mCount := by
  intro Z H s x xs v vs Q Qc R r rs q L
  obtain ⟨ds, e1, q⟩ := opt_of q
  obtain ⟨y, e2, ⟨f1, f2⟩, q⟩ := opt_of q
  obtain ⟨a, ws, rfl, h, rr⟩ := view_lst R r (lstD_eq e1)
  obtain ⟨u, rfl, ru⟩ := one_rp rs e2
  refine ⟨a, ws, u, rfl, rfl, h, flat_v ru f1, flat_all rr f2, ?_⟩
  rw [cnt_of ru f1 rr f2]
  exact L.here R (.int _) q
/-- the first place of a truth -/
def fidT (ds : List D) : Nat := ds.findIdx fun d => deq d (.bl true)
theorem fid_t {ds : List D} : (D.bl true :: ds).findIdx (fun d => deq d (.bl true)) = 0 := by rw [List.findIdx_cons]; rfl
theorem fid_f {ds : List D} : (D.bl false :: ds).findIdx (fun d => deq d (.bl true)) = ds.findIdx (fun d => deq d (.bl true)) + 1 := by rw [List.findIdx_cons]; rfl
/-! ### great letters of a written text -/
def upL (z : List Nat) : List Nat := z.map PyProof.Rows.up1
abbrev FS0 := List Nat → Ah → AVK → Prop
def aSM0 (f : FS0) (a : ATE) : ATE := fun as s Q E => a as s (fun x s1 => opt (strD x) (fun z => f z s1 Q) ⟨⟩) E
theorem u_aSM0 (f : FS0) (a : ATE) : ∀ as s Q E, aSM0 f a as s Q E = (a as s (fun x s1 => opt (strD x) (fun z => f z s1 Q) ⟨⟩) E) := fun _ _ _ _ => (rfl)
def SRS0 (K : PySem.W.Frag) (r : V → List V → Hp → VK → Prop) (f : FS0) : Prop := ∀ Z H s z Q Qc, Rep K Z H s → f z s Q → Lnk K Z H s Q Qc → r (.str (ofL z)) [] H Qc
def sUpper : FS0 := fun z s Q => Rq (z.all (fun c => decide (c < 128)) = true ∧ z.length ≤ 1000) (Q (.str (upL z)) s) ⟨⟩
theorem u_sUpper : ∀ z s Q, sUpper z s Q = Rq (z.all (fun c => decide (c < 128)) = true ∧ z.length ≤ 1000) (Q (.str (upL z)) s) ⟨⟩ := fun _ _ _ => (rfl)
theorem srs_upper {K : PySem.W.Frag} : SRS0 K (fun x xs H Q => ∃ a, x = .str a ∧ xs = [] ∧ a.length ≤ 5592405 ∧ Q (.str (Txt.upper a)) H) sUpper := by
  intro Z H s z Q Qc R q L
  obtain ⟨⟨h1, h2⟩, q⟩ := q
  refine ⟨_, rfl, rfl, by rw [ofL_len]; omega, ?_⟩
  have e : Txt.upper (ofL z) = ofL (upL z) := by
    rw [PyProof.Rows.upper_ascii (x := ofL z) (fun c hc => by
      have := List.all_eq_true.mp h1 c (by simpa [ofL] using hc)
      exact of_decide_eq_true this)]
    refine str_ext ?_
    simp [ofL, upL]
  rw [e]
  exact L.here R (.str _) q
theorem ae_sm0 {X : Cx} {W : WX} {id : String} {name : Str} {o : Expr} {apos pos : Pos} {ta : ATE} {r : V → List V → Hp → VK → Prop} {f : FS0} (slot : Slot "str" name id) (ty : typeOf (.builtin id) = pure (.type "method_descriptor")) (rule : MtR X id r) (hs : SRS0 X.K r f) (ho : AE X W o ta)
    (hbase : attributeBase o name X.env (eval o X.env) = eval o X.env := by rfl) (hline : (apos.endLine == pos.line) = true := by rfl) :
    AE X W (.Call (.Attribute o name apos) [] [] pos) (aSM0 f ta) := ⟨weakE (pe_m0 slot ty rule ho.pe hbase hline) fun σ H Qc h => by
  obtain ⟨Z, as, s, Q, E, R, q, L, LX⟩ := h
  refine conc_bind (Q1 := fun x s1 => opt (strD x) (fun z => f z s1 Q) ⟨⟩) R LX q fun x s1 v H1 R1 r1 f1 L1 q1 => ?_
  obtain ⟨z, ez, q2⟩ := opt_of q1
  obtain rfl := strD_v r1 ez
  exact ⟨⟨_, rfl⟩, hs Z H1 s1 z Q Qc R1.rep q2 (L.fr f1)⟩⟩
/-! ### a text parted at a sign -/
def sp1 (c : Nat) (z : List Nat) : List (List Nat) := TL.spl [c] 0 [] z
def sSplit : FS := fun z y s Q => match y with
  | .str [c] => Rq (c < 256 ∧ z.length + 2 ≤ 16777216) (Q (.lst ((sp1 c z).map .str)) s) ⟨⟩
  | _ => False
theorem sSplit_1 {z : List Nat} {c : Nat} {s : Ah} {Q : AVK} : sSplit z (.str [c]) s Q = Rq (c < 256 ∧ z.length + 2 ≤ 16777216) (Q (.lst ((sp1 c z).map .str)) s) ⟨⟩ := rfl
theorem rps_strs {K : PySem.W.Frag} {H : Hp} {N : Addr → Prop} : ∀ zs : List (List Nat), Rps K H N (zs.map D.str) ((zs.map ofL).map V.str)
  | [] => .nil
  | z :: zs => .cons (.str z) (rps_strs zs)
theorem srs_split {K : PySem.W.Frag} : SRS K (fun x xs H Q => ∃ a b, x = .str a ∧ xs = [.str b] ∧ (b.length == 0) = false ∧ a.length + 2 ≤ sizeLine ∧ rNewStrs (Txt.split a b) H Q) sSplit := by
  intro Z H s z y v Q Qc R r q L
  unfold sSplit at q
  split at q
  · rename_i c
    cases r
    obtain ⟨⟨h1, h2⟩, q⟩ := q
    refine ⟨_, _, rfl, rfl, rfl, by rw [ofL_len]; exact h2, fun p hp => ?_⟩
    have e : Txt.split (ofL z) (ofL [c]) = (sp1 c z).map ofL := by
      refine TL.map_tl_inj ?_
      rw [TL.split_spl (ofL z) (ofL [c]) (by show ([c] : List Nat) ≠ []; simp) (TL.kind_ok (by show ((ofL [c]).cps.all fun x => decide (x < 256)) = true; simp [ofL, h1])), List.map_map]
      exact (List.map_id _).symm
    rw [e]
    obtain ⟨R', f', n'⟩ := R.new (u := .lst (((sp1 c z).map ofL).map V.str)) hp
    exact L _ s _ _ R' (Rp.lst upd_same (by simpa using n') (rps_strs _)) f' q
  · exact q.elim
end Sk
namespace Sk
open PySem PySem.Spec PyProof.Rows L2
/-! ### dict displays with pairs -/
def kvD : List (D × D) → Option (List (Key × D))
  | [] => some []
  | (k, v) :: r => match keyD k with
    | some k' => (kvD r).map fun r' => (k', v) :: r'
    | none => none
theorem kvD_0 : kvD [] = some [] := rfl
theorem kvD_i {i : Int} {v : D} {r : List (D × D)} : kvD ((.int i, v) :: r) = (kvD r).map fun r' => (.inl i, v) :: r' := rfl
theorem kvD_s {z : List Nat} {v : D} {r : List (D × D)} : kvD ((.str z, v) :: r) = (kvD r).map fun r' => (.inr (ofL z), v) :: r' := rfl
def mergeA (kvs more : List (Key × D)) : List (Key × D) := more.foldl (fun acc kv => putA acc kv.1 kv.2) kvs
abbrev Rpp (K : PySem.W.Frag) (H : Hp) (N : Addr → Prop) : List (D × D) → List (V × V) → Prop := Paired fun p q => Rp K H N p.1 q.1 ∧ Rp K H N p.2 q.2
section
variable {K : PySem.W.Frag} {Z : Addr → Prop} {W : WX} {σ : L2.St} {H : Hp} {s : Ah}
theorem rkv_merge {N : Addr → Prop} {more : List (Key × D)} {mws : List (Key × V)} (r : Rkv K H N more mws) : ∀ {kvs : List (Key × D)} {ws : List (Key × V)}, Rkv K H N kvs ws → Rkv K H N (mergeA kvs more) (mergeK ws mws) := by
  induction r with
  | nil => intro kvs ws h; exact h
  | @cons p q ps qs h t ih =>
    intro kvs ws h0
    obtain ⟨e, hv⟩ := h
    have := ih (rkv_put h0 p.1 hv)
    rw [e] at this
    show Rkv K H N (mergeA (putA kvs p.1 p.2) ps) (mergeK (putK ws q.1 q.2) qs)
    rw [e]
    exact this
theorem kvD_rel {N : Addr → Prop} : ∀ {ps : List (D × D)} {vps : List (V × V)} {kvs : List (Key × D)}, Rpp K H N ps vps → kvD ps = some kvs → ∃ ws : List (Key × V), vps = ws.map (fun kv => (kV kv.1, kv.2)) ∧ Rkv K H N kvs ws ∧ ws.length = kvs.length
  | [], _, _, .nil, e => by cases e; exact ⟨[], rfl, .nil, rfl⟩
  | (k, v) :: r, _, kvs, .cons h t, e => by
    unfold kvD at e
    split at e
    · rename_i k' hk
      obtain ⟨r', e2, rfl⟩ := Option.map_eq_some_iff.mp e
      obtain ⟨ws, rfl, rw', hl⟩ := kvD_rel t e2
      refine ⟨(k', _) :: ws, ?_, .cons ⟨rfl, h.2⟩ rw', by rw [List.length_cons, List.length_cons, hl]⟩
      rw [List.map_cons, ← keyD_v h.1 hk]
    · cases e
end
def aPairs : List (ATE × ATE) → ASt → Ah → (List (D × D) → Ah → Prop) → AX → Prop
  | [], _, s, Q, _ => Q [] s
  | (k, v) :: r, as, s, Q, E => k as s (fun x s1 => v as s1 (fun y s2 => aPairs r as s2 (fun ps s3 => Q ((x, y) :: ps) s3) E) E) E
def aDisp (l : List (ATE × ATE)) : ATE := fun as s Q E => New s (fun p => aPairs l as (aup s p (.dK [])) (fun ps s2 => opt (kvD ps) (fun kvs => Rq (s2 p = some (.dK []) ∧ kvs.length ≤ 15) (Q (.ref p) (aup s2 p (.dK (mergeA [] kvs)))) ⟨⟩) ⟨⟩) E) ⟨⟩
theorem u_aDisp (l : List (ATE × ATE)) : ∀ as s Q E, aDisp l as s Q E = (New s (fun p => aPairs l as (aup s p (.dK [])) (fun ps s2 => opt (kvD ps) (fun kvs => Rq (s2 p = some (.dK []) ∧ kvs.length ≤ 15) (Q (.ref p) (aup s2 p (.dK (mergeA [] kvs)))) ⟨⟩) ⟨⟩) E) ⟨⟩) := fun _ _ _ _ => (rfl)
theorem u_aPairs0 : ∀ as s Q E, aPairs [] as s Q E = Q [] s := fun _ _ _ _ => (rfl)
theorem u_aPairs1 (k v : ATE) (r : List (ATE × ATE)) : ∀ as s Q E, aPairs ((k, v) :: r) as s Q E = (k as s (fun x s1 => v as s1 (fun y s2 => aPairs r as s2 (fun ps s3 => Q ((x, y) :: ps) s3) E) E) E) := fun _ _ _ _ => (rfl)
theorem mergeA_0 {kvs : List (Key × D)} : mergeA kvs [] = kvs := rfl
theorem mergeA_1 {kvs more : List (Key × D)} {p : Key × D} : mergeA kvs (p :: more) = mergeA (putA kvs p.1 p.2) more := rfl
section
variable {K : PySem.W.Frag} {Z : Addr → Prop} {W : WX} {σ : L2.St} {E : AX} {as : ASt}
theorem tPairs_conc : ∀ (l : List (ATE × ATE)) {H : Hp} {s : Ah} (_ : Rst K Z σ H as s) (_ : LnkX K Z W σ H s E) {Q1 : List (D × D) → Ah → Prop}, aPairs l as s Q1 E → ∀ {Qc : List (V × V) → Hp → Prop},
    (∀ ps s' vps H', Rst K Z σ H' as s' → Rpp K H' (Ow Z s') ps vps → Fr H s H' s' → LnkX K Z W σ H' s' E → Q1 ps s' → Qc vps H') → tPairs (l.map fun p => (concE K W p.1, concE K W p.2)) σ H Qc
  | [], H, s, R, L, Q1, q, Qc, k => k [] s [] H R .nil (Fr.refl H s) L q
  | (a, b) :: r, H, s, R, L, Q1, q, Qc, k => by
    refine conc_bind R L q fun d s1 x H1 R1 r1 f1 L1 q1 => ?_
    refine conc_bind R1 L1 q1 fun e s2 y H2 R2 r2 f2 L2 q2 => ?_
    refine tPairs_conc r R2 L2 q2 fun ps s3 vps H3 R3 rp f3 L3 q3 => ?_
    exact k ((d, e) :: ps) s3 ((x, y) :: vps) H3 R3 (.cons ⟨r1.fr (f2.trans f3), r2.fr f3⟩ rp) ((f1.trans f2).trans f3) L3 q3
end
structure APs (X : Cx) (W : WX) (pos : Pos) (keys : List (Option Expr)) (values : List Expr) (l : List (ATE × ATE)) : Prop where
  pp : PPs X pos keys values (l.map fun p => (concE X.K W p.1, concE X.K W p.2))
theorem aps_nil {X : Cx} {W : WX} {pos : Pos} : APs X W pos [] [] [] := ⟨pps_nil⟩
theorem aps_cons {X : Cx} {W : WX} {pos : Pos} {k v : Expr} {ks : List (Option Expr)} {vs : List Expr} {a b : ATE} {l : List (ATE × ATE)} (hk : AE X W k a) (hv : AE X W v b) (hr : APs X W pos ks vs l) : APs X W pos (some k :: ks) (v :: vs) ((a, b) :: l) := ⟨pps_cons hk.pe hv.pe hr.pp⟩
theorem ae_disp {X : Cx} {W : WX} {pos : Pos} {keys : List (Option Expr)} {values : List Expr} {l : List (ATE × ATE)} (h : APs X W pos keys values l) (hall : keys.all (·.isSome) = true) (hl : keys.length = values.length) (h0 : keys ≠ [])
    (h15 : keys.length ≤ 15) : AE X W (.Dict keys values pos) (aDisp l) := by
  refine ⟨weakE (pe_disp h.pp hall hl h0 h15) ?_⟩
  rintro σ H Qc ⟨Z, as, s, Q, E, R, q, L, LX⟩ p hp
  obtain ⟨R', f'⟩ := new_own R.rep hp (u := .dK []) (o := .dK []) rfl fun f => ⟨[], upd_same, .nil⟩
  refine tPairs_conc l (R.fr R' f') (LX.fr f') (q p (R.rep.no hp)) fun ps s2 vps H2 R2 rp f2 L2 q2 => ?_
  obtain ⟨kvs, ek, ⟨e2, l15⟩, q3⟩ := opt_of q2
  obtain ⟨ws, ew, rw', wl⟩ := kvD_rel rp ek
  obtain ⟨ws0, e2H, r0⟩ := R2.rep.at_ p _ e2
  cases r0
  refine ⟨e2H, ws, ew, by rw [wl]; exact l15, ?_⟩
  obtain ⟨R3, f3⟩ := set_own R2.rep e2 (u := .dK (mergeK [] ws)) (o := .dK (mergeA [] kvs)) rfl rfl fun f => ⟨_, upd_same, rkv_merge (rw'.fr f) .nil⟩
  exact L _ _ _ _ R3 (.ref p) ((f'.trans f2).trans f3) q3
/-! ### likeness of things whose members are lists of one's own -/
def viewV (s : Ah) (d : D) : D := match view s d with
  | .tup ds => .tup (ds.map (view s))
  | .lst ds => .lst (ds.map (view s))
  | e => e
theorem viewV_t {s : Ah} {ds : List D} : viewV s (.tup ds) = .tup (ds.map (view s)) := rfl
theorem viewV_l {s : Ah} {ds : List D} : viewV s (.lst ds) = .lst (ds.map (view s)) := rfl
theorem viewV_i {s : Ah} {i : Int} : viewV s (.int i) = .int i := rfl
theorem viewV_s {s : Ah} {z : List Nat} : viewV s (.str z) = .str z := rfl
def vVO (s : Ah) (a : Addr) (o : Option Ob) : D := match viewO a o with
  | .tup ds => .tup (ds.map (view s))
  | .lst ds => .lst (ds.map (view s))
  | e => e
theorem viewV_r {s : Ah} {a : Addr} : viewV s (.ref a) = vVO s a (s a) := rfl
theorem vVO_l {s : Ah} {a : Addr} {ds : List D} : vVO s a (some (.lst ds)) = .lst (ds.map (view s)) := rfl
theorem rpsV_dp {K : PySem.W.Frag} {Z : Addr → Prop} {H : Hp} {s : Ah} (R : Rep K Z H s) : ∀ {ds : List D} {vs : List V}, Rps K H (Ow Z s) ds vs → D.pure.pures (ds.map (view s)) = true → DpAll K H vs (D.py.pys (ds.map (view s)))
  | _, _, .nil, _ => .nil
  | _, _, .cons h t, p => by
    have p := Bool.and_eq_true_iff.mp p
    exact .cons (view_dp R h p.1) (rpsV_dp R t p.2)
theorem viewV_dp {K : PySem.W.Frag} {Z : Addr → Prop} {H : Hp} {s : Ah} {d : D} {v : V} (R : Rep K Z H s) (r : Rp K H (Ow Z s) d v) (p : (viewV s d).pure = true) : Dp K H v (viewV s d).py := by
  unfold viewV at p ⊢
  split at p
  · rename_i ds e
    obtain ⟨q, vs, rfl, h, n, rr⟩ := view_tup r e
    exact .tup (SqT.of h) (rpsV_dp R rr p)
  · rename_i ds e
    obtain ⟨q, vs, rfl, h, rr⟩ := view_lst R r e
    exact .lst h (rpsV_dp R rr p)
  · rename_i e1 e2
    exact view_dp R r p
def eqVD : F2 := fun x y => some (.bl (deq x y), okD x ∧ okD y)
theorem eqVD_e {x y : D} : eqVD x y = some (.bl (deq x y), okD x ∧ okD y) := rfl
def bOpV (f : F2) : AR2 := fun x y s Q => opt (f (viewV s x) (viewV s y)) (fun r => Rq r.2 (Q r.1 s) ⟨⟩) ⟨⟩
theorem u_bOpV (f : F2) : ∀ x y s Q, bOpV f x y s Q = (opt (f (viewV s x) (viewV s y)) (fun r => Rq r.2 (Q r.1 s) ⟨⟩) ⟨⟩) := fun _ _ _ _ => (rfl)
theorem sr_eqV {K : PySem.W.Frag} : SR K (rEqAll K) (bOpV eqVD) := by
  intro Z H s x y v u Q Qc R rx ry q L
  obtain ⟨⟨z, p⟩, e, hp, q⟩ := opt_of q
  cases e
  exact .inr ⟨_, _, viewV_dp R rx hp.1.1, viewV_dp R ry hp.2.1, hp.1.2, hp.2.2, L _ s _ H R (.bl _) (Fr.refl H s) q⟩
theorem sr_neV {K : PySem.W.Frag} : SR K (rNeAll K) (bOpV (notF eqVD)) := by
  intro Z H s x y v u Q Qc R rx ry q L
  obtain ⟨⟨z, p⟩, e, hp, q⟩ := opt_of q
  cases e
  exact .inr ⟨_, _, viewV_dp R rx hp.1.1, viewV_dp R ry hp.2.1, hp.1.2, hp.2.2, L _ s _ H R (.bl _) (Fr.refl H s) q⟩
def two2O (a b : Option (List D × (Ah → Prop))) : Option ((List D × (Ah → Prop)) × (List D × (Ah → Prop))) := match a, b with
  | some a, some b => some (a, b)
  | _, _ => none
theorem two2_c {s : Ah} {x y : D} : two2 s [x, y] = two2O (iterL s x) (iterL s y) := by
  show (match iterL s x, iterL s y with | some a, some b => some (a, b) | _, _ => none) = _
  unfold two2O
  rfl
theorem two2O_s {a b : List D × (Ah → Prop)} : two2O (some a) (some b) = some (a, b) := rfl
theorem zipD_map {α β : Type} {f : α → D} {g : β → D} : ∀ {l : List α} {k : List β}, zipD (l.map f) (k.map g) = (l.zip k).map fun p => .tup [f p.1, g p.2]
  | [], _ => by simp [zipD]
  | _ :: _, [] => by simp [zipD]
  | a :: l, b :: k => congrArg (D.tup [f a, g b] :: ·) (zipD_map (l := l) (k := k))
theorem zip_get {α β : Type} : ∀ {l : List α} {k : List β} {p : α × β}, p ∈ l.zip k → ∃ j : Nat, l[j]? = some p.1 ∧ k[j]? = some p.2
  | [], _, p, h => by simp at h
  | _ :: _, [], p, h => by simp at h
  | a :: l, b :: k, p, h => by
    rw [List.zip_cons_cons, List.mem_cons] at h
    rcases h with rfl | h
    · exact ⟨0, rfl, rfl⟩
    · obtain ⟨j, h1, h2⟩ := zip_get h
      exact ⟨j + 1, h1, h2⟩
theorem cut_map {α β : Type} {f : α → β} {l : List α} {a b : Option Int} : cut (l.map f) a b = (cut l a b).map f := by
  unfold cut
  rw [List.length_map, ← List.map_drop, ← List.map_take]
theorem cut_le {α : Type} {l : List α} {a b : Option Int} : (cut l a b).length ≤ l.length := by
  unfold cut
  rw [List.length_take, List.length_drop]
  omega
theorem ints_inj {l k : List Int} (h : l.map D.int = k.map D.int) : l = k := (List.map_inj_right fun a b h => by injection h).mp h
theorem tyA_r {s : Ah} {a : Addr} : tyA s (.ref a) = tyO (s a) := rfl
theorem tyO_l {ds : List D} : tyO (some (.lst ds)) = some "list" := rfl
theorem tyO_k {kvs : List (Key × D)} : tyO (some (.dK kvs)) = some "dict" := rfl
/-! ### list(range(n)) -/
def aLRg1 (a : ATE) : ATE := fun as s Q E => a as s (fun x s1 => opt (intD x) (fun n => Rq (RgOk 0 n) (Q (.lst (rng 0 n.toNat)) s1) ⟨⟩) ⟨⟩) E
theorem u_aLRg1 (a : ATE) : ∀ as s Q E, aLRg1 a as s Q E = (a as s (fun x s1 => opt (intD x) (fun n => Rq (RgOk 0 n) (Q (.lst (rng 0 n.toNat)) s1) ⟨⟩) ⟨⟩) E) := fun _ _ _ _ => (rfl)
theorem rps_rng {K : PySem.W.Frag} {H : Hp} {N : Addr → Prop} {n : Int} : Rps K H N (rng 0 n.toNat) (rgV 0 n) := by
  have h := rpsIm (K := K) (H := H) (N := N) (fun i : Nat => 0 + (i : Int)) (List.range n.toNat)
  rw [List.map_map] at h
  unfold rgV
  rw [Int.sub_zero]
  exact h
theorem ae_listRg1 {X : Cx} {W : WX} {a : Expr} {ta : ATE} {p p2 pos pos2 : Pos} (hc : X.calm = true) (hgl : Gl X (Str.ofString "list")) (hml : X.mg (Str.ofString "list") = none) (hg : Gl X (Str.ofString "range")) (hm : X.mg (Str.ofString "range") = none) (ha : AE X W a ta)
    (h1 : starEach [a] X.env = (false, eval a X.env) :: starEach [] X.env := by rfl) (h2 : starEach [.Call (.Name (Str.ofString "range") p2) [a] [] pos2] X.env = (false, eval (.Call (.Name (Str.ofString "range") p2) [a] [] pos2) X.env) :: starEach [] X.env := by rfl) :
    AE X W (.Call (.Name (Str.ofString "list") p) [.Call (.Name (Str.ofString "range") p2) [a] [] pos2] [] pos) (aLRg1 ta) := by
  refine ⟨weakE (pe_listRg hc hgl hml (prg_1 hg hm ha.pe h1) h2) ?_⟩
  rintro σ H Qc ⟨Z, as, s, Q, E, R, q, L, LX⟩
  refine conc_bind (Q1 := fun x s1 => opt (intD x) (fun n => Rq (RgOk 0 n) (Q (.lst (rng 0 n.toNat)) s1) ⟨⟩) ⟨⟩) R LX q fun x s1 v H1 R1 r1 f1 L1 q1 => ?_
  obtain ⟨n, e, ok, q2⟩ := opt_of q1
  refine ⟨n, intD_v r1 e, ok, fun p0 hp0 => ?_⟩
  obtain ⟨R', f', _⟩ := R1.rep.new (u := .lst (rgV 0 n)) hp0
  exact L _ _ _ _ R' (rp_newL R1.rep rps_rng hp0) (f1.trans f') q2
/-! ### d.get(k, x) -/
def refD1 : D → Option Addr
  | .ref a => some a
  | _ => none
theorem refD1_r {a : Addr} : refD1 (.ref a) = some a := rfl
def isDO : Option Ob → Prop
  | some (.dK _) => True
  | some (.dT _) => True
  | _ => False
theorem isDO_k {kvs : List (Key × D)} : isDO (some (.dK kvs)) = True := rfl
def aDGet2 (a b c : ATE) : ATE := fun as s Q E => a as s (fun x s1 => opt (refD1 x) (fun p => Rq (isDO (s1 p)) (b as s1 (fun y s2 => c as s2 (fun z s3 => opt (getA s3 p y) (fun o => Q (o.getD z) s3) ⟨⟩) E) E) ⟨⟩) ⟨⟩) E
theorem u_aDGet2 (a b c : ATE) : ∀ as s Q E, aDGet2 a b c as s Q E = (a as s (fun x s1 => opt (refD1 x) (fun p => Rq (isDO (s1 p)) (b as s1 (fun y s2 => c as s2 (fun z s3 => opt (getA s3 p y) (fun o => Q (o.getD z) s3) ⟨⟩) E) E) ⟨⟩) ⟨⟩) E) := fun _ _ _ _ => (rfl)
theorem ae_dget2 {X : Cx} {W : WX} {o e f : Expr} {apos cpos : Pos} {ta tb tc : ATE} (hu : X.A.units + 65 < cLine) (ho : AE X W o ta) (he : AE X W e tb) (hf : AE X W f tc) (m : M2 X o "get" apos e f cpos) : AE X W (.Call (.Attribute o "get" apos) [e, f] [] cpos) (aDGet2 ta tb tc) := ⟨weakE (pe_dget2 (by omega) ho.pe he.pe hf.pe m) fun σ H Qc h => by
  obtain ⟨Z, as, s, Q, E, R, q, L, LX⟩ := h
  refine conc_bind (Q1 := fun x s1 => opt (refD1 x) (fun p => Rq (isDO (s1 p)) (tb as s1 (fun y s2 => tc as s2 (fun z s3 => opt (getA s3 p y) (fun o => Q (o.getD z) s3) ⟨⟩) E) E) ⟨⟩) ⟨⟩) R LX q fun x s1 v H1 R1 r1 f1 L1 q1 => ?_
  obtain ⟨p, ep, hd, q2⟩ := opt_of q1
  have ex : x = .ref p := by
    unfold refD1 at ep
    split at ep
    · cases ep; rfl
    · cases ep
  subst ex
  cases r1
  have hD : IsD H1 p := by
    unfold isDO at hd
    split at hd
    · rename_i kvs e
      obtain ⟨ws, e2, _⟩ := R1.rep.at_ p _ e
      exact .inl ⟨ws, .inl e2⟩
    · rename_i kvs e
      obtain ⟨ws, e2, _⟩ := R1.rep.at_ p _ e
      exact .inr ⟨ws, .inl e2⟩
    · exact hd.elim
  refine ⟨p, rfl, hD, conc_bind (Q1 := fun y s2 => tc as s2 (fun z s3 => opt (getA s3 p y) (fun o => Q (o.getD z) s3) ⟨⟩) E) R1 L1 q2 fun y s2 u H2 R2 r2 f2 L2 q3 => ?_⟩
  refine conc_bind (Q1 := fun z s3 => opt (getA s3 p y) (fun o => Q (o.getD z) s3) ⟨⟩) R2 L2 q3 fun z s3 w H3 R3 r3 f3 L3 q4 => ?_
  obtain ⟨o, eo, q5⟩ := opt_of q4
  obtain ⟨g1, g2⟩ := getA_ok R3.rep (r2.fr f3) eo
  have LL := L.fr ((f1.trans f2).trans f3)
  cases o with
  | none => exact ⟨none, g2 rfl, LL.here R3.rep r3 q5⟩
  | some d =>
    obtain ⟨w', h1, h2⟩ := g1 d rfl
    exact ⟨some w', h1, LL.here R3.rep h2 q5⟩⟩
def gOI (i : Int) : Option Ob → Option (Option D)
  | some (.dK kvs) => some (valA kvs (.inl i))
  | _ => none
theorem getA_i {s : Ah} {p : Addr} {i : Int} : getA s p (.int i) = gOI i (s p) := by
  unfold getA gOI
  cases s p with
  | none => rfl
  | some o => cases o <;> rfl
theorem gOI_k {i : Int} {kvs : List (Key × D)} : gOI i (some (.dK kvs)) = some (valA kvs (.inl i)) := rfl
theorem optD_s {x z : D} : (some x).getD z = x := rfl
theorem optD_n {z : D} : (none : Option D).getD z = z := rfl
/-! ### list(x) of a text too -/
theorem call_list_txt {X : Cx} (hc : X.calm = true) : CallR X (.type "list") (fun xs H Q => ∃ z : Str, xs = [.str z] ∧ z.length ≤ sizeLine ∧ ∀ l, H l = none → Q (.ref l) (upd H l (.lst (z.cps.toList.map fun c => V.str ⟨#[c]⟩)))) := by
  intro pins s σ H xs us Q I r h
  obtain ⟨z, rfl, hz, q⟩ := h
  obtain ⟨u, rfl, t, rfl⟩ := vals1 r
  refine PySem.call_list_str (I.ok.hd hc) z t (fun h' tk acc c' hk e hi => ?_) hz
  refine ⟨.ref s.heap.objs.size, upd H s.heap.objs.size (.lst (z.cps.toList.map fun c => V.str ⟨#[c]⟩)), I.laid hk (Nat.le_refl _) ⟨by rw [List.length_map, Array.length_toList]; exact hz, acc.toList, c', ?_, by rw [Array.toArray_toList]; exact e⟩, rfl, q _ (I.hok.fresh (Nat.le_refl _))⟩
  refine vals_of_idx _ _ (by rw [List.length_map, Array.length_toList, Array.length_toList]; exact hi.1) fun j u hj => ?_
  obtain ⟨c, t', hc, rfl⟩ := hi.2 j u (by rw [← Array.getElem?_toList]; exact hj)
  exact ⟨.str ⟨#[c]⟩, by simp [hc], ⟨_, rfl⟩⟩
def seqSV : D → Option DP
  | .lst ds => some (.lst ds, True)
  | .tup ds => some (.lst ds, True)
  | .str z => some (.lst (sgs z), z.length ≤ 16777216)
  | _ => none
def listSX : FL := fun s xs => (vw1 s xs).bind seqSV
theorem u_listSX : ∀ s xs, listSX s xs = (vw1 s xs).bind seqSV := fun _ _ => rfl
theorem seqSV_l {ds : List D} : seqSV (.lst ds) = some (.lst ds, True) := rfl
theorem seqSV_t {ds : List D} : seqSV (.tup ds) = some (.lst ds, True) := rfl
theorem seqSV_s {z : List Nat} : seqSV (.str z) = some (.lst (sgs z), z.length ≤ 16777216) := rfl
theorem rps_sgs {K : PySem.W.Frag} {H : Hp} {N : Addr → Prop} : ∀ z : List Nat, Rps K H N (sgs z) (z.map fun c => V.str ⟨#[c]⟩)
  | [] => .nil
  | c :: z => .cons (Rp.str [c]) (rps_sgs z)
def rListS (K : PySem.W.Frag) : List V → Hp → VK → Prop := fun xs H Q => (∃ p ys, xs = [.ref p] ∧ (SqL K H p ys ∨ SqT K H p ys) ∧ ∀ l, H l = none → Q (.ref l) (upd H l (.lst ys))) ∨ ∃ z : Str, xs = [.str z] ∧ z.length ≤ sizeLine ∧ ∀ l, H l = none → Q (.ref l) (upd H l (.lst (z.cps.toList.map fun c => V.str ⟨#[c]⟩)))
theorem call_listS {X : Cx} (hc : X.calm = true) : CallR X (.type "list") (rListS X.K) := CallR.or call_list_of (call_list_txt hc)
theorem srl_listS {K : PySem.W.Frag} : SRL K (rListS K) (bL listSX) := srl_of fun Z H s xs vs z p R r e hp Qc k kn => by
  obtain ⟨d, e1, e2⟩ := Option.bind_eq_some_iff.mp e
  unfold seqSV at e2
  split at e2
  · rename_i ds
    cases e2
    obtain ⟨a, ws, rfl, h1, r1⟩ := seq_ok R r (ds := ds) (by rw [e1]; rfl)
    exact .inl ⟨a, ws, rfl, h1, kn _ fun q hq => ⟨_, rp_newL R r1 hq, rfl⟩⟩
  · rename_i ds
    cases e2
    obtain ⟨a, ws, rfl, h1, r1⟩ := seq_ok R r (ds := ds) (by rw [e1]; rfl)
    exact .inl ⟨a, ws, rfl, h1, kn _ fun q hq => ⟨_, rp_newL R r1 hq, rfl⟩⟩
  · rename_i y
    cases e2
    obtain ⟨x, v, e3, rfl, rx⟩ := vw1_ok r e1
    obtain rfl := view_str rx e3.symm
    exact .inr ⟨ofL y, rfl, hp, kn _ fun q hq => ⟨_, rp_newL R (rps_sgs y) hq, rfl⟩⟩
  · cases e2
/-! ### t[::-1] of a tuple -/
theorem getItem_tuple_rev {prog : Program} {w : World} {A : Around} {E : Value → Shared → Prop} {s : Shared} {t sl : Addr} {items : Array Value} {vl vu vs : Value} {Q : Value → Shared → Prop} (ht : IsTup s.heap t items) (hs : s.heap.IsSliceOf sl vl vu vs) (pl : IsPart vl none) (pu : IsPart vu none) (ps : IsPart vs (some (-1)))
    (h : Q (.ref s.heap.objs.size) { s with heap := s.heap.push { cls := .type "tuple", data := .seq items.toList.reverse.toArray } })
    (hsz : items.size ≤ sizeLine) : wpAny (model prog w) A (getItem (.ref t) (.ref sl)) Q E s := by
  have htake : sizeOk (.seq items.toList.reverse.toArray) := by
    show items.toList.reverse.toArray.size ≤ sizeLine
    rw [List.size_toArray, List.length_reverse, Array.length_toList]
    exact hsz
  obtain ⟨os, hos, hcs, hds⟩ := id hs
  have hTs : s.TypeIs (.ref sl) "slice" := ⟨os, hos, hcs⟩
  unfold getItem
  try with_reducible refine wpAny_holding ?_
  first | refine wpAny_bind (wpAny_pure ?_) | skip
  refine wpAny_bind (wpAny_sequenceKey ht.typeIs (by decide) ?_)
  refine wpAny_bind (wpAny_callSpecial?_slot (name := Str.ofString "__getitem__") ht.typeIs PyProof.Rows.slot_tuple_getitem
    (wpAny_call_entry PyProof.Rows.slot_tuple_getitem ht.typeIs PyProof.Rows.entry_tuple_getitem ?_ (PyProof.Rows.args_tuple_getitem _ _)))
  show wpAny _ _ (Builtin.Tuple.tupleItemsOf (.ref t) >>= _) _ _ s
  refine wpAny_bind (tupleItemsOf_ ht ?_)
  refine wpAny_bind (wpAny_typeOf hTs ?_)
  rw [if_pos (by decide)]
  have hap : ∀ {Q' : Int × Int × Nat → Shared → Prop}, Q' ((items.size : Int) - 1, -1, items.size) s → wpAny (model prog w) A.in1 (Builtin.Slice.sliceApplied (.ref sl) (pure (items.size : Int))) Q' E s := fun {Q'} hq => by
    unfold Builtin.Slice.sliceApplied Builtin.Slice.sliceFields
    refine wpAny_bind (wpAny_bind (wpAny_field hos hds (x := vl) rfl (wpAny_bind (wpAny_field hos hds (x := vu) rfl (wpAny_bind (wpAny_field hos hds (x := vs) rfl (wpAny_pure ?_)))))))
    refine wpAny_bind (HT.slicePart_ ps ?_)
    show wpAny _ _ (if ((-1 : Int) == 0) = true then _ else _) _ _ s
    rw [if_neg (by decide)]
    refine wpAny_bind (HT.slicePart_ pl (wpAny_bind (HT.slicePart_ pu (wpAny_bind (wpAny_pure ?_)))))
    have e : Builtin.Slice.slicePlaces ((items.size : Int) - 1) (-1) (-1) = items.size := by
      unfold Builtin.Slice.slicePlaces
      have h1 : ¬ ((-1 : Int) > 0) := by decide
      simp only [h1, if_false]
      split
      · rw [show (- -1 : Int) = 1 by decide, Int.ediv_one]; omega
      · omega
    show wpAny _ _ (pure ((items.size : Int) - 1, (-1 : Int), Builtin.Slice.slicePlaces ((items.size : Int) - 1) (-1) (-1))) _ _ s
    rw [e]
    exact wpAny_pure hq
  refine wpAny_bind (hap ?_)
  have hno : ¬ ((((items.size : Int) - 1) == 0 && (-1 : Int) == 1 && items.size == items.size) = true) := by
    intro q
    rw [Bool.and_eq_true, Bool.and_eq_true] at q
    exact absurd (eq_of_beq q.1.2) (by decide)
  show wpAny _ _ (if (((items.size : Int) - 1) == 0 && (-1 : Int) == 1 && items.size == items.size) = true then _ else _) _ _ s
  have ep : ((List.range items.size).filterMap fun (k : Nat) => items[(((items.size : Int) - 1) + (k : Int) * (-1)).toNat]?).toArray = items.toList.reverse.toArray := by
    congr 1
    have e1 : (fun (k : Nat) => items[(((items.size : Int) - 1) + (k : Int) * (-1)).toNat]?) = fun k => items[items.size - 1 - k]? := by
      funext k
      have : (((items.size : Int) - 1) + (k : Int) * (-1)).toNat = items.size - 1 - k := by omega
      rw [this]
    rw [e1]
    have e2 := PySem.W.krv_range items.size
    rw [← PySem.W.krv_all items, ← List.filterMap_reverse, ← e2, List.filterMap_map]
    rfl
  rw [if_neg hno, ep]
  first
    | exact wpAny_bind (m := Builtin.Tuple.tupleExact _) (wpAny_newObj_type (wpAny_pure ⟨_, rfl, wpAny_pure h⟩) htake)
    | exact wpAny_bind (m := Builtin.Tuple.tupleExact _) (wpAny_newObj_type (wpAny_bind (wpAny_pure (wpAny_pure ⟨_, rfl, wpAny_pure h⟩))) htake)
    | exact wpAny_bind (wpAny_bind (m := Builtin.Tuple.tupleExact _) (wpAny_newObj_type (wpAny_pure (wpAny_pure ⟨_, rfl, wpAny_pure h⟩)) htake))
    | exact wpAny_bind (wpAny_bind (m := Builtin.Tuple.tupleExact _) (wpAny_newObj_type (wpAny_pure ⟨_, rfl, wpAny_pure h⟩) htake))
def tRevA (K : PySem.W.Frag) (te : TE) : TE := fun σ H Q => te σ H fun x H1 => (∃ a xs, x = .ref a ∧ SqL K H1 a xs ∧ ∀ p, H1 p = none → Q (.ref p) (upd H1 p (.lst xs.reverse))) ∨
  (∃ z : Str, x = .str z ∧ z.length ≤ sizeLine ∧ Q (.str ⟨z.cps.toList.reverse.toArray⟩) H1) ∨ ∃ a xs, x = .ref a ∧ SqT K H1 a xs ∧ ∀ p, H1 p = none → Q (.ref p) (upd H1 p (.tup xs.reverse))
theorem pe_revA {X : Cx} {e : Expr} {te : TE} {k : Nat} {p1 p2 p3 pos : Pos} (he : PE X e te) : PE X (.Subscript e (.Slice none none (some (.UnaryOp .USub (.Constant (.int 1) k p1) p2)) p3) pos) (tRevA X.K te) := by
  refine ⟨fun pins s σ H Q I h => ?_⟩
  refine Subscript_ (thn (he.run pins s σ H _ I h) fun v s1 ⟨x, H1, I1, r1, q1⟩ => ?_)
  have hst : PO X (some (.UnaryOp .USub (.Constant (.int 1) k p1) p2)) (tPart (tUn (rU fun i => .int (-i)) (tC (.int 1)))) := po_some (pe_un un_neg pe_int)
  refine wpAny_Slice (thn (po_none.run pins s1 σ H1 (fun o H2 => o = none ∧ H2 = H1) I1 ⟨rfl, rfl⟩) fun vl s2 ⟨l, H2, I2, pl, el, e2⟩ => ?_)
  subst el e2
  refine thn (po_none.run pins s2 σ H2 (fun o H3 => o = none ∧ H3 = H2) I2 ⟨rfl, rfl⟩) fun vu s3 ⟨u, H3, I3, pu, eu, e3⟩ => ?_
  subst eu e3
  refine thn (hst.run pins s3 σ H3 (fun o H4 => o = some (-1) ∧ H4 = H3) I3 ⟨1, rfl, -1, rfl, rfl, rfl⟩) fun vs s4 ⟨o, H4, I4, ps, eo, e4⟩ => ?_
  subst eo e4
  have I5 : Inv X pins σ H4 { s4 with heap := s4.heap.push { cls := .type "slice", data := .fields #[vl, vu, vs] } } := I4.kept (t' := s4.toks) fun b ob q => Heap.get?_push_of_some _ q
  rcases q1 with ⟨a, xs, ex, hx, q⟩ | ⟨z, ex, hz, q⟩ | ⟨a, xs, ex, hx, q⟩
  · subst ex
    cases r1
    obtain ⟨its, r, ht, hz⟩ := I5.list hx
    have hlen := r.length
    show wpAny (model X.prog X.w) X.A (subscriptTail e (.Slice none none (some (.UnaryOp .USub (.Constant (.int 1) k p1) p2)) p3) (.ref a) (.ref s4.heap.objs.size)) (EP X pins σ Q) X.xe { s4 with heap := s4.heap.push { cls := .type "slice", data := .fields #[vl, vu, vs] } }
    refine tail_any (ops := [.ref a, .ref s4.heap.objs.size]) ht.isList.typeIs (PySem.slot_list_getitem.lookup) ?_ (by with_unfolding_all rfl)
    refine wpAny_getItem_list_slice ht.isList (Heap.IsSliceOf.new _ vl vu vs) pl pu ps (by decide) ?_ (by rw [List.size_toArray]; omega)
    rw [PySem.W.krv_pick]
    refine ⟨.ref _, _, I5.laid (t' := s4.toks) (o := .lst xs.reverse) (fun b ob q => Heap.get?_push_of_some _ q) (Nat.le_refl _) ?_, rfl, q _ (I5.hok.fresh (Nat.le_refl _))⟩
    exact ⟨by rw [List.length_reverse]; exact hz, _, 0, r.reverse, Heap.get?_push_size _ rfl⟩
  · subst ex
    obtain ⟨t, rfl⟩ := r1
    cases pl
    cases pu
    cases ps with
    | int i t2 =>
      show wpAny (model X.prog X.w) X.A (subscriptTail e (.Slice none none (some (.UnaryOp .USub (.Constant (.int 1) k p1) p2)) p3) (.str z t) (.ref s4.heap.objs.size)) (EP X pins σ Q) X.xe { s4 with heap := s4.heap.push { cls := .type "slice", data := .fields #[.none, .none, .int (-1) t2] } }
      refine tail_any (ops := [.str z t, .ref s4.heap.objs.size]) (typeIs_str _ _ _) F.slot_str_getitem.lookup ?_ (by with_unfolding_all rfl)
      refine wpAny_getItem_str_slice (l := none) (u := none) (st := some (-1, t2)) ⟨_, Heap.get?_push_size _ rfl, rfl, rfl⟩ rfl ?_
      rw [slice_rev]
      exact ⟨by show (z.cps.toList.reverse.toArray).size ≤ _; rw [List.size_toArray, List.length_reverse]; exact hz, .str _, _, I5.tok _, ⟨_, rfl⟩, q⟩
  · subst ex
    cases r1
    obtain ⟨its, r, ht, hz⟩ := I5.tuple hx
    have hlen := r.length
    show wpAny (model X.prog X.w) X.A (subscriptTail e (.Slice none none (some (.UnaryOp .USub (.Constant (.int 1) k p1) p2)) p3) (.ref a) (.ref s4.heap.objs.size)) (EP X pins σ Q) X.xe { s4 with heap := s4.heap.push { cls := .type "slice", data := .fields #[vl, vu, vs] } }
    refine tail_any (ops := [.ref a, .ref s4.heap.objs.size]) ht.typeIs (PyProof.Rows.slot_tuple_getitem.lookup) ?_ (by with_unfolding_all rfl)
    refine getItem_tuple_rev ht (Heap.IsSliceOf.new _ vl vu vs) pl pu ps ?_ (by rw [List.size_toArray]; omega)
    refine ⟨.ref _, _, I5.laid (t' := s4.toks) (o := .tup xs.reverse) (fun b ob q => Heap.get?_push_of_some _ q) (Nat.le_refl _) ?_, rfl, q _ (I5.hok.fresh (Nat.le_refl _))⟩
    exact ⟨by rw [List.length_reverse]; exact hz, _, r.reverse, by rw [List.toList_toArray]; exact IsTup.new _ _⟩
def rvA : D → Option (D × Prop)
  | .lst ds => some (.lst ds.reverse, True)
  | .str z => some (.str z.reverse, z.length ≤ 16777216)
  | .tup ds => some (.tup ds.reverse, True)
  | _ => none
theorem rvA_l {ds : List D} : rvA (.lst ds) = some (.lst ds.reverse, True) := rfl
theorem rvA_s {z : List Nat} : rvA (.str z) = some (.str z.reverse, z.length ≤ 16777216) := rfl
theorem rvA_t {ds : List D} : rvA (.tup ds) = some (.tup ds.reverse, True) := rfl
def aRevA (a : ATE) : ATE := fun as s Q E => a as s (fun x s1 => opt (rvA (view s1 x)) (fun r => Rq r.2 (Q r.1 s1) ⟨⟩) ⟨⟩) E
theorem u_aRevA (a : ATE) : ∀ as s Q E, aRevA a as s Q E = (a as s (fun x s1 => opt (rvA (view s1 x)) (fun r => Rq r.2 (Q r.1 s1) ⟨⟩) ⟨⟩) E) := fun _ _ _ _ => (rfl)
theorem ae_revA {X : Cx} {W : WX} {e : Expr} {te : ATE} {k : Nat} {p1 p2 p3 pos : Pos} (he : AE X W e te) : AE X W (.Subscript e (.Slice none none (some (.UnaryOp .USub (.Constant (.int 1) k p1) p2)) p3) pos) (aRevA te) := by
  refine ⟨weakE (pe_revA he.pe) ?_⟩
  rintro σ H Qc ⟨Z, as, s, Q, E, R, q, L, LX⟩
  refine conc_bind (Q1 := fun x s1 => opt (rvA (view s1 x)) (fun r => Rq r.2 (Q r.1 s1) ⟨⟩) ⟨⟩) R LX q fun x s1 v H1 R1 r1 f1 L1 q1 => ?_
  obtain ⟨⟨z, p⟩, e, hp, q2⟩ := opt_of q1
  unfold rvA at e
  split at e
  · rename_i e1
    cases e
    obtain ⟨a, vs, rfl, h1, r2⟩ := view_lst R1.rep r1 e1
    refine .inl ⟨a, vs, rfl, h1, fun p0 hp0 => ?_⟩
    obtain ⟨R', f', _⟩ := R1.rep.new (u := .lst vs.reverse) hp0
    exact L _ _ _ _ R' (rp_newL R1.rep r2.rev hp0) (f1.trans f') q2
  · rename_i z' e1
    cases e
    cases view_str r1 e1
    refine .inr (.inl ⟨_, rfl, by rw [ofL_len]; exact hp, L _ _ _ _ R1.rep (rp_str (l := z'.reverse) rfl) f1 q2⟩)
  · rename_i e1
    cases e
    obtain ⟨a, vs, rfl, h1, n1, r2⟩ := view_tup r1 e1
    refine .inr (.inr ⟨a, vs, rfl, SqT.of h1, fun p0 hp0 => ?_⟩)
    obtain ⟨R', f', _⟩ := R1.rep.new (u := .tup vs.reverse) hp0
    exact L _ _ _ _ R' (rp_newT R1.rep r2.rev hp0) (f1.trans f') q2
  · cases e
end Sk
namespace Sk
open PySem PySem.Spec PyProof.Rows L2
/-! ### an error that is kept beyond its suite -/
def wAsK (K : PySem.W.Frag) (c : Value) (i : Nat) (ts : Addr → Value → Option Addr → TS) (tr : Addr → Value → Option Addr → TS) (Wout : WX) (D : Ends) : WX := fun cls d σ H =>
  ∃ b, PySem.W.exmOne K cls c = some b ∧ (b = true → ∀ a, H a = none → ts a cls d { nx := fun σ' H' => tr a cls d D (σ'.set i none) H', rt := D.rt, bk := fun σ' H' => D.bk (σ'.set i none) H', ct := fun σ' H' => D.ct (σ'.set i none) H' } (σ.set i (some (.ref a))) H) ∧
    (b = false → Wout cls d σ H)
section
variable {X : Cx} {pins : List (Addr × Obj)} {σ : L2.St} {H : Hp} {s : Shared}
theorem Inv.ofTryK {q : Addr × Obj} {pn' : List (Addr × Obj)} {xe : Value → Shared → Prop} (I : Inv (X.tr (q :: (X.pn ++ pins)) xe) pn' σ H s) (ok : X.Ok) : Inv X pins σ H s :=
  ⟨ok, I.os, I.bare, I.base, I.loc, I.cell, I.free, I.freeC, fun p hp => I.pin p (List.mem_append_left _ (List.mem_cons_of_mem _ hp)), I.hok, I.len⟩
theorem Inv.unsuiteK {a : Addr} {q : Addr × Obj} {pn' : List (Addr × Obj)} {xe : Value → Shared → Prop} (I : Inv (X.suite a (q :: (X.pn ++ pins))) pn' σ H s) (ok : X.Ok) : Inv (X.tr (q :: (X.pn ++ pins)) xe) [] σ H s :=
  ⟨ok.toTry _ _, I.os, I.bare, I.base, I.loc, I.cell, I.free, I.freeC, fun p hp => I.pin p (by rw [List.append_nil] at hp; exact List.mem_append_left _ hp), I.hok, I.len⟩
theorem takes_tr {W : WX} {q : Addr × Obj} {pins : List (Addr × Obj)} (ok : X.Ok) (tk : Takes X W) : Takes (X.tr (q :: (X.pn ++ pins)) X.xe) W := fun u s' ⟨a, B, sI, pins', σ, H, cls, d, e, J', nb, up, sky, na, os, ag, w⟩ =>
  tk u s' ⟨a, B, sI, pins, σ, H, cls, d, e, Inv.ofTryK J' ok, nb, up, sky, na, os, ag, w⟩
end
section
variable {X : Cx} {x n : Str} {c : Value} {i : Nat} {body suite rest : List Stmt} {b₀ : Stmt} {np pos pos' : Pos} {tb : WX → TS} {ts tr : Addr → Value → Option Addr → TS} {t0 : TS} {Wout : WX}
theorem try_as_keep (hs : X.stack = X.env :: X.outer) (hf : X.env.frame = some X.env.locals) (hN : X.N.Nodup) (hi : X.N[i]? = some n) (hln : X.env.kindOf n = some .local) (hc : Names X x c) (tk : Takes X Wout)
    (hb : ∀ (W : WX) (pn : List (Addr × Obj)) (xe : Value → Shared → Prop), Takes (X.tr pn xe) W → PassesOwn (model X.prog X.w) X.A X.env xe → PSs (X.tr pn xe) body (tb W))
    (hsu : ∀ (a : Addr) (oe : Obj) (cls : Value) (d : Option Addr) (pn : List (Addr × Obj)), Zc cls d oe → (∃ vs, oe.data = .fields vs) → PSs (X.suite a ((a, oe) :: pn)) (b₀ :: suite) (ts a cls d))
    (pins : List (Addr × Obj)) (s : Shared) (σ : L2.St) (H : Hp) (D : Ends) (I : Inv X pins σ H s) (h : tb (wAsK X.K c i ts tr Wout D) { D with nx := t0 D } σ H) (PQ : Flow → Shared → Prop)
    (q0 : ∀ s1 σ' H', Inv X pins σ' H' s1 → t0 D σ' H' → PQ .next s1)
    (q1 : ∀ a oe cls d s1 σ' H', Zc cls d oe → (∃ vs, oe.data = .fields vs) → Inv (X.tr ((a, oe) :: (X.pn ++ pins)) X.xe) [] σ' H' s1 → tr a cls d D σ' H' → PQ .next s1)
    (qb : ∀ s1 σ' H', Inv X pins σ' H' s1 → D.bk σ' H' → PQ .brk s1) (qc : ∀ s1 σ' H', Inv X pins σ' H' s1 → D.ct σ' H' → PQ .cont s1)
    (qr : ∀ s1 σ' H' v u, Inv X pins σ' H' s1 → RelV v u → D.rt v H' → PQ (.ret u) s1) :
    wpAny (model X.prog X.w) X.A (exec (.Try body [.ExceptHandler (some (.Name x np)) (some n) (b₀ :: suite) pos'] [] [] pos) X.env) PQ X.xe s := by
  have ok := I.ok
  have hfr : X.A.frames = some (X.env :: X.outer) := by rw [ok.frames, hs]
  have hloc : Loc X.env.scope n := .inl hln
  refine wpAny_Try_except ?_
  refine wpAny_mono ((hb (wAsK X.K c i ts tr Wout D) (X.pn ++ pins) (fun e s₁ => wpAny (model X.prog X.w) X.A (noteFrame e X.env) (fun _ s₂ => wpAny (model X.prog X.w) X.A (setFlight e none) (fun _ s₃ =>
    wpAny (model X.prog X.w) X.A (handleBy e X.env [.ExceptHandler (some (.Name x np)) (some n) (b₀ :: suite) pos']) PQ X.xe s₃) X.xe s₂) X.xe s₁) (fun u s' xx => ?_) PassesOwn.looking).run [] s σ H { D with nx := t0 D } (I.toTry _) h) (fun f s1 hsp => ?_) (fun e s1 he => he)
  · obtain ⟨a, B, sI, pins', σ', H', cls, d, rfl, J', nb, up, sky, na, os, ag, b, hb1, hyes, hno⟩ := xx
    have J : Inv X pins σ' H' sI := J'.ofTry ok
    have sky' : Sky B (X.env :: X.outer) a (Zc cls d) X.env.locals s'.heap := by rw [← hs]; exact sky
    show wpAny (model X.prog X.w) X.A (noteFrame (.ref a) X.env) _ _ _
    refine Sky.land Zc.steady hfr hf sky' fun h3 fl3 up3 => ?_
    have J3 : Inv X pins σ' H' { s' with heap := h3 } := J.landed nb fl3.1 (up.trans up3) os ag
    obtain ⟨oe3, vs3, he3, hz3, hd3⟩ := fl3.there
    have notFr : ∀ {h : Heap} {o : Obj} {vs : Array Value}, h.FunFrames B (X.env :: X.outer) → h.get? a = some o → o.data = .fields vs → a ∉ frs (X.env :: X.outer) := fun {h o vs} ff e dd hm => by
      obtain ⟨_, o', e', hnf⟩ := ff.mem hm
      rw [e] at e'; cases e'
      exact hnf _ dd
    have nfr := notFr fl3.2.2.1 he3 hd3
    have nL : a ≠ X.env.locals := fun z => nfr (List.mem_filterMap.mpr ⟨X.env, List.mem_cons_self, by rw [hf, z]⟩)
    have nF : a ∉ X.fs := fun hm => by
      obtain ⟨e, he, q⟩ := List.mem_filterMap.mp hm
      exact nfr (List.mem_filterMap.mpr ⟨e, List.mem_cons_of_mem _ he, q⟩)
    have S3 := J3.suite he3 hd3 na nL nF
    refine wpAny_handleBy_cons (codeAny_handlers_test ?_) (by intro q; cases q)
    have LT : PySem.W.Looks (model X.prog X.w) h3 (typeOf (.ref a)) cls := fun A Q E s k q => wpAny_typeOf_ref (k _ _ he3) (by rw [hz3.1]; exact q)
    have LM := PySem.W.exm_one (M := model X.prog X.w) (J3.kIn) LT hb1
    have test : ∀ {Q : Value → Shared → Prop} {E : Value → Shared → Prop}, Q c { s' with heap := h3 } → wpAny (model X.prog X.w) (X.A.mark (some (.ref a))) (eval (.Name x np) X.env) Q E { s' with heap := h3 } := fun {Q E} q => by
      obtain ⟨hg, hdbg, hm | ⟨hm, hv, hnn⟩⟩ := hc
      · exact ld_glob (X := X.suite a ((a, oe3) :: (X.pn ++ pins))) S3 hg hm q hdbg
      · exact ld_blt (X := X.suite a ((a, oe3) :: (X.pn ++ pins))) S3 hg hm hv q hnn hdbg
    refine test (LM.here ?_)
    cases b with
    | true =>
      refine codeAny_handlers_suite_as ?_
      refine HandSPX.lands_againZ fl3 fun h4 fl4 up4 => ?_
      have J4 : Inv X pins σ' H' { s' with heap := h4 } := J.landed nb fl4.1 ((up.trans up3).trans up4) os ag
      obtain ⟨oe4, vs4, he4, hz4, hd4⟩ := fl4.there
      have S4 := J4.suite he4 hd4 na nL nF
      refine store_ok (X := X.suite a ((a, oe4) :: (X.pn ++ pins))) (v := .ref a) S4 hN hi hloc rfl (fun s5 S5 => ?_) (.inr hln)
      refine wpAny_mono ((hsu a oe4 cls d (X.pn ++ pins) hz4 ⟨_, hd4⟩).run [] s5 _ H' _ S5 (hyes rfl a na)) (fun f s6 hsp => ?_) (fun _ _ z => False.elim z)
      have end_ : ∀ {σ6 : L2.St} {H6 : Hp} {Q : Shared → Prop}, Inv (X.suite a ((a, oe4) :: (X.pn ++ pins))) [] σ6 H6 s6 → (∀ s7, Inv X pins (σ6.set i none) H6 s7 → Q s7) →
          wpAny (model X.prog X.w) X.A (do bindName X.env n .none; unbindBehindTheSuite X.env n pos') (fun _ s7 => Q s7) X.xe s6 := fun {σ6 H6 Q} S6 hq => gone_ok (S6.unsuite ok) hN hi hln hq
      cases f with
      | next =>
        obtain ⟨σ6, H6, S6, q6⟩ := hsp
        refine gone_ok (X := X.tr ((a, oe4) :: (X.pn ++ pins)) X.xe) (Inv.unsuiteK S6 ok) hN hi hln fun s7 J7 => ?_
        exact q1 a oe4 cls d s7 _ _ hz4 ⟨_, hd4⟩ J7 q6
      | brk =>
        obtain ⟨σ6, H6, S6, q6⟩ := hsp
        exact end_ S6 fun s7 J7 => qb s7 _ _ J7 q6
      | cont =>
        obtain ⟨σ6, H6, S6, q6⟩ := hsp
        exact end_ S6 fun s7 J7 => qc s7 _ _ J7 q6
      | ret u =>
        obtain ⟨v6, σ6, H6, S6, r6, q6⟩ := hsp
        exact end_ S6 fun s7 J7 => qr s7 _ _ _ _ J7 r6 q6
    | false =>
      show wpAny _ X.A (handleBy (.ref a) X.env []) _ _ _
      refine wpAny_handleBy_nil ?_
      obtain ⟨k1, k2, k3, oe, vs, T, oT, ts', he, hz, hd, h1, hr⟩ := id fl3
      unfold PySem.passOn
      refine wpAny_bind (wpAny_field he hd h1 ?_)
      rw [if_neg (show ¬ ((Value.ref T == Value.none) = true) from by simp)]
      have fin : wpAny (model X.prog X.w) X.A (setFlight (.ref a) X.env.frame) (fun _ s4 => wpAny (model X.prog X.w) X.A (throw (.ref a) : Sem Flow) PQ X.xe s4) X.xe { s' with heap := h3 } := by
        rw [hf]
        refine HandSPX.setFlight_upZ fl3 fun h4 hh4 up4 => wpAny_throw (tk _ _ ?_)
        exact ⟨a, B, sI, pins, σ', H', cls, d, rfl, J, nb, (up.trans up3).trans up4, .inr (.inr (by rw [hs]; exact hh4)), na, os, ag, hno rfl⟩
      first
        | exact wpAny_bind (wpAny_pure (wpAny_bind fin))
        | exact wpAny_bind fin
  · cases f with
    | next =>
      obtain ⟨σ', H', J', q⟩ := hsp
      exact wpAny_execs_nil (q0 s1 σ' H' (J'.ofTry ok) q)
    | brk =>
      obtain ⟨σ', H', J', q⟩ := hsp
      exact qb s1 σ' H' (J'.ofTry ok) q
    | cont =>
      obtain ⟨σ', H', J', q⟩ := hsp
      exact qc s1 σ' H' (J'.ofTry ok) q
    | ret u =>
      obtain ⟨v, σ', H', J', r, q⟩ := hsp
      exact qr s1 σ' H' v u (J'.ofTry ok) r q
theorem pss_try_as_keep (hs : X.stack = X.env :: X.outer) (hf : X.env.frame = some X.env.locals) (hN : X.N.Nodup) (hi : X.N[i]? = some n) (hln : X.env.kindOf n = some .local) (hc : Names X x c) (tk : Takes X Wout)
    (hb : ∀ (W : WX) (pn : List (Addr × Obj)) (xe : Value → Shared → Prop), Takes (X.tr pn xe) W → PassesOwn (model X.prog X.w) X.A X.env xe → PSs (X.tr pn xe) body (tb W))
    (hsu : ∀ (a : Addr) (oe : Obj) (cls : Value) (d : Option Addr) (pn : List (Addr × Obj)), Zc cls d oe → (∃ vs, oe.data = .fields vs) → PSs (X.suite a ((a, oe) :: pn)) (b₀ :: suite) (ts a cls d))
    (hr0 : PSs X rest t0)
    (hr1 : ∀ (a : Addr) (oe : Obj) (cls : Value) (d : Option Addr) (pn : List (Addr × Obj)), Zc cls d oe → (∃ vs, oe.data = .fields vs) → Takes (X.tr ((a, oe) :: pn) X.xe) Wout → PSs (X.tr ((a, oe) :: pn) X.xe) rest (tr a cls d)) :
    PSs X (.Try body [.ExceptHandler (some (.Name x np)) (some n) (b₀ :: suite) pos'] [] [] pos :: rest) (fun D σ H => tb (wAsK X.K c i ts tr Wout D) { D with nx := t0 D } σ H) := by
  refine ⟨fun pins s σ H D I h => ?_⟩
  have ok := I.ok
  refine wpAny_execs_cons (try_as_keep hs hf hN hi hln hc tk hb hsu pins s σ H D I h _ (fun s1 σ' H' J q => hr0.run pins s1 σ' H' D J q) (fun a oe cls d s1 σ' H' z1 z2 J q => ?_) (fun s1 σ' H' J q => ⟨σ', H', J, q⟩) (fun s1 σ' H' J q => ⟨σ', H', J, q⟩) (fun s1 σ' H' v u J r q => ⟨v, σ', H', J, r, q⟩))
  refine thn ((hr1 a oe cls d (X.pn ++ pins) z1 z2 (takes_tr ok tk)).run [] s1 σ' H' D J q) fun f s2 hsp => ?_
  cases f with
  | next => obtain ⟨σ2, H2, J2, q2⟩ := hsp; exact ⟨σ2, H2, Inv.ofTryK J2 ok, q2⟩
  | brk => obtain ⟨σ2, H2, J2, q2⟩ := hsp; exact ⟨σ2, H2, Inv.ofTryK J2 ok, q2⟩
  | cont => obtain ⟨σ2, H2, J2, q2⟩ := hsp; exact ⟨σ2, H2, Inv.ofTryK J2 ok, q2⟩
  | ret u => obtain ⟨v, σ2, H2, J2, r, q2⟩ := hsp; exact ⟨v, σ2, H2, Inv.ofTryK J2 ok, r, q2⟩
end
def aTryKeep (K : PySem.W.Frag) (C : Value) (i : Nat) (t : ATS) (u : Addr → Value → Option Addr → ATS) (r0 : ATS) (r1 : Addr → Value → Option Addr → ATS) : ATS := fun A as s =>
  t { A with nx := fun as' s' => r0 A as' s', ex := fun c od as' s' => opt (PySem.W.exmOne K c C) (fun b => Br b (∀ a, u a c od { nx := fun as2 s2 => r1 a c od A (forS as2 i) s2, rt := A.rt, bk := fun as2 s2 => A.bk (forS as2 i) s2, ct := fun as2 s2 => A.ct (forS as2 i) s2, ex := fun _ _ _ _ => False } (setS as' i (.ref a)) s') (A.ex c od as' s') ⟨⟩ ⟨⟩) ⟨⟩ } as s
theorem u_aTryKeep (K : PySem.W.Frag) (C : Value) (i : Nat) (t : ATS) (u : Addr → Value → Option Addr → ATS) (r0 : ATS) (r1 : Addr → Value → Option Addr → ATS) : ∀ A as s, aTryKeep K C i t u r0 r1 A as s = (t { A with nx := fun as' s' => r0 A as' s', ex := fun c od as' s' => opt (PySem.W.exmOne K c C) (fun b => Br b (∀ a, u a c od { nx := fun as2 s2 => r1 a c od A (forS as2 i) s2, rt := A.rt, bk := fun as2 s2 => A.bk (forS as2 i) s2, ct := fun as2 s2 => A.ct (forS as2 i) s2, ex := fun _ _ _ _ => False } (setS as' i (.ref a)) s') (A.ex c od as' s') ⟨⟩ ⟨⟩) ⟨⟩ } as s) := fun _ _ _ => rfl
theorem ass_try_keep {X : Cx} {W : WX} {x n : Str} {c : Value} {i : Nat} {body suite rest : List Stmt} {b0 : Stmt} {np pos pos' : Pos} {t : ATS} {u : Addr → Value → Option Addr → ATS} {r0 : ATS} {r1 : Addr → Value → Option Addr → ATS} {K : PySem.W.Frag} (hK : K = X.K) (hs : X.stack = X.env :: X.outer) (hf : X.env.frame = some X.env.locals) (hN : X.N.Nodup) (hi : X.N[i]? = some n) (hln : X.env.kindOf n = some .local) (hc : Names X x c) (tk : Takes X W)
    (hb : ∀ (W : WX) (pn : List (Addr × Obj)) (xe : Value → Shared → Prop), Takes (X.tr pn xe) W → PassesOwn (model X.prog X.w) X.A X.env xe → ASs (X.tr pn xe) W body t)
    (hsu : ∀ (a : Addr) (oe : Obj) (cls : Value) (d : Option Addr) (pn : List (Addr × Obj)), Zc cls d oe → (∃ vs, oe.data = .fields vs) → ASs (X.suite a ((a, oe) :: pn)) W0 (b0 :: suite) (u a cls d))
    (hr0 : ASs X W rest r0)
    (hr1 : ∀ (a : Addr) (oe : Obj) (cls : Value) (d : Option Addr) (pn : List (Addr × Obj)), Zc cls d oe → (∃ vs, oe.data = .fields vs) → Takes (X.tr ((a, oe) :: pn) X.xe) W → ASs (X.tr ((a, oe) :: pn) X.xe) W rest (r1 a cls d)) :
    ASs X W (.Try body [.ExceptHandler (some (.Name x np)) (some n) (b0 :: suite) pos'] [] [] pos :: rest) (aTryKeep K c i t u r0 r1) := by
  subst hK
  refine ⟨weakSs (pss_try_as_keep (tb := fun W => concS X.K W t) (ts := fun a cls d => concS X.K W0 (u a cls d)) (tr := fun a cls d => concS X.K W (r1 a cls d)) (t0 := concS X.K W r0) hs hf hN hi hln hc tk (fun W pn xe tk' po => (hb W pn xe tk' po).pss) (fun a oe cls d pn z1 z2 => (hsu a oe cls d pn z1 z2).pss) hr0.pss (fun a oe cls d pn z1 z2 tk' => (hr1 a oe cls d pn z1 z2 tk').pss)) ?_⟩
  intro C0 σ H h
  obtain ⟨Z, A, as, s, R, q, L⟩ := h
  refine ⟨Z, _, as, s, R, q, ⟨fun as' s' σ' H' R' f q' => ⟨Z, A, as', s', R', q', L.fr f⟩, L.rt, L.bk, L.ct, fun c' od as' s' σ' H' R' f q' => ?_⟩⟩
  have q3 : opt (PySem.W.exmOne X.K c' c) (fun b => Br b (∀ a, u a c' od { nx := fun as2 s2 => r1 a c' od A (forS as2 i) s2, rt := A.rt, bk := fun as2 s2 => A.bk (forS as2 i) s2, ct := fun as2 s2 => A.ct (forS as2 i) s2, ex := fun _ _ _ _ => False } (setS as' i (.ref a)) s') (A.ex c' od as' s') ⟨⟩ ⟨⟩) ⟨⟩ := q'
  obtain ⟨b, eb, q2⟩ := opt_of q3
  refine ⟨b, eb, fun hb a na => ?_, fun hb => ?_⟩
  · subst hb
    rw [Br_true] at q2
    have LL := L.fr f
    have Ra := R'.set (Rp.ref a) i
    rw [← setS_eq] at Ra
    refine ⟨Z, _, _, s', Ra, q2 a, ⟨fun a1 s1 σ1 H1 R1 f1 q1 => ⟨Z, A, _, s1, R1.unset i, q1, LL.fr f1⟩, LL.rt, fun a1 s1 σ1 H1 R1 f1 q1 => LL.bk _ s1 _ H1 (R1.unset i) f1 q1, fun a1 s1 σ1 H1 R1 f1 q1 => LL.ct _ s1 _ H1 (R1.unset i) f1 q1, fun _ _ _ _ _ _ _ _ z => z.elim⟩⟩
  · subst hb
    rw [Br_false] at q2
    exact L.ex c' od as' s' σ' H' R' f q2
/-! ### isinstance of the kept error -/
theorem call_isEK {X : Cx} {a D : Addr} {oe : Obj} (hp : (a, oe) ∈ X.pn) (C : ExcC X.K D) (hz : Zc (.ref D) none oe) (hf : ∃ vs, oe.data = .fields vs) : CallR X (.builtin "isinstance") (rIsEX X.K D a) := by
  intro pins s σ H xs us Q I r h
  obtain ⟨c, b, rfl, hcv, q⟩ := h
  cases r with
  | cons rx rr =>
    cases rr with
    | cons rt rr =>
      cases rr
      cases rx
      obtain ⟨hget, _⟩ := I.pin (a, oe) (List.mem_append.mpr (.inl hp))
      obtain ⟨vs, hv⟩ := hf
      have J : PySem.W.InstAt s.heap a oe D none := by
        obtain ⟨oc, od, oda, osl⟩ := oe
        obtain ⟨h1, h2⟩ := hz
        dsimp only at h1 h2 hv
        subst h1 h2 hv
        exact ⟨hget, rfl, rfl, trivial⟩
      rcases hcv with ⟨cv, k, e⟩ | ⟨tp, cs, ws, rfl, hT, k, e⟩
      · have ec := k.eq rt
        subst ec
        exact PySem.W.kia_one (PySem.W.handS_kitx_exc C.hg C.hk C.hs C.hd C.ha C.hn C.ht C.hm) I.kIn J e (fun z => nomatch z) fun tk => ⟨.bl b, H, I.kept (t' := tk) fun _ _ z => z, rfl, q⟩
      · cases rt
        obtain ⟨_, its, rv, o, h1, h2, n, h3⟩ := (show ObjOk X.prog X.w H s.heap tp (.tup cs) from I.hok tp _ hT)
        have e3 := ClsV.all k rv
        subst e3
        obtain ⟨oc, od, dt, sl⟩ := o
        simp only at h2 h3
        subst h2 h3
        exact PySem.W.kia_tup (PySem.W.handS_kitx_exc C.hg C.hk C.hs C.hd C.ha C.hn C.ht C.hm) I.kIn J h1 e (fun z => nomatch z) fun tk => ⟨.bl b, H, I.kept (t' := tk) fun _ _ z => z, rfl, q⟩
theorem ae_isXK {X : Cx} {W : WX} {a : Addr} {oe : Obj} {cls : Value} {od : Option Addr} {K : PySem.W.Frag} {e : Expr} {es : List Expr} {t : ATA} {p pos : Pos} (hK : K = X.K) (hp : (a, oe) ∈ X.pn) (hz : Zc cls od oe) (hf : ∃ vs, oe.data = .fields vs) (hm : X.mg "isinstance" = none) (ha : AA X W (e :: es) t) (hg : Gl X "isinstance" := by rfl)
    (he : starEach (e :: es) X.env = (false, eval e X.env) :: starEach es X.env := by rfl) (hpl : (backTo pos (starEach es X.env)).any (·.1) = false := by rfl) :
    AE X W (.Call (.Name "isinstance" p) (e :: es) [] pos) (aIsX K a cls od t) := by
  subst hK
  refine ⟨⟨fun pins s σ H Qc I q => ?_⟩⟩
  obtain ⟨Z, as, s1, Q, E, R, ⟨D0, rfl, rfl, C, q⟩, L, LX⟩ := q
  refine (pe_callB (call_isEK hp C hz hf) hg hm bt_isinstance ha.pa (by decide) (by decide) he hpl).run pins s σ H Qc I ?_
  show concA X.K W t σ H fun vs H1 => rIsEX X.K D0 a vs H1 Qc
  refine conc_bindA (Q1 := fun xs s1 => opt (isED X.K a D0 xs) (fun b => Q (.bl b) s1) ⟨⟩) R LX q fun xs s2 vs H1 R1 r1 f1 L1 q1 => ?_
  obtain ⟨b, eb, q2⟩ := opt_of q1
  have fin : Qc (.bl b) H1 := L (.bl b) s2 (.bl b) H1 R1.rep (.bl b) f1 q2
  unfold isED at eb
  split at eb
  · split at eb
    · rename_i a' cs ea
      subst ea
      obtain ⟨us, e1, e2⟩ := Option.bind_eq_some_iff.mp eb
      cases r1 with
      | cons h1 t1 =>
        cases h1
        cases t1 with
        | cons h2 t2 =>
          cases t2
          cases h2 with
          | tup hp n rs => exact ⟨_, b, rfl, .inr ⟨_, _, us, rfl, hp, clsVs_ok rs e1, e2⟩, fin⟩
    · cases eb
  · split at eb
    · rename_i a' c _ ea
      subst ea
      obtain ⟨u, e1, e2⟩ := Option.bind_eq_some_iff.mp eb
      cases r1 with
      | cons h1 t1 =>
        cases h1
        cases t1 with
        | cons h2 t2 =>
          cases t2
          exact ⟨_, b, rfl, .inl ⟨u, clsVD_ok h2 e1, e2⟩, fin⟩
    · cases eb
  · cases eb
/-- what is never reached -/
def aNo : ATE := fun _ _ _ _ => False
theorem ae_no {X : Cx} {W : WX} {e : Expr} : AE X W e aNo := ⟨⟨fun pins s σ H Q I q => by obtain ⟨_, _, _, _, _, _, z, _⟩ := q; exact z.elim⟩⟩
theorem nn_vo {a : Addr} {o : Option Ob} : (viewO a o).isNon = false := by
  cases o with
  | none => rfl
  | some o => cases o <;> rfl
theorem nn_r {a : Addr} : D.isNon (.ref a) = false := rfl
end Sk
namespace Sk
open PySem PySem.Spec PyProof.Rows L2
/-! ### sorted(d.keys()), whole numbers, any number of them -/
def tSortedK (td : TE) : TE := fun σ H Q => td σ H fun x H1 => ∃ (d : Addr) (kvs : List (Key × V)) (ks : List Int), x = .ref d ∧ H1 d = some (.dK kvs) ∧ kvs.map (·.1) = ks.map Sum.inl ∧
  ∀ (ys : List Int) (p : Addr), ys.Perm ks → ys.Pairwise (· ≤ ·) → H1 p = none → Q (.ref p) (upd H1 p (.lst (ys.map V.int)))
theorem pe_sortedKeysI {X : Cx} {e : Expr} {td : TE} {p apos cpos pos : Pos} (hc : X.calm = true) (hg : Gl X "sorted") (hm : X.mg "sorted" = none) (he : PE X e td) (hbase : attributeBase e "keys" X.env (eval e X.env) = eval e X.env := by rfl) (hline : (apos.endLine == cpos.line) = true := by rfl)
    (h1 : starEach [.Call (.Attribute e "keys" apos) [] [] cpos] X.env = (false, eval (.Call (.Attribute e "keys" apos) [] [] cpos) X.env) :: starEach [] X.env := by rfl) (hpl : (backTo pos (starEach [] X.env)).any (·.1) = false := by rfl) :
    PE X (.Call (.Name "sorted" p) [.Call (.Attribute e "keys" apos) [] [] cpos] [] pos) (tSortedK td) := by
  refine ⟨fun pins s σ H Q I h => ?_⟩
  refine wpAny_Call_Name_kw (ld_blt I hg hm bt_sorted ?_ (by decide) (by decide))
  refine PyProof.Rows.callWith_builtin1 (args_cons (wpAny_Call_method (T := "dict") (id := "dict.keys") hbase rfl hline F.plainAttrs_dict F.slot_dict_keys F.type_dict_keys (thn (he.run pins s σ H _ I h) fun u s1 ⟨x, H1, I1, rx, d, kvs, ks, ex, hd, hks, q⟩ => ?_)) h1) h1 hpl
  subst ex
  obtain rfl : u = Value.ref d := rx
  obtain ⟨z, hs, vs, rel, dd⟩ := dk_of I1.hok hd
  obtain ⟨ep, hat⟩ := dd.dictAt
  have hkeys : vs.map (·.1) = ks.map Sum.inl := rel.keys.symm.trans hks
  have hl : vs.length = ks.length := by
    have e := congrArg List.length hkeys
    rw [List.length_map, List.length_map] at e
    exact e
  have hl2 : kvs.length = vs.length := Paired.length rel
  have h16 : vs.length ≤ sizeLine := by rw [← hl2]; exact z
  refine ⟨dd.typeIs, dd.mapOf.noDict, ?_⟩
  have I2 : Inv X pins σ H1 { s1 with heap := s1.heap.push { cls := .type "dict_keys", data := .fields #[.ref d] } } := I1.kept (t' := s1.toks) fun b ob q => Heap.get?_push_of_some _ q
  show wpAny _ _ (callWith cpos (.builtin "dict.keys") [.ref d] [] []) _ X.xe s1
  refine method_meetsIn F.slot_dict_keys F.entry_dict_keys rfl (PySem.evalArgs_none ⟨rfl, dd.typeIs, F.args_dict_keys_1 _, _, PySem.W.kdl_meets_keys (mixKind X.prog X.w) d hs, ⟨vs, dd⟩, ?_⟩)
  refine args_nil ?_
  have hv : PySem.W.KdlKeysView (s1.heap.push { cls := .type "dict_keys", data := .fields #[.ref d] }) s1.heap.objs.size d := ⟨_, Heap.get?_push_size _ rfl, rfl, rfl⟩
  refine Calls.call_function_entry PyProof.Rows.kind_sorted PyProof.Rows.plain_sorted PyProof.Rows.entry_sorted (PyProof.Rows.args_sorted1 _) ?_
  unfold Builtin.«sorted»
  refine wpAny_bind (m := checkCount "sorted" 1 1 _) (wpAny_pure ?_)
  refine wpAny_bind (PySem.W.kdu_collect (A := X.A.in1) (PySem.W.kdl_keys (r := s1.heap.objs.size) (knd := mixKind X.prog X.w) (kvs := vs) (ep := ep)) (I2.ok.hd hc) ⟨hv, hat.push _⟩ h16 fun h' tk acc hk hacc => ?_)
  have hal : acc.toList.length = ks.length := by rw [Array.length_toList, hacc.1, hl]
  have hS : IntsAre acc.toList ks := ints_each hal fun j v e => by
    obtain ⟨k, x, e1, e2⟩ := hacc.2 j v (by rw [← Array.getElem?_toList]; exact e)
    have e3 : (vs.map (·.1))[j]? = some k := by rw [List.getElem?_map, e1]; rfl
    rw [hkeys, List.getElem?_map] at e3
    cases e4 : ks[j]? with
    | none => rw [e4] at e3; cases e3
    | some y =>
      rw [e4] at e3
      have e5 : Sum.inl y = k := Option.some.inj e3
      subst e5
      rcases keyIs_shape (show keyIs (Sum.inl y) v = true from e2) with ⟨i, t, ek, ev⟩ | ⟨z, t, ek, ev⟩
      · cases ek
        exact ⟨y, t, rfl, ev⟩
      · cases ek
  have I3 : Inv X pins σ H1 { s1 with heap := h', toks := tk } := I2.kept hk
  have hal16 : acc.toList.length ≤ sizeLine := by rw [hal, ← hl]; exact h16
  refine wpAny_bind (wpAny_newList ?_ hal16)
  have hoL : (h'.push (seqObj "list" acc.toList.toArray 0)).get? h'.objs.size = some (seqObj "list" acc.toList.toArray 0) := Heap.get?_push_size _ rfl
  show wpAny _ _ _ _ _ { s1 with heap := h'.push (seqObj "list" acc.toList.toArray 0), toks := tk }
  refine wpAny_bind (wpAny_holding (wpAny_call_entry PyProof.Rows.slot_list_sort ⟨_, hoL, rfl⟩ PyProof.Rows.entry_list_sort
    (SrtO.list_sort_ord SrtO.swo_int (s := { s1 with heap := h'.push (seqObj "list" acc.toList.toArray 0), toks := tk }) hoL hal16 (fun h2 => SrtO.ints_sortable hS h2) fun out h1 h2 => ⟨_, rfl, ?_⟩) (PyProof.Rows.args_list_sort _)))
  obtain ⟨k1, k2, k3⟩ := SrtO.ints_out hS h1 h2
  obtain ⟨e', he'⟩ := PyProof.Rows.sortedHeap_at (vs := acc.toList) (out := out.toArray) hoL
  have hlen : ((out.map SrtO.iv).map V.int).length ≤ sizeLine := by
    rw [List.length_map, k2.length_eq, ← hl]
    exact h16
  refine wpAny_pure ⟨_, rfl, .ref h'.objs.size, upd H1 h'.objs.size (.lst ((out.map SrtO.iv).map V.int)), I3.laid (t' := tk) (fun b u e => ?_) (Nat.le_refl _)
    (show ObjOk X.prog X.w _ _ _ (.lst ((out.map SrtO.iv).map V.int)) from ⟨hlen, out, e', vals_of_ints k1, he'⟩), rfl, q _ _ k2 k3 (I3.hok.fresh (Nat.le_refl _))⟩
  have hb : b < h'.objs.size := Heap.lt_size e
  rw [PyProof.Rows.sortedHeap_old (Nat.ne_of_lt hb) (by rw [size_push']; exact Nat.lt_succ_of_lt hb)]
  exact Heap.get?_push_of_some _ e
/-! ### .. texts, fewer than 64 -/
def tSortedS (td : TE) : TE := fun σ H Q => td σ H fun x H1 => ∃ (d : Addr) (kvs : List (Key × V)) (ks : List Str), x = .ref d ∧ H1 d = some (.dK kvs) ∧ kvs.map (·.1) = ks.map Sum.inr ∧ ks.length < 64 ∧
  ∀ (ys : List Str) (p : Addr), ys.Perm ks → sortedS ys = true → H1 p = none → Q (.ref p) (upd H1 p (.lst (ys.map V.str)))
theorem pe_sortedKeysS {X : Cx} {e : Expr} {td : TE} {p apos cpos pos : Pos} (hc : X.calm = true) (hg : Gl X "sorted") (hm : X.mg "sorted" = none) (he : PE X e td) (hbase : attributeBase e "keys" X.env (eval e X.env) = eval e X.env := by rfl) (hline : (apos.endLine == cpos.line) = true := by rfl)
    (h1 : starEach [.Call (.Attribute e "keys" apos) [] [] cpos] X.env = (false, eval (.Call (.Attribute e "keys" apos) [] [] cpos) X.env) :: starEach [] X.env := by rfl) (hpl : (backTo pos (starEach [] X.env)).any (·.1) = false := by rfl) :
    PE X (.Call (.Name "sorted" p) [.Call (.Attribute e "keys" apos) [] [] cpos] [] pos) (tSortedS td) := by
  refine ⟨fun pins s σ H Q I h => ?_⟩
  refine wpAny_Call_Name_kw (ld_blt I hg hm bt_sorted ?_ (by decide) (by decide))
  refine PyProof.Rows.callWith_builtin1 (args_cons (wpAny_Call_method (T := "dict") (id := "dict.keys") hbase rfl hline F.plainAttrs_dict F.slot_dict_keys F.type_dict_keys (thn (he.run pins s σ H _ I h) fun u s1 ⟨x, H1, I1, rx, d, kvs, ks, ex, hd, hks, h64, q⟩ => ?_)) h1) h1 hpl
  subst ex
  obtain rfl : u = Value.ref d := rx
  obtain ⟨z, hs, vs, rel, dd⟩ := dk_of I1.hok hd
  obtain ⟨ep, hat⟩ := dd.dictAt
  have hkeys : vs.map (·.1) = ks.map Sum.inr := rel.keys.symm.trans hks
  have hl : vs.length = ks.length := by
    have e := congrArg List.length hkeys
    rw [List.length_map, List.length_map] at e
    exact e
  have hl2 : kvs.length = vs.length := Paired.length rel
  have h16 : vs.length ≤ sizeLine := by rw [← hl2]; exact z
  refine ⟨dd.typeIs, dd.mapOf.noDict, ?_⟩
  have I2 : Inv X pins σ H1 { s1 with heap := s1.heap.push { cls := .type "dict_keys", data := .fields #[.ref d] } } := I1.kept (t' := s1.toks) fun b ob q => Heap.get?_push_of_some _ q
  show wpAny _ _ (callWith cpos (.builtin "dict.keys") [.ref d] [] []) _ X.xe s1
  refine method_meetsIn F.slot_dict_keys F.entry_dict_keys rfl (PySem.evalArgs_none ⟨rfl, dd.typeIs, F.args_dict_keys_1 _, _, PySem.W.kdl_meets_keys (mixKind X.prog X.w) d hs, ⟨vs, dd⟩, ?_⟩)
  refine args_nil ?_
  have hv : PySem.W.KdlKeysView (s1.heap.push { cls := .type "dict_keys", data := .fields #[.ref d] }) s1.heap.objs.size d := ⟨_, Heap.get?_push_size _ rfl, rfl, rfl⟩
  refine Calls.call_function_entry PyProof.Rows.kind_sorted PyProof.Rows.plain_sorted PyProof.Rows.entry_sorted (PyProof.Rows.args_sorted1 _) ?_
  unfold Builtin.«sorted»
  refine wpAny_bind (m := checkCount "sorted" 1 1 _) (wpAny_pure ?_)
  refine wpAny_bind (PySem.W.kdu_collect (A := X.A.in1) (PySem.W.kdl_keys (r := s1.heap.objs.size) (knd := mixKind X.prog X.w) (kvs := vs) (ep := ep)) (I2.ok.hd hc) ⟨hv, hat.push _⟩ h16 fun h' tk acc hk hacc => ?_)
  have hal : acc.toList.length = ks.length := by rw [Array.length_toList, hacc.1, hl]
  have hS : StrsAre acc.toList ks := strs_at hal fun j v e => by
    obtain ⟨k, x, e1, e2⟩ := hacc.2 j v (by rw [← Array.getElem?_toList]; exact e)
    have e3 : (vs.map (·.1))[j]? = some k := by rw [List.getElem?_map, e1]; all_goals rfl
    rw [hkeys, List.getElem?_map] at e3
    cases e4 : ks[j]? with
    | none => rw [e4] at e3; cases e3
    | some y =>
      rw [e4] at e3
      have e5 : Sum.inr y = k := Option.some.inj e3
      subst e5
      obtain ⟨t, ev⟩ := Value.isStrOf_shape (x := y) (v := v) e2
      exact ⟨y, t, rfl, ev⟩
  have I3 : Inv X pins σ H1 { s1 with heap := h', toks := tk } := I2.kept hk
  have hal16 : acc.toList.length ≤ sizeLine := by rw [hal, ← hl]; exact h16
  refine wpAny_bind (wpAny_newList ?_ hal16)
  have hoL : (h'.push (seqObj "list" acc.toList.toArray 0)).get? h'.objs.size = some (seqObj "list" acc.toList.toArray 0) := Heap.get?_push_size _ rfl
  show wpAny _ _ _ _ _ { s1 with heap := h'.push (seqObj "list" acc.toList.toArray 0), toks := tk }
  refine wpAny_bind (wpAny_holding (wpAny_call_entry PyProof.Rows.slot_list_sort ⟨_, hoL, rfl⟩ PyProof.Rows.entry_list_sort
    (list_sort_treeK strKind_oneLt (s := { s1 with heap := h'.push (seqObj "list" acc.toList.toArray 0), toks := tk }) hoL hS.keysOf (fun v₁ v₂ rest e => keyKind_strs (by rw [← e]; exact hS)) (by rw [hal]; exact h64) fun st' hp hs => ⟨_, rfl, ?_⟩)
    (PyProof.Rows.args_list_sort _)))
  obtain ⟨ys, g1, g2, g3⟩ := sorted_out_str hS hp hs
  obtain ⟨e', he'⟩ := PyProof.Rows.sortedHeap_at (vs := acc.toList) (out := (arrOf st').map (·.2)) hoL
  have hlen : (ys.map V.str).length ≤ sizeLine := by
    rw [List.length_map, g2.length_eq]
    exact Nat.le_trans (Nat.le_of_lt h64) (by decide)
  refine wpAny_pure ⟨_, rfl, .ref h'.objs.size, upd H1 h'.objs.size (.lst (ys.map V.str)), I3.laid (t' := tk) (fun b u e => ?_) (Nat.le_refl _)
    (show ObjOk X.prog X.w _ _ _ (.lst (ys.map V.str)) from ⟨hlen, ((arrOf st').map (·.2)).toList, e', vals_of_strs g1, by rw [Array.toArray_toList]; exact he'⟩), rfl, q ys _ g2 g3 (I3.hok.fresh (Nat.le_refl _))⟩
  have hb : b < h'.objs.size := Heap.lt_size e
  rw [PyProof.Rows.sortedHeap_old (Nat.ne_of_lt hb) (by rw [size_push']; exact Nat.lt_succ_of_lt hb)]
  exact Heap.get?_push_of_some _ e
def dkP : Option Ob → Option (List (Key × D))
  | some (.dK kvs) => some kvs
  | _ => none
theorem dkP_k {kvs : List (Key × D)} : dkP (some (.dK kvs)) = some kvs := rfl
theorem dkP_eq {o : Option Ob} {kvs : List (Key × D)} (h : dkP o = some kvs) : o = some (.dK kvs) := by
  unfold dkP at h
  split at h
  · cases h; rfl
  · cases h
def keysI : List (Key × D) → Option (List Int)
  | [] => some []
  | (.inl i, _) :: r => (keysI r).map (i :: ·)
  | _ => none
theorem keysI_v : ∀ {kvs : List (Key × D)} {ks : List Int}, keysI kvs = some ks → kvs.map (·.1) = ks.map Sum.inl
  | [], _, e => by cases e; rfl
  | (.inl i, d) :: r, _, e => by
    obtain ⟨ks, e1, rfl⟩ := Option.map_eq_some_iff.mp (show (keysI r).map (i :: ·) = some _ from e)
    rw [List.map_cons, List.map_cons, keysI_v e1]
  | (.inr _, _) :: _, _, e => by cases e
theorem rkv_keys {κ : Type} {K : PySem.W.Frag} {H : Hp} {N : Addr → Prop} {kvs : List (κ × D)} {ws : List (κ × V)} (r : Rkv K H N kvs ws) : ws.map (·.1) = kvs.map (·.1) := by
  induction r with
  | nil => rfl
  | cons h _ ih => rw [List.map_cons, List.map_cons, ih, h.1]
def aSortK (a : ATE) : ATE := fun as s Q E => a as s (fun x s1 => opt (refD1 x) (fun p => opt (dkP (s1 p)) (fun kvs => opt (keysI kvs) (fun ks => ∀ ys : List Int, ys.Perm ks → ys.Pairwise (· ≤ ·) → Q (.lst (ys.map D.int)) s1) ⟨⟩) ⟨⟩) ⟨⟩) E
theorem u_aSortK (a : ATE) : ∀ as s Q E, aSortK a as s Q E = (a as s (fun x s1 => opt (refD1 x) (fun p => opt (dkP (s1 p)) (fun kvs => opt (keysI kvs) (fun ks => ∀ ys : List Int, ys.Perm ks → ys.Pairwise (· ≤ ·) → Q (.lst (ys.map D.int)) s1) ⟨⟩) ⟨⟩) ⟨⟩) E) := fun _ _ _ _ => (rfl)
theorem rps_intsI {K : PySem.W.Frag} {H : Hp} {N : Addr → Prop} : ∀ ys : List Int, Rps K H N (ys.map D.int) (ys.map V.int)
  | [] => .nil
  | i :: r => .cons (.int i) (rps_intsI r)
theorem ae_sortK {X : Cx} {W : WX} {e : Expr} {ta : ATE} {p apos cpos pos : Pos} (hc : X.calm = true) (hg : Gl X "sorted") (hm : X.mg "sorted" = none) (he : AE X W e ta) (hbase : attributeBase e "keys" X.env (eval e X.env) = eval e X.env := by rfl) (hline : (apos.endLine == cpos.line) = true := by rfl)
    (h1 : starEach [.Call (.Attribute e "keys" apos) [] [] cpos] X.env = (false, eval (.Call (.Attribute e "keys" apos) [] [] cpos) X.env) :: starEach [] X.env := by rfl) (hpl : (backTo pos (starEach [] X.env)).any (·.1) = false := by rfl) :
    AE X W (.Call (.Name "sorted" p) [.Call (.Attribute e "keys" apos) [] [] cpos] [] pos) (aSortK ta) := by
  refine ⟨weakE (pe_sortedKeysI hc hg hm he.pe hbase hline h1 hpl) ?_⟩
  rintro σ H Qc ⟨Z, as, s, Q, E, R, q, L, LX⟩
  refine conc_bind (Q1 := fun x s1 => opt (refD1 x) (fun p => opt (dkP (s1 p)) (fun kvs => opt (keysI kvs) (fun ks => ∀ ys : List Int, ys.Perm ks → ys.Pairwise (· ≤ ·) → Q (.lst (ys.map D.int)) s1) ⟨⟩) ⟨⟩) ⟨⟩) R LX q fun x s1 v H1 R1 r1 f1 L1 q1 => ?_
  obtain ⟨a, e1, q2⟩ := opt_of q1
  obtain ⟨kvs, e2, q3⟩ := opt_of q2
  obtain ⟨ks, e3, q4⟩ := opt_of q3
  have ex : x = .ref a := by
    unfold refD1 at e1
    split at e1
    · cases e1; rfl
    · cases e1
  subst ex
  cases r1
  obtain ⟨ws, h2, rk⟩ := R1.rep.at_ _ _ (dkP_eq e2)
  refine ⟨a, ws, ks, rfl, h2, by rw [rkv_keys rk]; exact keysI_v e3, fun ys p0 y1 y2 hp0 => ?_⟩
  obtain ⟨R', f', _⟩ := R1.rep.new (u := .lst (ys.map V.int)) hp0
  exact L _ _ _ _ R' (rp_newL R1.rep (rps_intsI ys) hp0) (f1.trans f') (q4 ys y1 y2)
/-- .. a list of one's own -/
def aSortKO (a : ATE) : ATE := fun as s Q E => a as s (fun x s1 => opt (refD1 x) (fun p => opt (dkP (s1 p)) (fun kvs => opt (keysI kvs) (fun ks => ∀ ys : List Int, ys.Perm ks → ys.Pairwise (· ≤ ·) → New s1 (fun q => Q (.ref q) (aup s1 q (.lst (ys.map D.int)))) ⟨⟩) ⟨⟩) ⟨⟩) ⟨⟩) E
theorem u_aSortKO (a : ATE) : ∀ as s Q E, aSortKO a as s Q E = (a as s (fun x s1 => opt (refD1 x) (fun p => opt (dkP (s1 p)) (fun kvs => opt (keysI kvs) (fun ks => ∀ ys : List Int, ys.Perm ks → ys.Pairwise (· ≤ ·) → New s1 (fun q => Q (.ref q) (aup s1 q (.lst (ys.map D.int)))) ⟨⟩) ⟨⟩) ⟨⟩) ⟨⟩) E) := fun _ _ _ _ => (rfl)
theorem ae_sortKO {X : Cx} {W : WX} {e : Expr} {ta : ATE} {p apos cpos pos : Pos} (hc : X.calm = true) (hg : Gl X "sorted") (hm : X.mg "sorted" = none) (he : AE X W e ta) (hbase : attributeBase e "keys" X.env (eval e X.env) = eval e X.env := by rfl) (hline : (apos.endLine == cpos.line) = true := by rfl)
    (h1 : starEach [.Call (.Attribute e "keys" apos) [] [] cpos] X.env = (false, eval (.Call (.Attribute e "keys" apos) [] [] cpos) X.env) :: starEach [] X.env := by rfl) (hpl : (backTo pos (starEach [] X.env)).any (·.1) = false := by rfl) :
    AE X W (.Call (.Name "sorted" p) [.Call (.Attribute e "keys" apos) [] [] cpos] [] pos) (aSortKO ta) := by
  refine ⟨weakE (pe_sortedKeysI hc hg hm he.pe hbase hline h1 hpl) ?_⟩
  rintro σ H Qc ⟨Z, as, s, Q, E, R, q, L, LX⟩
  refine conc_bind (Q1 := fun x s1 => opt (refD1 x) (fun p => opt (dkP (s1 p)) (fun kvs => opt (keysI kvs) (fun ks => ∀ ys : List Int, ys.Perm ks → ys.Pairwise (· ≤ ·) → New s1 (fun q => Q (.ref q) (aup s1 q (.lst (ys.map D.int)))) ⟨⟩) ⟨⟩) ⟨⟩) ⟨⟩) R LX q fun x s1 v H1 R1 r1 f1 L1 q1 => ?_
  obtain ⟨a, e1, q2⟩ := opt_of q1
  obtain ⟨kvs, e2, q3⟩ := opt_of q2
  obtain ⟨ks, e3, q4⟩ := opt_of q3
  have ex : x = .ref a := by
    unfold refD1 at e1
    split at e1
    · cases e1; rfl
    · cases e1
  subst ex
  cases r1
  obtain ⟨ws, h2, rk⟩ := R1.rep.at_ _ _ (dkP_eq e2)
  refine ⟨a, ws, ks, rfl, h2, by rw [rkv_keys rk]; exact keysI_v e3, fun ys p0 y1 y2 hp0 => ?_⟩
  obtain ⟨R', f'⟩ := new_own R1.rep hp0 (u := .lst (ys.map V.int)) (o := .lst (ys.map D.int)) rfl fun f => ⟨_, upd_same, rps_intsI ys⟩
  exact L _ _ _ _ R' (.ref p0) (f1.trans f') (q4 ys y1 y2 p0 (R1.rep.no hp0))
/-! ### list(range(a, b, c)) -/
def rgCV (i c : Int) (n : Nat) : List V := (List.range n).map fun k => V.int (i + (k : Nat) * c)
theorem vals_rgC {i c : Int} {n : Nat} {acc : Array Value} (h : ItemsOf (fun k v => ∃ t, v = .int (i + k * c) t) acc n) : Vals (rgCV i c n) acc.toList := by
  have e : acc.toList.length = n := by rw [Array.length_toList]; exact h.1
  unfold rgCV
  rw [← e]
  refine vals_of_get acc.toList _ fun j u hj => ?_
  obtain ⟨t, rfl⟩ := h.2 j u (by rw [← hj, Array.getElem?_toList])
  exact ⟨t, rfl⟩
def tLstRg3 (ta : TA) : TE := fun σ H Q => ta σ H fun vs H1 => ∃ (i j c : Int) (n : Nat), vs = [.int i, .int j, .int c] ∧ RgC i j c n ∧ n ≤ 16777216 ∧ ∀ q, H1 q = none → Q (.ref q) (upd H1 q (.lst (rgCV i c n)))
theorem pe_listRg3 {X : Cx} {a b c : Expr} {ta : TA} {p p2 pos pos2 : Pos} (hc : X.calm = true) (hgl : Gl X "list") (hml : X.mg "list" = none) (hg : Gl X "range") (hm : X.mg "range" = none) (ha : PA X [a, b, c] ta)
    (hs : starEach [a, b, c] X.env = (false, eval a X.env) :: starEach [b, c] X.env := by rfl) (hpl : (backTo pos2 (starEach [b, c] X.env)).any (·.1) = false := by rfl)
    (na : starEach [.Call (.Name "range" p2) [a, b, c] [] pos2] X.env = (false, eval (.Call (.Name "range" p2) [a, b, c] [] pos2) X.env) :: starEach [] X.env := by rfl) :
    PE X (.Call (.Name "list" p) [.Call (.Name "range" p2) [a, b, c] [] pos2] [] pos) (tLstRg3 ta) := by
  refine ⟨fun pins s σ H Q I h => ?_⟩
  refine Call_ (ld_blt I hgl hml boot_list (PyProof.Rows.callWith_type1 (args_cons (Call_ (ld_blt I hg hm boot_range (PyProof.Rows.callWith_type1 (thn (ha.run pos2 pins s σ H _ I h) fun us s1 ⟨vs, H1, I1, r1, q1⟩ => ?_) hs hpl))) na) na))
  obtain ⟨i, j, k, n, e, ⟨c0, c1, c2, c3⟩, n16, q⟩ := q1
  subst e
  cases r1 with
  | cons r rr =>
    cases rr with
    | cons r' rr =>
      cases rr with
      | cons r'' rr =>
        cases rr
        obtain ⟨t, rfl⟩ := r
        obtain ⟨t', rfl⟩ := r'
        obtain ⟨t'', rfl⟩ := r''
        refine call_range_3 c0 ?_ (.inl (PyProof.noPylong_small c1))
        refine args_nil ?_
        have I2 : Inv X pins σ H1 { s1 with heap := s1.heap.push { cls := .type "range", data := .fields #[.int i t, .int j t', .int k t''] } } := I1.kept (t' := s1.toks) fun b o e => Heap.get?_push_of_some _ e
        refine PySem.call_list_range (n := n) (I2.ok.hd hc) (IsRange.new ..) c2 c3 n16 fun h' tk acc c' hk e' hi => ?_
        refine ⟨.ref _, upd H1 _ (.lst (rgCV i k n)), I2.laid hk (Nat.le_refl _) (show ObjOk X.prog X.w _ _ _ (.lst (rgCV i k n)) from ⟨?_, acc.toList, c', vals_rgC hi, ?_⟩), rfl, q _ (I2.hok.fresh (Nat.le_refl _))⟩
        · unfold rgCV; rw [List.length_map, List.length_range, sizeLine_eq]; omega
        · rw [Array.toArray_toList]; exact e'
def aLRg3 (a : ATA) : ATE := fun as s Q E => a as s (fun xs s1 => opt (rgOf3 xs) (fun r => ∃ n, Rq (RgC r.1 r.2.1 r.2.2 n ∧ n ≤ 16777216) (Q (.lst (rngC r.1 r.2.2 n)) s1) ⟨⟩) ⟨⟩) E
theorem u_aLRg3 (a : ATA) : ∀ as s Q E, aLRg3 a as s Q E = (a as s (fun xs s1 => opt (rgOf3 xs) (fun r => ∃ n, Rq (RgC r.1 r.2.1 r.2.2 n ∧ n ≤ 16777216) (Q (.lst (rngC r.1 r.2.2 n)) s1) ⟨⟩) ⟨⟩) E) := fun _ _ _ _ => (rfl)
theorem rps_rngC {K : PySem.W.Frag} {H : Hp} {N : Addr → Prop} {i c : Int} {n : Nat} : Rps K H N (rngC i c n) (rgCV i c n) := by
  unfold rngC rgCV
  generalize List.range n = l
  induction l with
  | nil => exact .nil
  | cons k l ih => exact .cons (.int _) ih
theorem ae_listRg3 {X : Cx} {W : WX} {a b c : Expr} {ta : ATA} {p p2 pos pos2 : Pos} (hc : X.calm = true) (hgl : Gl X "list") (hml : X.mg "list" = none) (hg : Gl X "range") (hm : X.mg "range" = none) (ha : AA X W [a, b, c] ta)
    (hs : starEach [a, b, c] X.env = (false, eval a X.env) :: starEach [b, c] X.env := by rfl) (hpl : (backTo pos2 (starEach [b, c] X.env)).any (·.1) = false := by rfl)
    (na : starEach [.Call (.Name "range" p2) [a, b, c] [] pos2] X.env = (false, eval (.Call (.Name "range" p2) [a, b, c] [] pos2) X.env) :: starEach [] X.env := by rfl) :
    AE X W (.Call (.Name "list" p) [.Call (.Name "range" p2) [a, b, c] [] pos2] [] pos) (aLRg3 ta) := by
  refine ⟨weakE (pe_listRg3 hc hgl hml hg hm ha.pa hs hpl na) ?_⟩
  rintro σ H Qc ⟨Z, as, s, Q, E, R, q, L, LX⟩
  refine conc_bindA (Q1 := fun xs s1 => opt (rgOf3 xs) (fun r => ∃ n, Rq (RgC r.1 r.2.1 r.2.2 n ∧ n ≤ 16777216) (Q (.lst (rngC r.1 r.2.2 n)) s1) ⟨⟩) ⟨⟩) R LX q fun xs s1 vs H1 R1 r1 f1 L1 q1 => ?_
  obtain ⟨⟨i, j, k⟩, e, n, hp, q2⟩ := opt_of q1
  refine ⟨i, j, k, n, int3_v r1 e, hp.1, hp.2, fun p0 hp0 => ?_⟩
  obtain ⟨R', f', _⟩ := R1.rep.new (u := .lst (rgCV i k n)) hp0
  exact L _ _ _ _ R' (rp_newL R1.rep rps_rngC hp0) (f1.trans f') q2
end Sk
namespace Sk
open PySem PySem.Spec PyProof.Rows L2
/-! ### [.. for .. in .. if ..], a list of one's own -/
theorem Rep.grab {K : PySem.W.Frag} {Z : Addr → Prop} {H : Hp} {s : Ah} {D0 : Addr} {us : List V} {acc : List D} (R : Rep K (fun x => Z x ∨ x = D0) H s) (h : H D0 = some (.lst us)) (zD : ¬ Z D0) (r : Rps K H (Ow (fun x => Z x ∨ x = D0) s) acc us) : Rep K Z H (aup s D0 (.lst acc)) ∧ s D0 = none := by
  have nD : ¬ Own s D0 := (R.zed D0 (.inr rfl)).2
  have sn : s D0 = none := by
    cases e : s D0 with
    | none => rfl
    | some o => exact absurd ⟨D0, o, e, .inl rfl⟩ nD
  have ow : Ow Z (aup s D0 (.lst acc)) = Ow (fun x => Z x ∨ x = D0) s := by
    funext x
    refine propext ⟨fun z => ?_, fun z => ?_⟩
    · rcases z with ⟨a, o, e, hx⟩ | z
      · by_cases ha : a = D0
        · subst ha
          rw [aup_same] at e
          cases e
          rcases hx with hx | hx
          · exact .inr (.inr hx)
          · cases hx
        · rw [aup_ne ha] at e
          exact .inl ⟨a, o, e, hx⟩
      · exact .inr (.inl z)
    · rcases z with ⟨a, o, e, hx⟩ | z | z
      · exact .inl ⟨a, o, by rw [aup_ne (fun e2 => by rw [e2, sn] at e; cases e)]; exact e, hx⟩
      · exact .inr z
      · subst z
        exact .inl ⟨x, _, aup_same, .inl rfl⟩
  refine ⟨⟨fun x z => ⟨(R.zed x (.inl z)).1, fun ⟨a, o, e, hx⟩ => ?_⟩, fun a o e => ?_, fun a b o u e1 e2 hab => ?_⟩, sn⟩
  · by_cases ha : a = D0
    · subst ha
      rw [aup_same] at e
      cases e
      rcases hx with hx | hx
      · subst hx; exact zD z
      · cases hx
    · rw [aup_ne ha] at e
      exact (R.zed x (.inl z)).2 ⟨a, o, e, hx⟩
  · rw [ow]
    by_cases ha : a = D0
    · subst ha
      rw [aup_same] at e
      cases e
      exact ⟨us, h, r⟩
    · rw [aup_ne ha] at e
      exact R.at_ a o e
  · by_cases ha : a = D0
    · subst ha
      rw [aup_same] at e1
      cases e1
      exact ⟨fun z => (by cases z), fun x z => (by cases z)⟩
    · rw [aup_ne ha] at e1
      by_cases hb : b = D0
      · subst hb
        rw [aup_same] at e2
        cases e2
        exact ⟨fun z => nD ⟨a, o, e1, .inr z⟩, fun x _ z => (by cases z)⟩
      · rw [aup_ne hb] at e2
        exact R.dis a b o u e1 e2 hab
def ownQ (Q : AVK) : AVK := fun d s => opt (lstD d) (fun acc => New s (fun p => Q (.ref p) (aup s p (.lst acc))) ⟨⟩) ⟨⟩
def aLcO (wi : ATI) (g : ATG) (tt : ATT) (te : ATE) (vs : List Nat) : ATE := fun as s Q E => aLc wi g tt te vs as s (ownQ Q) E
theorem u_aLcO (wi : ATI) (g : ATG) (tt : ATT) (te : ATE) (vs : List Nat) : ∀ as s Q E, aLcO wi g tt te vs as s Q E = aLc wi g tt te vs as s (fun d s => opt (lstD d) (fun acc => New s (fun p => Q (.ref p) (aup s p (.lst acc))) ⟨⟩) ⟨⟩) E := fun _ _ _ _ => (rfl)
section
variable {X : Cx} {W : WX}
theorem conc_lcO {σ0 : L2.St} {H0 : Hp} {Qc : VK} {wi : ATI} {ws vs : List Nat} {g : ATG} {tt : ATT} {te : ATE} (hw : ∀ i, i ∈ ws → i ∈ vs) (h : concE X.K W (aLcO wi g tt te vs) σ0 H0 Qc) :
    tLc (concI X.K W wi) (concG X.K ws g) (concT X.K W0 tt) (concE X.K W0 te) vs σ0 H0 Qc := by
  obtain ⟨Z, as0, s0, Q, E, R0, q, L, LX⟩ := h
  refine ⟨Z, as0, s0, _, E, R0, q, fun J ds G H1 s1 R1 f1 wk hq => ?_, LX⟩
  intro D hD
  obtain ⟨P, p0, hG, hlen, step, done⟩ := hq
  obtain ⟨Ra, fa⟩ := R1.rep.aside (u := .lst []) hD trivial
  have zD : ¬ Z D := fun z => by
    obtain ⟨⟨u, e, _⟩, _⟩ := R1.rep.zed D z
    rw [hD] at e
    cases e
  have sl0 : ∀ H s, Rep X.K (fun x => Z x ∨ x = D) H s → Frn H1 (Ow Z s1) H (Ow (fun x => Z x ∨ x = D) s) → Rst X.K (fun x => Z x ∨ x = D) (wipe σ0 vs) H (wipeA as0 vs) s := fun H s R f => by
    have w := R1.wipe vs
    exact ⟨R, fun i d e => let ⟨v, h1, h2⟩ := w.sl i d e; ⟨v, h1, h2.gen f⟩, w.len⟩
  refine ⟨fun i m H => ∃ acc s us, m = ds.length - i ∧ i ≤ ds.length ∧ acc.length ≤ i ∧ Rep X.K (fun x => Z x ∨ x = D) H s ∧ Frn H1 (Ow Z s1) H (Ow (fun x => Z x ∨ x = D) s) ∧ Fr H1 s1 H s ∧ H D = some (.lst us) ∧ Rps X.K H (Ow (fun x => Z x ∨ x = D) s) acc us ∧ P i acc s, ⟨ds.length, [], s1, [], by simp, Nat.zero_le _, Nat.le_refl _, Ra, fa, fun p u h n => ⟨by rw [upd_ne (ne_of_none h hD)]; exact h, n⟩, upd_same, .nil, p0⟩, ?_⟩
  rintro i m H ⟨acc, s, us, rfl, hi, hal, R, fn, f, hDl, racc, p⟩
  have hg := hG i acc s hi p
  by_cases hlt : i < ds.length
  · refine .inr ⟨wk.go i _ H s hlt R fn hg, fun H' => ∃ acc s us, i + 1 ≤ ds.length ∧ acc.length ≤ i + 1 ∧ Rep X.K (fun x => Z x ∨ x = D) H' s ∧ Frn H1 (Ow Z s1) H' (Ow (fun x => Z x ∨ x = D) s) ∧ Fr H1 s1 H' s ∧ H' D = some (.lst us) ∧ Rps X.K H' (Ow (fun x => Z x ∨ x = D) s) acc us ∧ P (i + 1) acc s,
      fun H' ⟨acc, s, us, h1, h2, h3, h4, h5, h6, h7, h8⟩ => ⟨ds.length - (i + 1), by omega, acc, s, us, rfl, h1, h2, h3, h4, h5, h6, h7, h8⟩, fun x H' y => ?_⟩
    obtain ⟨Rr, fr, rx⟩ := wk.yld i _ _ H s x H' (List.getElem?_eq_getElem hlt) R fn hg y
    have st := step i _ acc s (List.getElem?_eq_getElem hlt) p
    have R' := (sl0 H s R fn).fr Rr fr
    refine ⟨_, _, wipeA as0 vs, s, _, R', rx, st, fun as2 s2 σ2 H2 R2 f2 off q2 => ⟨wipe_off ⟨off.1, fun j hj => off.2 j fun z => hj (hw j z)⟩, ?_⟩⟩
    refine ⟨_, as2, s2, _, noX, R2, q2, fun b s3 H3 R3 f3 q3 => ?_, noX_of⟩
    have f03 := (fr.trans f2).trans f3
    have nD : ¬ Own s D := (R.zed D (.inr rfl)).2
    cases b with
    | true =>
      rw [Br_true] at q3
      refine b_t ⟨_, as2, s3, _, noX, R2.fr R3 f3, q3, fun y s4 v H4 R4 ry f4 q4 => ?_, noX_of⟩
      obtain ⟨s5, le, p5⟩ := q4
      obtain ⟨R5, f5⟩ := R4.less le
      have f05 := (f03.trans f4).trans f5
      obtain ⟨hD5, nD5⟩ := f05 D _ hDl nD
      obtain ⟨R6, f6⟩ := R5.turn (u := .lst (us ++ [v])) (.inr rfl) hD5 trivial trivial
      refine ⟨us, hD5, ?_, acc ++ [y], s5, us ++ [v], hlt, by simp; omega, R6, (fn.trans f05.n).trans f6, fun p' u h n => ?_, upd_same, ((racc.fr f05).app (.one (ry.fr f5))).gen f6, p5⟩
      · rw [← racc.len]
        show acc.length < 16777216
        omega
      · obtain ⟨h1, n1⟩ := (f.trans f05) p' u h n
        exact ⟨by rw [upd_ne (ne_of_none h hD)]; exact h1, n1⟩
    | false =>
      rw [Br_false] at q3
      obtain ⟨s5, le, p5⟩ := q3
      obtain ⟨R5, f5⟩ := R3.less le
      have f05 := f03.trans f5
      obtain ⟨hD5, nD5⟩ := f05 D _ hDl nD
      exact b_f ⟨acc, s5, us, hlt, by omega, R5, fn.trans f05.n, f.trans f05, hD5, racc.fr f05, p5⟩
  · have e : i = ds.length := by omega
    subst e
    refine .inl ⟨wk.stop _ H s R fn hg, ?_⟩
    obtain ⟨Rz, sn⟩ := R.grab hDl zD racc
    have fo : Fr H1 s1 H (aup s D (.lst acc)) := fun p' u h n => by
      obtain ⟨h1, n1⟩ := f p' u h n
      refine ⟨h1, fun ⟨a, o, e, hx⟩ => ?_⟩
      by_cases ha : a = D
      · subst ha
        rw [aup_same] at e
        cases e
        rcases hx with hx | hx
        · subst hx; rw [hD] at h; cases h
        · cases hx
      · rw [aup_ne ha] at e
        exact n1 ⟨a, o, e, hx⟩
    have q9 : ownQ Q (.lst acc) s := done acc s p
    exact L (.ref D) (aup s D (.lst acc)) (.ref D) H Rz (.ref D) (f1.trans fo) (q9 D sn)
theorem ae_lcO {elt tg iter : Expr} {ifs : List Expr} {scope : Scope} {own : List (Str × Nat)} {pos : Pos} {wi : ATI} {ws : List Nat} {g : ATG} {tt : ATT} {te : ATE} (hc : X.calm = true) (hN : X.N.Nodup) (hi : AI X W tg iter wi) (ok : BlkOk X.N X.env.scope scope own) (hw : ∀ i, i ∈ ws → i ∈ own.map (·.2))
    (hg : ∀ (s : Shared) (H : Hp) (C : Addr) (cl : List (Str × Addr)) (fp : List Addr), AG (X.blk s H scope (compEnvC scope cl C X.env) fp) tg ws g) (ht : ∀ (s : Shared) (H : Hp) (C : Addr) (cl : List (Str × Addr)) (fp : List Addr), ATs (X.blk s H scope (compEnvC scope cl C X.env) fp) W0 ifs tt)
    (he : ∀ (s : Shared) (H : Hp) (C : Addr) (cl : List (Str × Addr)) (fp : List Addr), AE (X.blk s H scope (compEnvC scope cl C X.env) fp) W0 elt te) (hs : ∀ x, foldedSetIterable iter X.env x = pure x := by intro _; rfl) :
    AE X W (.ListComp elt [⟨tg, iter, ifs, 0⟩] scope pos) (aLcO wi g tt te (own.map (·.2))) :=
  ⟨weakE (pe_lc hc hN hi.pi ok (fun s H C cl fp => (hg s H C cl fp).pg) (fun s H C cl fp => (ht s H C cl fp).pts) (fun s H C cl fp => (he s H C cl fp).pe) hs) fun σ H Qc h => conc_lcO hw h⟩
end
end Sk
namespace Sk
open PySem PySem.Spec PyProof.Rows L2
/-! ### isinstance of a shelf -/
def xIns (x : Str) (K : PySem.W.Frag) : Bool :=
  He.eqO (PySem.W.findIn K (.ref (He.ga K x)) "__class__") (some (some (.builtin "object.__class__"))) && (He.eqO (PySem.W.specialIn K (.builtin "object.__class__") "__get__") (some (some (.builtin "getset_descriptor.__get__"))) && (decide (PySem.W.takesIn K (.builtin "object.__class__") = some true) && (decide (PySem.W.mroIn K (He.ga K x) (.type "object") = some true) && decide (PySem.W.kitOne K (.ref (He.ga K x)) (.ref (He.ga K x)) = some true))))
theorem xIns_ok {x : Str} {K : PySem.W.Frag} (cl : Cls K (He.ga K x)) (h : xIns x K = true) : C8.InsC K (He.ga K x) := by
  obtain ⟨h1, h⟩ := He.ba h
  obtain ⟨h2, h⟩ := He.ba h
  obtain ⟨h3, h⟩ := He.ba h
  obtain ⟨h4, h5⟩ := He.ba h
  exact ⟨cl, He.eqO_ok h1, He.eqO_ok h2, of_decide_eq_true h3, of_decide_eq_true h4, of_decide_eq_true h5⟩
def isShX (C : Addr) : ARL := fun xs s Q => match xs with
  | [.ref a, .ref c] => opt (shO (s a)) (fun _ => Rq (c = C) (Q (.bl true) s) ⟨⟩) ⟨⟩
  | _ => False
theorem isSh_r {C a c : Addr} {s : Ah} {Q : AVK} : isShX C [.ref a, .ref c] s Q = opt (shO (s a)) (fun _ => Rq (c = C) (Q (.bl true) s) ⟨⟩) ⟨⟩ := rfl
theorem srl_isSh {K : PySem.W.Frag} : SRL K (fun xs H Q => ∃ a dx fs, xs = [.ref a, .ref (He.ga K "Shelf")] ∧ H a = some (.ins (He.ga K "Shelf") dx fs) ∧ Q (.bl true) H) (isShX (He.ga K "Shelf")) := by
  intro Z H s xs vs Q Qc R r q L
  unfold isShX at q
  split at q
  · rename_i a c
    obtain ⟨sh, e, ec, q2⟩ := opt_of q
    subst ec
    have e1 := shO_eq e
    have S : ShelfAt (shC K) H a sh.1 sh.2 := R.at_ _ _ e1
    cases r with
    | cons h1 t1 =>
      cases h1
      cases t1 with
      | cons h2 t2 =>
        cases h2
        cases t2
        exact ⟨a, _, _, rfl, S.ob, L.here R (.bl true) q2⟩
  · exact q.elim
end Sk
namespace Sk
open PySem PySem.Spec PyProof.Rows L2
/-! ### l[::e], e being 1 or -1 -/
theorem pick_1 (items : Array Value) : slicePick items none none (some 1) = items.toList.toArray := by
  unfold slicePick
  have eb : sliceBounds none none (some 1) items.size = (0, (items.size : Int), 1) := by first | rfl | simp [sliceBounds]
  rw [eb]
  have e : sliceRange 0 (items.size : Int) 1 = List.range items.size := by
    unfold sliceRange
    simp only [show (1 : Int) > 0 by decide, if_true]
    by_cases h : (0 : Int) < (items.size : Int)
    · rw [if_pos h, show ((items.size : Int) - 0 + 1 - 1) / 1 = (items.size : Int) by rw [Int.ediv_one]; omega, Int.toNat_natCast]
      refine (List.map_congr_left fun k _ => ?_).trans (List.map_id _)
      show (0 + 1 * (k : Int)).toNat = k
      omega
    · have : items.size = 0 := by omega
      rw [if_neg h, this]
      rfl
  show ((sliceRange 0 (items.size : Int) 1).filterMap (items[·]?)).toArray = _
  rw [e, PySem.W.krv_all]
def stepL (i : Int) (xs : List V) : List V := if i = 1 then xs else xs.reverse
def tStep (K : PySem.W.Frag) (te ts : TE) : TE := fun σ H Q => te σ H fun x H1 => tPart ts σ H1 fun o H2 => ∃ a xs i, x = .ref a ∧ o = some i ∧ (i = 1 ∨ i = -1) ∧ SqL K H2 a xs ∧ ∀ p, H2 p = none → Q (.ref p) (upd H2 p (.lst (stepL i xs)))
theorem pe_stepL {X : Cx} {e es : Expr} {te ts : TE} {p3 pos : Pos} (he : PE X e te) (hs : PE X es ts) : PE X (.Subscript e (.Slice none none (some es) p3) pos) (tStep X.K te ts) := by
  refine ⟨fun pins s σ H Q I h => ?_⟩
  refine Subscript_ (thn (he.run pins s σ H _ I h) fun v s1 ⟨x, H1, I1, r1, q1⟩ => ?_)
  refine wpAny_Slice (thn (po_none.run pins s1 σ H1 (fun o H2 => o = none ∧ H2 = H1) I1 ⟨rfl, rfl⟩) fun vl s2 ⟨l, H2, I2, pl, el, e2⟩ => ?_)
  subst el e2
  refine thn (po_none.run pins s2 σ H2 (fun o H3 => o = none ∧ H3 = H2) I2 ⟨rfl, rfl⟩) fun vu s3 ⟨u, H3, I3, pu, eu, e3⟩ => ?_
  subst eu e3
  refine thn ((po_some hs).run pins s3 σ H3 _ I3 q1) fun vs s4 ⟨o, H4, I4, ps, a, xs, i, ex, eo, hi, hx, q⟩ => ?_
  subst eo ex
  have I5 : Inv X pins σ H4 { s4 with heap := s4.heap.push { cls := .type "slice", data := .fields #[vl, vu, vs] } } := I4.kept (t' := s4.toks) fun b ob q => Heap.get?_push_of_some _ q
  cases r1
  obtain ⟨its, r, ht, hz⟩ := I5.list hx
  have hlen := r.length
  show wpAny (model X.prog X.w) X.A (subscriptTail e (.Slice none none (some es) p3) (.ref a) (.ref s4.heap.objs.size)) (EP X pins σ Q) X.xe { s4 with heap := s4.heap.push { cls := .type "slice", data := .fields #[vl, vu, vs] } }
  refine tail_any (ops := [.ref a, .ref s4.heap.objs.size]) ht.isList.typeIs (PySem.slot_list_getitem.lookup) ?_ (by with_unfolding_all rfl)
  refine wpAny_getItem_list_slice ht.isList (Heap.IsSliceOf.new _ vl vu vs) pl pu ps (by rcases hi with rfl | rfl <;> decide) ?_ (by rw [List.size_toArray]; omega)
  refine ⟨.ref _, _, I5.laid (t' := s4.toks) (o := .lst (stepL i xs)) (fun b ob q => Heap.get?_push_of_some _ q) (Nat.le_refl _) ?_, rfl, q _ (I5.hok.fresh (Nat.le_refl _))⟩
  rcases hi with rfl | rfl
  · rw [pick_1]
    exact ⟨hz, _, 0, r, Heap.get?_push_size _ rfl⟩
  · rw [PySem.W.krv_pick]
    exact ⟨by show xs.reverse.length ≤ _; rw [List.length_reverse]; exact hz, _, 0, r.reverse, Heap.get?_push_size _ rfl⟩
def stA : D → D → Option D
  | .lst ds, .int i => if i = 1 then some (.lst ds) else if i = -1 then some (.lst ds.reverse) else none
  | _, _ => none
theorem stA_1 {ds : List D} : stA (.lst ds) (.int 1) = some (.lst ds) := rfl
theorem stA_m {ds : List D} : stA (.lst ds) (.int (-1)) = some (.lst ds.reverse) := rfl
def aStep (a b : ATE) : ATE := fun as s Q E => a as s (fun x s1 => b as s1 (fun y s2 => opt (stA (view s2 x) y) (fun r => Q r s2) ⟨⟩) E) E
theorem u_aStep (a b : ATE) : ∀ as s Q E, aStep a b as s Q E = (a as s (fun x s1 => b as s1 (fun y s2 => opt (stA (view s2 x) y) (fun r => Q r s2) ⟨⟩) E) E) := fun _ _ _ _ => (rfl)
theorem ae_stepL {X : Cx} {W : WX} {e es : Expr} {ta tb : ATE} {p3 pos : Pos} (he : AE X W e ta) (hs : AE X W es tb) : AE X W (.Subscript e (.Slice none none (some es) p3) pos) (aStep ta tb) := by
  refine ⟨weakE (pe_stepL he.pe hs.pe) ?_⟩
  rintro σ H Qc ⟨Z, as, s, Q, E, R, q, L, LX⟩
  refine conc_bind (Q1 := fun x s1 => tb as s1 (fun y s2 => opt (stA (view s2 x) y) (fun r => Q r s2) ⟨⟩) E) R LX q fun x s1 v H1 R1 r1 f1 L1 q1 => ?_
  refine conc_bind (Q1 := fun y s2 => opt (stA (view s2 x) y) (fun r => Q r s2) ⟨⟩) R1 L1 q1 fun y s2 u H2 R2 r2 f2 L2 q2 => ?_
  obtain ⟨d, e, q3⟩ := opt_of q2
  unfold stA at e
  split at e
  · rename_i ds i e1
    obtain ⟨a, vs, rfl, h1, r3⟩ := view_lst R2.rep (r1.fr f2) e1
    cases r2
    refine ⟨i, rfl, a, vs, i, rfl, rfl, ?_, h1, fun p0 hp0 => ?_⟩
    · split at e
      · exact .inl (by assumption)
      · split at e
        · exact .inr (by assumption)
        · cases e
    · obtain ⟨R', f', _⟩ := R2.rep.new (u := .lst (stepL i vs)) hp0
      refine L _ _ _ _ R' ?_ ((f1.trans f2).trans f') q3
      split at e
      · rename_i ei
        cases e
        subst ei
        exact rp_newL R2.rep r3 hp0
      · split at e
        · rename_i n1 ei
          cases e
          subst ei
          exact rp_newL R2.rep r3.rev hp0
        · cases e
  · cases e
end Sk
namespace Sk
open PySem PySem.Spec PyProof.Rows L2
/-! ### list.index of plain data -/
theorem pys_get : ∀ {ds : List D} {i : Nat}, (D.py.pys ds)[i]? = (ds[i]?).map D.py
  | [], i => by rw [List.getElem?_nil]; show (([] : List PyData)[i]?) = none; rw [List.getElem?_nil]
  | d :: ds, 0 => rfl
  | d :: ds, i + 1 => by
    show (D.py d :: D.py.pys ds)[i + 1]? = _
    rw [List.getElem?_cons_succ, List.getElem?_cons_succ]
    exact pys_get
def mIndexD : ARM := fun x ys s Q => opt (lstV (view s x)) (fun ds => opt (one ys) (fun y => Rq (okD (.lst ds) ∧ okD (view s y) ∧ (ds.any fun d => deq d (view s y)) = true) (Q (.int (ds.findIdx fun d => deq d (view s y))) s) ⟨⟩) ⟨⟩) ⟨⟩
theorem u_mIndexD : ∀ x ys s Q, mIndexD x ys s Q = opt (lstV (view s x)) (fun ds => opt (one ys) (fun y => Rq (okD (.lst ds) ∧ okD (view s y) ∧ (ds.any fun d => deq d (view s y)) = true) (Q (.int (ds.findIdx fun d => deq d (view s y))) s) ⟨⟩) ⟨⟩) ⟨⟩ := fun _ _ _ _ => (rfl)
theorem srm_indexD {K : PySem.W.Frag} : SRM K (rIndexD K) mIndexD := by
  intro Z H s x xs v vs Q Qc R r rs q L
  obtain ⟨ds, e1, q⟩ := opt_of q
  obtain ⟨y, e2, ⟨f1, f2, f3⟩, q⟩ := opt_of q
  have ev : view s x = .lst ds := lstD_eq e1
  obtain ⟨a, ws, rfl, h, rr⟩ := view_lst R r ev
  obtain ⟨u, rfl, ru⟩ := one_rp rs e2
  have hlt : (ds.findIdx fun d => deq d (view s y)) < ds.length := List.findIdx_lt_length_of_exists (by simpa using f3)
  have hd := List.findIdx_getElem (xs := ds) (p := fun d => deq d (view s y)) (w := hlt)
  have d1 := view_dp R r (by rw [ev]; exact f1.1)
  rw [ev] at d1
  refine ⟨a, u, _, D.py.pys ds, _, _, rfl, rfl, d1, view_dp R ru f2.1, f1.2, f2.2, by rw [pys_get, List.getElem?_eq_getElem hlt]; rfl, hd, fun m z' hm hz' => ?_, L.here R (.int _) q⟩
  rw [pys_get] at hz'
  obtain ⟨d', ed, rfl⟩ := Option.map_eq_some_iff.mp hz'
  have := List.not_of_lt_findIdx hm
  obtain ⟨hm', e3⟩ := List.getElem?_eq_some_iff.mp ed
  rw [e3] at this
  have e4 : deq d' (view s y) = false := by simpa using this
  exact e4
end Sk
namespace Sk
open PySem PySem.Spec PyProof.Rows L2
/-! ### f-strings of texts and ints -/
def fmtL : D → Option (List Nat × Prop)
  | .str z => some (z, z.length ≤ 16777216)
  | .int i => some (numS i, i.natAbs.log2 < 1920)
  | _ => none
theorem fmtL_s {z : List Nat} : fmtL (.str z) = some (z, z.length ≤ 16777216) := rfl
theorem fmtL_i {i : Int} : fmtL (.int i) = some (numS i, i.natAbs.log2 < 1920) := rfl
def strD1 : D → Option (List Nat)
  | .str z => some z
  | _ => none
theorem strD1_s {z : List Nat} : strD1 (.str z) = some z := rfl
def aFmt (a : ATE) : ATE := fun as s Q E => a as s (fun d s1 => opt (fmtL d) (fun p => Rq p.2 (Q (.str p.1) s1) ⟨⟩) ⟨⟩) E
theorem u_aFmt : ∀ a as s Q E, aFmt a as s Q E = a as s (fun d s1 => opt (fmtL d) (fun p => Rq p.2 (Q (.str p.1) s1) ⟨⟩) ⟨⟩) E := fun _ _ _ _ _ => (rfl)
def aJl : List ATE → List Nat → ATE
  | [], acc => fun _ s Q _ => Q (.str acc) s
  | a :: r, acc => fun as s Q E => a as s (fun d s1 => opt (strD1 d) (fun y => Rq ((acc ++ y).length ≤ 16777216) (aJl r (acc ++ y) as s1 Q E) ⟨⟩) ⟨⟩) E
theorem u_aJl0 : ∀ acc as s Q E, aJl [] acc as s Q E = Q (.str acc) s := fun _ _ _ _ _ => (rfl)
theorem u_aJl1 : ∀ a r acc as s Q E, aJl (a :: r) acc as s Q E = a as s (fun d s1 => opt (strD1 d) (fun y => Rq ((acc ++ y).length ≤ 16777216) (aJl r (acc ++ y) as s1 Q E) ⟨⟩) ⟨⟩) E := fun _ _ _ _ _ _ _ => (rfl)
section
variable {X : Cx} {W : WX} {e : Expr} {a : ATE} {pos : Pos}
theorem ae_fmt (h : AE X W e a) : AE X W (.FormattedValue e (-1) none pos) (aFmt a) := ⟨weakE (pe_fmt h.pe) fun σ H Qc => by
  rintro ⟨Z, as, s, Q, E, R, q, L, LX⟩
  refine conc_bind (Q1 := fun d s1 => opt (fmtL d) (fun p => Rq p.2 (Q (.str p.1) s1) ⟨⟩) ⟨⟩) R LX q fun d s1 v H1 R1 r1 f1 L1 q1 => ?_
  obtain ⟨p, e1, hp, q2⟩ := opt_of q1
  unfold fmtL at e1
  split at e1
  · cases e1
    cases r1
    exact .inl ⟨_, rfl, by rw [ofL_len]; exact hp, L _ s1 _ H1 R1.rep (.str _) f1 q2⟩
  · cases e1
    cases r1
    exact .inr ⟨_, rfl, hp, L _ s1 _ H1 R1.rep (rp_str (ofL_toList _).symm) f1 q2⟩
  · cases e1⟩
inductive AJ (X : Cx) (W : WX) : List Expr → List ATE → Prop where
  | nil : AJ X W [] []
  | cons {e : Expr} {t : ATE} {es : List Expr} {ts : List ATE} (h : AE X W e t) (r : AJ X W es ts) : AJ X W (e :: es) (t :: ts)
theorem AJ.pj {es : List Expr} {ts : List ATE} (h : AJ X W es ts) : PJ X es (ts.map fun t => concE X.K W t) := by
  induction h with
  | nil => exact .nil
  | cons h r ih => exact .cons h.pe ih
theorem conc_Jl {K : PySem.W.Frag} : ∀ {ts : List ATE} {acc : List Nat} {σ : L2.St} {H : Hp} {Qc : VK}, concE K W (aJl ts acc) σ H Qc → tJs (ts.map fun t => concE K W t) (ofL acc) σ H fun out H1 => Qc (.str out) H1
  | [], acc, σ, H, Qc, ⟨Z, as, s, Q, E, R, q, L, LX⟩ => L.here R.rep (.str acc) q
  | t :: ts, acc, σ, H, Qc, ⟨Z, as, s, Q, E, R, q, L, LX⟩ => by
    show concE K W t σ H fun x H1 => ∃ y : Str, x = .str y ∧ (ofL acc ++ y).length ≤ sizeLine ∧ tJs (ts.map fun t => concE K W t) (ofL acc ++ y) σ H1 fun out H1 => Qc (.str out) H1
    refine conc_bind (Q1 := fun d s1 => opt (strD1 d) (fun y => Rq ((acc ++ y).length ≤ 16777216) (aJl ts (acc ++ y) as s1 Q E) ⟨⟩) ⟨⟩) R LX q fun d s1 v H1 R1 r1 f1 L1 q1 => ?_
    obtain ⟨y, e1, hp, q2⟩ := opt_of q1
    unfold strD1 at e1
    split at e1
    · cases e1
      cases r1
      refine ⟨_, rfl, by rw [ofL_add, ofL_len]; exact hp, ?_⟩
      rw [ofL_add]
      exact conc_Jl ⟨Z, as, s1, Q, E, R1, q2, L.fr f1, L1⟩
    · cases e1
theorem ae_joined {v1 v2 : Expr} {rest : List Expr} {ts : List ATE} (h : AJ X W (v1 :: v2 :: rest) ts) : AE X W (.JoinedStr (v1 :: v2 :: rest) pos) (aJl ts []) := ⟨weakE (pe_joined h.pj) fun σ H Qc q => conc_Jl q⟩
end
end Sk
namespace Sk
open PySem PySem.Spec PyProof.Rows L2
/-! ### replace of written texts, behind a docstring -/
def mRpl (y z : Str) : AR1 := fun d s Q => opt (strD1 d) (fun x => Rq ((ofL x).length + ((ofL x).length + 1) * z.length ≤ 16777216) (Q (.str (Txt.replace (ofL x) y z).cps.toList) s) ⟨⟩) ⟨⟩
theorem u_mRpl : ∀ y z d s Q, mRpl y z d s Q = opt (strD1 d) (fun x => Rq ((ofL x).length + ((ofL x).length + 1) * z.length ≤ 16777216) (Q (.str (Txt.replace (ofL x) y z).cps.toList) s) ⟨⟩) ⟨⟩ := fun _ _ _ _ _ => (rfl)
structure AET (X : Cx) (W : WX) (e : Expr) (a : ATE) : Prop where
  pet : L2.PET X e (concE X.K W a)
section
variable {X : Cx} {W : WX} {o : Expr} {a : ATE} {y z : Str} {j k : Nat} {c0 c1 apos pos p p' : Pos}
theorem weakET {e : Expr} {t t' : TE} (h : L2.PET X e t) (k : ∀ σ H Q, t' σ H Q → t σ H Q) : L2.PET X e t' := fun pins s σ H Q h0 I q => h pins s σ H Q h0 I (k σ H Q q)
theorem conc_rpl {K : PySem.W.Frag} {σ : L2.St} {H : Hp} {Qc : VK} : concE K W (aUn (mRpl y z) a) σ H Qc → CwR.tReplC (concE K W a) y z σ H Qc := by
  rintro ⟨Z, as, s, Q, E, R, q, L, LX⟩
  refine conc_bind (Q1 := fun d s1 => mRpl y z d s1 Q) R LX q fun d s1 v H1 R1 r1 f1 L1 q1 => ?_
  obtain ⟨x, e1, hp, q2⟩ := opt_of q1
  unfold strD1 at e1
  split at e1
  · cases e1
    cases r1
    exact ⟨_, rfl, hp, L _ s1 _ H1 R1.rep (rp_str (ofL_toList _).symm) f1 q2⟩
  · cases e1
theorem aet_repl (ho : AE X W o a) (hyz : (y == z) = false := by decide)
    (hst : starEach [.Constant (.str y) j c0, .Constant (.str z) k c1] X.env = [(false, eval (.Constant (.str y) j c0) X.env), (false, eval (.Constant (.str z) k c1) X.env)] := by rfl)
    (hbase : attributeBase o "replace" X.env (eval o X.env) = eval o X.env := by rfl) (hline : (apos.endLine == pos.line) = true := by rfl) :
    AET X W (.Call (.Attribute o "replace" apos) [.Constant (.str y) j c0, .Constant (.str z) k c1] [] pos) (aUn (mRpl y z) a) :=
  ⟨weakET (CwR.pet_replC ho.pe hyz hst hbase hline) fun σ H Q q => conc_rpl q⟩
theorem aet_replT (ho : AET X W o a) (hyz : (y == z) = false := by decide)
    (hst : starEach [.Constant (.str y) j c0, .Constant (.str z) k c1] X.env = [(false, eval (.Constant (.str y) j c0) X.env), (false, eval (.Constant (.str z) k c1) X.env)] := by rfl)
    (hbase : attributeBase o "replace" X.env (eval o X.env) = eval o X.env := by rfl) (hline : (apos.endLine == pos.line) = true := by rfl) :
    AET X W (.Call (.Attribute o "replace" apos) [.Constant (.str y) j c0, .Constant (.str z) k c1] [] pos) (aUn (mRpl y z) a) :=
  ⟨weakET (CwR.pet_replT ho.pet hyz hst hbase hline) fun σ H Q q => conc_rpl q⟩
structure ASsT (X : Cx) (W : WX) (st : List Stmt) (a : ATS) : Prop where
  psst : L2.PSsT X st (concS X.K W a)
theorem asst_ret {e : Expr} {te : ATE} {q : Pos} (he : AET X W e te) : ASsT X W [.Return (some e) q] (aRet te) :=
  ⟨CwR.psst_one fun pins s σ H D h0 I h => CwR.pst_ret he.pet pins s σ H D h0 I (by
    obtain ⟨Z, A, as, s1, R, q1, L⟩ := h
    exact ⟨Z, as, s1, A.rt, _, R, q1, L.rt, L.x R⟩)⟩
end
/-! ### a def of one parameter or more: a token is out -/
section
variable {P : Program} {w : World} {K : PySem.W.Frag} {mg : Str → Option Value} {base : Heap} {k : Nat} {x qual : Str} {N ps : List Str} {f : ASp} {args : Arguments} {body : List Stmt} {sc : Scope} {tl : ASt}
abbrev BodyAT (P : Program) (w : World) (K : PySem.W.Frag) (mg : Str → Option Value) (base : Heap) (k : Nat) (N : List Str) (qual : Str) (sc : Scope) (body : List Stmt) (fA : Addr) (tl : ASt) (f : ASp) : Prop :=
  ∃ at_ : ATS, (∀ cdv A outer s H E, Room k (A.deeper (envOfC qual sc s.heap.objs.size fA cdv)) → ASsT (cxOf (L2.CX P w) P w K mg base N qual sc fA cdv A outer s H E) (fun c d _ H => E c d H) body at_) ∧ ∀ ds s Q E, f ds s Q E → at_ (endsA Q E) (ds.map some ++ tl) s
theorem calAT (F : ∃ fd, FunD K x qual args body sc [] [] (He.fAd K (x, none)) fd) (g : mg x = some (.ref (He.ga K x))) (S : FnScope N ps sc)
    (b : ∀ (kV doc pm : Value) (an : Option Addr) (cdv ct : Value) (us : List Value), us.length = ps.length → bindArgs (PySem.W.fnOf x qual args body sc .none kV doc pm an cdv ct) ⟨us, []⟩ = pure (ps.zip us))
    (hnc : ∀ y ∈ sc.names, y.2 ≠ .cell) (hps : 1 ≤ ps.length)
    (htl : tl = List.replicate (N.length - ps.length) none) (len : ∀ ds s Q E, f ds s Q E → ds.length = ps.length) (h : BodyAT P w K mg base k N qual sc body (He.ga K x) tl f) : Cal P w K mg base (k + 1) x ps (spA K f) := by
  obtain ⟨fd, F⟩ := F
  refine ⟨⟨fd, ?_, F.bindsN b, .of F⟩, g, F.kp⟩
  obtain ⟨oc, od, dV, kV, doc, pm, an, cdv, ct, osl, rfl, lk, hcd, _, _⟩ := F.ex
  refine fn_ofT lk hcd S hnc hps (spA_len len) fun A outer s0 H vs Q E hr hsp => ?_
  obtain ⟨at_, h1, h2⟩ := h
  obtain ⟨Z, ds, s, Qa, Ea, R, r, q, L, LX⟩ := hsp
  refine ⟨_, (h1 cdv A outer s0 H E hr).psst, Z, endsA Qa Ea, _, s, r.start R (by rw [← r.len]; exact len _ _ _ _ q) htl, h2 ds s Qa Ea q, ?_⟩
  have ret : Lnk K Z H s (fun d s' => CvR Qa d s') Q := fun d s' v H' R' r' f' ⟨d2, s2, cv, q2⟩ => by
    obtain ⟨R2, r2, f2⟩ := cv K Z H' v R' r'
    exact L d2 s2 v H' R2 r2 (f'.trans f2) q2
  refine ⟨fun as' s' σ' H' R' f' q' => ret .non s' .non H' R'.rep .non f' q', ret, fun _ _ _ _ _ _ z => z.elim, fun _ _ _ _ _ _ z => z.elim, fun c od as' s' σ' H' R' f' ⟨s2, le, q2⟩ => ?_⟩
  obtain ⟨R2, f2⟩ := R'.rep.less le
  exact LX c od s2 H' R2 (f'.trans f2) q2
end
end Sk
namespace Sk
open PySem PySem.Spec PyProof.Rows L2
def top (i : Nat) : Stmt := PySem.Challenge.pw_skeinwood_k86_shelves_written.main.body.getD i (.Pass ⟨0, 0, 0, 0⟩)
abbrev s_is_plain : Stmt := top 9
abbrev s_ends_in : Stmt := top 10
abbrev s_Shelf_init : Stmt := inClass (top 14) 0
abbrev s_Shelf_want_piece : Stmt := inClass (top 14) 2
abbrev s_Shelf_many : Stmt := inClass (top 14) 3
abbrev s_Shelf_piece : Stmt := inClass (top 14) 4
abbrev s_Shelf_laid : Stmt := inClass (top 14) 11
abbrev s_Shelf_leaf : Stmt := inClass (top 14) 12
abbrev s_Shelf_fork : Stmt := inClass (top 14) 13
abbrev s_Shelf_is_loose : Stmt := inClass (top 14) 14
abbrev s_written : Stmt := top 16
abbrev s_piece_row : Stmt := top 17
abbrev s_shelf_text : Stmt := top 18
abbrev s_law_mixed : Stmt := top 20
abbrev s_law_stream : Stmt := top 21
abbrev s_law_digit : Stmt := top 22
abbrev s_law_letters : Stmt := top 23
abbrev s_law_tree : Stmt := top 24
abbrev s_law_text : Stmt := top 25
abbrev s_law_long : Stmt := top 26
abbrev s_law_drawn_shelf : Stmt := top 27
abbrev s_law_written : Stmt := top 28
abbrev s_law_shelf_text : Stmt := top 29
abbrev s_law : Stmt := top 30
abbrev dd_is_plain : He.DefD := ⟨("is_plain", none), "is_plain", "is_plain", defArgs s_is_plain, defBody s_is_plain, defScope s_is_plain, [], []⟩
abbrev dd_ends_in : He.DefD := ⟨("ends_in", none), "ends_in", "ends_in", defArgs s_ends_in, defBody s_ends_in, defScope s_ends_in, [], []⟩
abbrev dd_Shelf_init : He.DefD := ⟨("Shelf", some "__init__"), "__init__", "Shelf.__init__", defArgs s_Shelf_init, defBody s_Shelf_init, defScope s_Shelf_init, [], []⟩
abbrev dd_Shelf_want_piece : He.DefD := ⟨("Shelf", some "want_piece"), "want_piece", "Shelf.want_piece", defArgs s_Shelf_want_piece, defBody s_Shelf_want_piece, defScope s_Shelf_want_piece, [], []⟩
abbrev dd_Shelf_many : He.DefD := ⟨("Shelf", some "many"), "many", "Shelf.many", defArgs s_Shelf_many, defBody s_Shelf_many, defScope s_Shelf_many, [], []⟩
abbrev dd_Shelf_piece : He.DefD := ⟨("Shelf", some "piece"), "piece", "Shelf.piece", defArgs s_Shelf_piece, defBody s_Shelf_piece, defScope s_Shelf_piece, [], []⟩
abbrev dd_Shelf_laid : He.DefD := ⟨("Shelf", some "laid"), "laid", "Shelf.laid", defArgs s_Shelf_laid, defBody s_Shelf_laid, defScope s_Shelf_laid, [], []⟩
abbrev dd_Shelf_leaf : He.DefD := ⟨("Shelf", some "leaf"), "leaf", "Shelf.leaf", defArgs s_Shelf_leaf, defBody s_Shelf_leaf, defScope s_Shelf_leaf, [], []⟩
abbrev dd_Shelf_fork : He.DefD := ⟨("Shelf", some "fork"), "fork", "Shelf.fork", defArgs s_Shelf_fork, defBody s_Shelf_fork, defScope s_Shelf_fork, [], []⟩
abbrev dd_Shelf_is_loose : He.DefD := ⟨("Shelf", some "is_loose"), "is_loose", "Shelf.is_loose", defArgs s_Shelf_is_loose, defBody s_Shelf_is_loose, defScope s_Shelf_is_loose, [], []⟩
abbrev dd_written : He.DefD := ⟨("written", none), "written", "written", defArgs s_written, defBody s_written, defScope s_written, [], []⟩
abbrev dd_piece_row : He.DefD := ⟨("piece_row", none), "piece_row", "piece_row", defArgs s_piece_row, defBody s_piece_row, defScope s_piece_row, [], []⟩
abbrev dd_shelf_text : He.DefD := ⟨("shelf_text", none), "shelf_text", "shelf_text", defArgs s_shelf_text, defBody s_shelf_text, defScope s_shelf_text, [], []⟩
abbrev dd_law_mixed : He.DefD := ⟨("_law_mixed", none), "_law_mixed", "_law_mixed", defArgs s_law_mixed, defBody s_law_mixed, defScope s_law_mixed, [], []⟩
abbrev dd_law_stream : He.DefD := ⟨("_law_stream", none), "_law_stream", "_law_stream", defArgs s_law_stream, defBody s_law_stream, defScope s_law_stream, [], []⟩
abbrev dd_law_digit : He.DefD := ⟨("_law_digit", none), "_law_digit", "_law_digit", defArgs s_law_digit, defBody s_law_digit, defScope s_law_digit, [], []⟩
abbrev dd_law_letters : He.DefD := ⟨("_law_letters", none), "_law_letters", "_law_letters", defArgs s_law_letters, defBody s_law_letters, defScope s_law_letters, [], []⟩
abbrev dd_law_tree : He.DefD := ⟨("_law_tree", none), "_law_tree", "_law_tree", defArgs s_law_tree, defBody s_law_tree, defScope s_law_tree, [], []⟩
abbrev dd_law_text : He.DefD := ⟨("_law_text", none), "_law_text", "_law_text", defArgs s_law_text, defBody s_law_text, defScope s_law_text, [], []⟩
abbrev dd_law_long : He.DefD := ⟨("_law_long", none), "_law_long", "_law_long", defArgs s_law_long, defBody s_law_long, defScope s_law_long, [], []⟩
abbrev dd_law_drawn_shelf : He.DefD := ⟨("_law_drawn_shelf", none), "_law_drawn_shelf", "_law_drawn_shelf", defArgs s_law_drawn_shelf, defBody s_law_drawn_shelf, defScope s_law_drawn_shelf, [], []⟩
abbrev dd_law_written : He.DefD := ⟨("_law_written", none), "_law_written", "_law_written", defArgs s_law_written, defBody s_law_written, defScope s_law_written, [], []⟩
abbrev dd_law_shelf_text : He.DefD := ⟨("_law_shelf_text", none), "_law_shelf_text", "_law_shelf_text", defArgs s_law_shelf_text, defBody s_law_shelf_text, defScope s_law_shelf_text, [], []⟩
abbrev dd_law : He.DefD := ⟨("law", none), "law", "law", defArgs s_law, defBody s_law, defScope s_law, [], []⟩
def fa0 : List He.Fa := [.glo "is_plain", .glo "ends_in", .glo "written", .glo "piece_row", .glo "shelf_text", .glo "_law_mixed", .glo "_law_stream", .glo "_law_digit", .glo "_law_letters", .glo "_law_tree", .glo "_law_text", .glo "_law_long", .glo "_law_drawn_shelf", .glo "_law_written", .glo "_law_shelf_text", .glo "law", .int "MOST_IN_LEAF" 8, .int "MOST_SIGNS" 1000000000000000000, .free "all", .free "int", .free "isinstance", .free "len", .free "max", .free "min", .free "range", .free "str", .free "sum", .glo "Shelf", .cls "Shelf", .mkr "Shelf"]
def fa1 : List He.Fa := [.meth "Shelf" "want_piece", .meth "Shelf" "many", .meth "Shelf" "piece", .meth "Shelf" "laid", .meth "Shelf" "leaf", .meth "Shelf" "fork", .meth "Shelf" "is_loose", .noat "Shelf" "pieces", .noat "Shelf" "numbers", .noat "Shelf" "told_signs", .noat "Shelf" "told_ends", .noat "Shelf" "told_leaves", .noat "Shelf" "told_heights", .noat "Shelf" "firsts", .noat "Shelf" "lasts", .glo "SkeinError", .exc "SkeinError", .glo "NoText", .exc "NoText", .glo "NoPiece", .exc "NoPiece", .glo "Loose", .exc "Loose", .glo "Unlevel", .exc "Unlevel", .glo "TooLong", .exc "TooLong"]
def fa : List He.Fa := fa0 ++ (fa1)
def fn0 : List He.DefD := [dd_is_plain, dd_ends_in, dd_Shelf_init, dd_Shelf_want_piece, dd_Shelf_many, dd_Shelf_piece, dd_Shelf_laid, dd_Shelf_leaf, dd_Shelf_fork, dd_Shelf_is_loose, dd_written, dd_piece_row, dd_shelf_text, dd_law_mixed, dd_law_stream, dd_law_digit, dd_law_letters, dd_law_tree, dd_law_text, dd_law_long, dd_law_drawn_shelf, dd_law_written, dd_law_shelf_text, dd_law]
def fn : List He.DefD := fn0
def exs0 : Exs := []
def exs : Exs := exs0
/-- what the top has written -/
structure Tx (K : PySem.W.Frag) (mg : Str → Option Value) : Prop where
  says : SaysX fa fn exs K
  ns : ∃ h : Heap, K.In h ∧ h.Ns mainGlobals mg
section
variable {K : PySem.W.Frag} {mg : Str → Option Value} (T : Tx K mg)
include T
theorem Tx.glo_is_plain : mg "is_plain" = some (.ref (He.ga K "is_plain")) := let ⟨_, X, G⟩ := T.ns; He.glo_ok X G (T.says.d.fact 0 (f := .glo "is_plain") rfl)
theorem Tx.glo_ends_in : mg "ends_in" = some (.ref (He.ga K "ends_in")) := let ⟨_, X, G⟩ := T.ns; He.glo_ok X G (T.says.d.fact 1 (f := .glo "ends_in") rfl)
theorem Tx.glo_written : mg "written" = some (.ref (He.ga K "written")) := let ⟨_, X, G⟩ := T.ns; He.glo_ok X G (T.says.d.fact 2 (f := .glo "written") rfl)
theorem Tx.glo_piece_row : mg "piece_row" = some (.ref (He.ga K "piece_row")) := let ⟨_, X, G⟩ := T.ns; He.glo_ok X G (T.says.d.fact 3 (f := .glo "piece_row") rfl)
theorem Tx.glo_shelf_text : mg "shelf_text" = some (.ref (He.ga K "shelf_text")) := let ⟨_, X, G⟩ := T.ns; He.glo_ok X G (T.says.d.fact 4 (f := .glo "shelf_text") rfl)
theorem Tx.glo_law_mixed : mg "_law_mixed" = some (.ref (He.ga K "_law_mixed")) := let ⟨_, X, G⟩ := T.ns; He.glo_ok X G (T.says.d.fact 5 (f := .glo "_law_mixed") rfl)
theorem Tx.glo_law_stream : mg "_law_stream" = some (.ref (He.ga K "_law_stream")) := let ⟨_, X, G⟩ := T.ns; He.glo_ok X G (T.says.d.fact 6 (f := .glo "_law_stream") rfl)
theorem Tx.glo_law_digit : mg "_law_digit" = some (.ref (He.ga K "_law_digit")) := let ⟨_, X, G⟩ := T.ns; He.glo_ok X G (T.says.d.fact 7 (f := .glo "_law_digit") rfl)
theorem Tx.glo_law_letters : mg "_law_letters" = some (.ref (He.ga K "_law_letters")) := let ⟨_, X, G⟩ := T.ns; He.glo_ok X G (T.says.d.fact 8 (f := .glo "_law_letters") rfl)
theorem Tx.glo_law_tree : mg "_law_tree" = some (.ref (He.ga K "_law_tree")) := let ⟨_, X, G⟩ := T.ns; He.glo_ok X G (T.says.d.fact 9 (f := .glo "_law_tree") rfl)
theorem Tx.glo_law_text : mg "_law_text" = some (.ref (He.ga K "_law_text")) := let ⟨_, X, G⟩ := T.ns; He.glo_ok X G (T.says.d.fact 10 (f := .glo "_law_text") rfl)
theorem Tx.glo_law_long : mg "_law_long" = some (.ref (He.ga K "_law_long")) := let ⟨_, X, G⟩ := T.ns; He.glo_ok X G (T.says.d.fact 11 (f := .glo "_law_long") rfl)
theorem Tx.glo_law_drawn_shelf : mg "_law_drawn_shelf" = some (.ref (He.ga K "_law_drawn_shelf")) := let ⟨_, X, G⟩ := T.ns; He.glo_ok X G (T.says.d.fact 12 (f := .glo "_law_drawn_shelf") rfl)
theorem Tx.glo_law_written : mg "_law_written" = some (.ref (He.ga K "_law_written")) := let ⟨_, X, G⟩ := T.ns; He.glo_ok X G (T.says.d.fact 13 (f := .glo "_law_written") rfl)
theorem Tx.glo_law_shelf_text : mg "_law_shelf_text" = some (.ref (He.ga K "_law_shelf_text")) := let ⟨_, X, G⟩ := T.ns; He.glo_ok X G (T.says.d.fact 14 (f := .glo "_law_shelf_text") rfl)
theorem Tx.glo_law : mg "law" = some (.ref (He.ga K "law")) := let ⟨_, X, G⟩ := T.ns; He.glo_ok X G (T.says.d.fact 15 (f := .glo "law") rfl)
theorem Tx.int_MOST_IN_LEAF : ∃ t, mg "MOST_IN_LEAF" = some (.int 8 t) := let ⟨_, X, G⟩ := T.ns; He.int_ok X G (T.says.d.fact 16 (f := .int "MOST_IN_LEAF" 8) rfl)
theorem Tx.int_MOST_SIGNS : ∃ t, mg "MOST_SIGNS" = some (.int 1000000000000000000 t) := let ⟨_, X, G⟩ := T.ns; He.int_ok X G (T.says.d.fact 17 (f := .int "MOST_SIGNS" 1000000000000000000) rfl)
theorem Tx.free_all : mg "all" = none := let ⟨_, X, G⟩ := T.ns; He.free_ok X G (T.says.d.fact 18 (f := .free "all") rfl)
theorem Tx.free_int : mg "int" = none := let ⟨_, X, G⟩ := T.ns; He.free_ok X G (T.says.d.fact 19 (f := .free "int") rfl)
theorem Tx.free_isinstance : mg "isinstance" = none := let ⟨_, X, G⟩ := T.ns; He.free_ok X G (T.says.d.fact 20 (f := .free "isinstance") rfl)
theorem Tx.free_len : mg "len" = none := let ⟨_, X, G⟩ := T.ns; He.free_ok X G (T.says.d.fact 21 (f := .free "len") rfl)
theorem Tx.free_max : mg "max" = none := let ⟨_, X, G⟩ := T.ns; He.free_ok X G (T.says.d.fact 22 (f := .free "max") rfl)
theorem Tx.free_min : mg "min" = none := let ⟨_, X, G⟩ := T.ns; He.free_ok X G (T.says.d.fact 23 (f := .free "min") rfl)
theorem Tx.free_range : mg "range" = none := let ⟨_, X, G⟩ := T.ns; He.free_ok X G (T.says.d.fact 24 (f := .free "range") rfl)
theorem Tx.free_str : mg "str" = none := let ⟨_, X, G⟩ := T.ns; He.free_ok X G (T.says.d.fact 25 (f := .free "str") rfl)
theorem Tx.free_sum : mg "sum" = none := let ⟨_, X, G⟩ := T.ns; He.free_ok X G (T.says.d.fact 26 (f := .free "sum") rfl)
theorem Tx.glo_Shelf : mg "Shelf" = some (.ref (He.ga K "Shelf")) := let ⟨_, X, G⟩ := T.ns; He.glo_ok X G (T.says.d.fact 27 (f := .glo "Shelf") rfl)
theorem Tx.cls_Shelf : Cls K (He.ga K "Shelf") := He.cls_ok (T.says.d.fact 28 (f := .cls "Shelf") rfl)
theorem Tx.mkr_Shelf : Mk K (He.ga K "Shelf") (He.ma K (He.ga K "Shelf") "__init__") := He.mkr_ok (T.says.d.fact 29 (f := .mkr "Shelf") rfl)
theorem Tx.meth_Shelf_want_piece : Meth K (He.ga K "Shelf") "want_piece" (He.ma K (He.ga K "Shelf") "want_piece") := He.meth_ok (T.says.d.fact 30 (f := .meth "Shelf" "want_piece") rfl)
theorem Tx.meth_Shelf_many : Meth K (He.ga K "Shelf") "many" (He.ma K (He.ga K "Shelf") "many") := He.meth_ok (T.says.d.fact 31 (f := .meth "Shelf" "many") rfl)
theorem Tx.meth_Shelf_piece : Meth K (He.ga K "Shelf") "piece" (He.ma K (He.ga K "Shelf") "piece") := He.meth_ok (T.says.d.fact 32 (f := .meth "Shelf" "piece") rfl)
theorem Tx.meth_Shelf_laid : Meth K (He.ga K "Shelf") "laid" (He.ma K (He.ga K "Shelf") "laid") := He.meth_ok (T.says.d.fact 33 (f := .meth "Shelf" "laid") rfl)
theorem Tx.meth_Shelf_leaf : Meth K (He.ga K "Shelf") "leaf" (He.ma K (He.ga K "Shelf") "leaf") := He.meth_ok (T.says.d.fact 34 (f := .meth "Shelf" "leaf") rfl)
theorem Tx.meth_Shelf_fork : Meth K (He.ga K "Shelf") "fork" (He.ma K (He.ga K "Shelf") "fork") := He.meth_ok (T.says.d.fact 35 (f := .meth "Shelf" "fork") rfl)
theorem Tx.meth_Shelf_is_loose : Meth K (He.ga K "Shelf") "is_loose" (He.ma K (He.ga K "Shelf") "is_loose") := He.meth_ok (T.says.d.fact 36 (f := .meth "Shelf" "is_loose") rfl)
theorem Tx.noat_Shelf_pieces : NoAttr K (He.ga K "Shelf") "pieces" := He.noat_ok (T.says.d.fact 37 (f := .noat "Shelf" "pieces") rfl)
theorem Tx.noat_Shelf_numbers : NoAttr K (He.ga K "Shelf") "numbers" := He.noat_ok (T.says.d.fact 38 (f := .noat "Shelf" "numbers") rfl)
theorem Tx.noat_Shelf_told_signs : NoAttr K (He.ga K "Shelf") "told_signs" := He.noat_ok (T.says.d.fact 39 (f := .noat "Shelf" "told_signs") rfl)
theorem Tx.noat_Shelf_told_ends : NoAttr K (He.ga K "Shelf") "told_ends" := He.noat_ok (T.says.d.fact 40 (f := .noat "Shelf" "told_ends") rfl)
theorem Tx.noat_Shelf_told_leaves : NoAttr K (He.ga K "Shelf") "told_leaves" := He.noat_ok (T.says.d.fact 41 (f := .noat "Shelf" "told_leaves") rfl)
theorem Tx.noat_Shelf_told_heights : NoAttr K (He.ga K "Shelf") "told_heights" := He.noat_ok (T.says.d.fact 42 (f := .noat "Shelf" "told_heights") rfl)
theorem Tx.noat_Shelf_firsts : NoAttr K (He.ga K "Shelf") "firsts" := He.noat_ok (T.says.d.fact 43 (f := .noat "Shelf" "firsts") rfl)
theorem Tx.noat_Shelf_lasts : NoAttr K (He.ga K "Shelf") "lasts" := He.noat_ok (T.says.d.fact 44 (f := .noat "Shelf" "lasts") rfl)
theorem Tx.glo_SkeinError : mg "SkeinError" = some (.ref (He.ga K "SkeinError")) := let ⟨_, X, G⟩ := T.ns; He.glo_ok X G (T.says.d.fact 45 (f := .glo "SkeinError") rfl)
theorem Tx.exc_SkeinError : PySem.W.excIn K (He.ga K "SkeinError") He.veBase "ValueError.__new__" = true ∧ PySem.W.keepIn K (.ref (He.ga K "SkeinError")) = true ∧ PySem.W.subIn K (.ref (He.ga K "SkeinError")) (.type "BaseException") = some true ∧ PySem.W.typeIn K (.ref (He.ga K "SkeinError")) = some (.type "type") := He.exc_ok (T.says.d.fact 46 (f := .exc "SkeinError") rfl)
theorem Tx.glo_NoText : mg "NoText" = some (.ref (He.ga K "NoText")) := let ⟨_, X, G⟩ := T.ns; He.glo_ok X G (T.says.d.fact 47 (f := .glo "NoText") rfl)
theorem Tx.exc_NoText : PySem.W.excIn K (He.ga K "NoText") He.veBase "ValueError.__new__" = true ∧ PySem.W.keepIn K (.ref (He.ga K "NoText")) = true ∧ PySem.W.subIn K (.ref (He.ga K "NoText")) (.type "BaseException") = some true ∧ PySem.W.typeIn K (.ref (He.ga K "NoText")) = some (.type "type") := He.exc_ok (T.says.d.fact 48 (f := .exc "NoText") rfl)
theorem Tx.glo_NoPiece : mg "NoPiece" = some (.ref (He.ga K "NoPiece")) := let ⟨_, X, G⟩ := T.ns; He.glo_ok X G (T.says.d.fact 49 (f := .glo "NoPiece") rfl)
theorem Tx.exc_NoPiece : PySem.W.excIn K (He.ga K "NoPiece") He.veBase "ValueError.__new__" = true ∧ PySem.W.keepIn K (.ref (He.ga K "NoPiece")) = true ∧ PySem.W.subIn K (.ref (He.ga K "NoPiece")) (.type "BaseException") = some true ∧ PySem.W.typeIn K (.ref (He.ga K "NoPiece")) = some (.type "type") := He.exc_ok (T.says.d.fact 50 (f := .exc "NoPiece") rfl)
theorem Tx.glo_Loose : mg "Loose" = some (.ref (He.ga K "Loose")) := let ⟨_, X, G⟩ := T.ns; He.glo_ok X G (T.says.d.fact 51 (f := .glo "Loose") rfl)
theorem Tx.exc_Loose : PySem.W.excIn K (He.ga K "Loose") He.veBase "ValueError.__new__" = true ∧ PySem.W.keepIn K (.ref (He.ga K "Loose")) = true ∧ PySem.W.subIn K (.ref (He.ga K "Loose")) (.type "BaseException") = some true ∧ PySem.W.typeIn K (.ref (He.ga K "Loose")) = some (.type "type") := He.exc_ok (T.says.d.fact 52 (f := .exc "Loose") rfl)
theorem Tx.glo_Unlevel : mg "Unlevel" = some (.ref (He.ga K "Unlevel")) := let ⟨_, X, G⟩ := T.ns; He.glo_ok X G (T.says.d.fact 53 (f := .glo "Unlevel") rfl)
theorem Tx.exc_Unlevel : PySem.W.excIn K (He.ga K "Unlevel") He.veBase "ValueError.__new__" = true ∧ PySem.W.keepIn K (.ref (He.ga K "Unlevel")) = true ∧ PySem.W.subIn K (.ref (He.ga K "Unlevel")) (.type "BaseException") = some true ∧ PySem.W.typeIn K (.ref (He.ga K "Unlevel")) = some (.type "type") := He.exc_ok (T.says.d.fact 54 (f := .exc "Unlevel") rfl)
theorem Tx.glo_TooLong : mg "TooLong" = some (.ref (He.ga K "TooLong")) := let ⟨_, X, G⟩ := T.ns; He.glo_ok X G (T.says.d.fact 55 (f := .glo "TooLong") rfl)
theorem Tx.exc_TooLong : PySem.W.excIn K (He.ga K "TooLong") He.veBase "ValueError.__new__" = true ∧ PySem.W.keepIn K (.ref (He.ga K "TooLong")) = true ∧ PySem.W.subIn K (.ref (He.ga K "TooLong")) (.type "BaseException") = some true ∧ PySem.W.typeIn K (.ref (He.ga K "TooLong")) = some (.type "type") := He.exc_ok (T.says.d.fact 56 (f := .exc "TooLong") rfl)
theorem Tx.fn_is_plain : ∃ fd, FunD K "is_plain" "is_plain" (defArgs s_is_plain) (defBody s_is_plain) (defScope s_is_plain) [] [] (He.fAd K ("is_plain", none)) fd := T.says.d.def_ 0 (d := dd_is_plain) rfl
theorem Tx.fn_ends_in : ∃ fd, FunD K "ends_in" "ends_in" (defArgs s_ends_in) (defBody s_ends_in) (defScope s_ends_in) [] [] (He.fAd K ("ends_in", none)) fd := T.says.d.def_ 1 (d := dd_ends_in) rfl
theorem Tx.fn_Shelf_init : ∃ fd, FunD K "__init__" "Shelf.__init__" (defArgs s_Shelf_init) (defBody s_Shelf_init) (defScope s_Shelf_init) [] [] (He.fAd K ("Shelf", some "__init__")) fd := T.says.d.def_ 2 (d := dd_Shelf_init) rfl
theorem Tx.fn_Shelf_want_piece : ∃ fd, FunD K "want_piece" "Shelf.want_piece" (defArgs s_Shelf_want_piece) (defBody s_Shelf_want_piece) (defScope s_Shelf_want_piece) [] [] (He.fAd K ("Shelf", some "want_piece")) fd := T.says.d.def_ 3 (d := dd_Shelf_want_piece) rfl
theorem Tx.fn_Shelf_many : ∃ fd, FunD K "many" "Shelf.many" (defArgs s_Shelf_many) (defBody s_Shelf_many) (defScope s_Shelf_many) [] [] (He.fAd K ("Shelf", some "many")) fd := T.says.d.def_ 4 (d := dd_Shelf_many) rfl
theorem Tx.fn_Shelf_piece : ∃ fd, FunD K "piece" "Shelf.piece" (defArgs s_Shelf_piece) (defBody s_Shelf_piece) (defScope s_Shelf_piece) [] [] (He.fAd K ("Shelf", some "piece")) fd := T.says.d.def_ 5 (d := dd_Shelf_piece) rfl
theorem Tx.fn_Shelf_laid : ∃ fd, FunD K "laid" "Shelf.laid" (defArgs s_Shelf_laid) (defBody s_Shelf_laid) (defScope s_Shelf_laid) [] [] (He.fAd K ("Shelf", some "laid")) fd := T.says.d.def_ 6 (d := dd_Shelf_laid) rfl
theorem Tx.fn_Shelf_leaf : ∃ fd, FunD K "leaf" "Shelf.leaf" (defArgs s_Shelf_leaf) (defBody s_Shelf_leaf) (defScope s_Shelf_leaf) [] [] (He.fAd K ("Shelf", some "leaf")) fd := T.says.d.def_ 7 (d := dd_Shelf_leaf) rfl
theorem Tx.fn_Shelf_fork : ∃ fd, FunD K "fork" "Shelf.fork" (defArgs s_Shelf_fork) (defBody s_Shelf_fork) (defScope s_Shelf_fork) [] [] (He.fAd K ("Shelf", some "fork")) fd := T.says.d.def_ 8 (d := dd_Shelf_fork) rfl
theorem Tx.fn_Shelf_is_loose : ∃ fd, FunD K "is_loose" "Shelf.is_loose" (defArgs s_Shelf_is_loose) (defBody s_Shelf_is_loose) (defScope s_Shelf_is_loose) [] [] (He.fAd K ("Shelf", some "is_loose")) fd := T.says.d.def_ 9 (d := dd_Shelf_is_loose) rfl
theorem Tx.fn_written : ∃ fd, FunD K "written" "written" (defArgs s_written) (defBody s_written) (defScope s_written) [] [] (He.fAd K ("written", none)) fd := T.says.d.def_ 10 (d := dd_written) rfl
theorem Tx.fn_piece_row : ∃ fd, FunD K "piece_row" "piece_row" (defArgs s_piece_row) (defBody s_piece_row) (defScope s_piece_row) [] [] (He.fAd K ("piece_row", none)) fd := T.says.d.def_ 11 (d := dd_piece_row) rfl
theorem Tx.fn_shelf_text : ∃ fd, FunD K "shelf_text" "shelf_text" (defArgs s_shelf_text) (defBody s_shelf_text) (defScope s_shelf_text) [] [] (He.fAd K ("shelf_text", none)) fd := T.says.d.def_ 12 (d := dd_shelf_text) rfl
theorem Tx.fn_law_mixed : ∃ fd, FunD K "_law_mixed" "_law_mixed" (defArgs s_law_mixed) (defBody s_law_mixed) (defScope s_law_mixed) [] [] (He.fAd K ("_law_mixed", none)) fd := T.says.d.def_ 13 (d := dd_law_mixed) rfl
theorem Tx.fn_law_stream : ∃ fd, FunD K "_law_stream" "_law_stream" (defArgs s_law_stream) (defBody s_law_stream) (defScope s_law_stream) [] [] (He.fAd K ("_law_stream", none)) fd := T.says.d.def_ 14 (d := dd_law_stream) rfl
theorem Tx.fn_law_digit : ∃ fd, FunD K "_law_digit" "_law_digit" (defArgs s_law_digit) (defBody s_law_digit) (defScope s_law_digit) [] [] (He.fAd K ("_law_digit", none)) fd := T.says.d.def_ 15 (d := dd_law_digit) rfl
theorem Tx.fn_law_letters : ∃ fd, FunD K "_law_letters" "_law_letters" (defArgs s_law_letters) (defBody s_law_letters) (defScope s_law_letters) [] [] (He.fAd K ("_law_letters", none)) fd := T.says.d.def_ 16 (d := dd_law_letters) rfl
theorem Tx.fn_law_tree : ∃ fd, FunD K "_law_tree" "_law_tree" (defArgs s_law_tree) (defBody s_law_tree) (defScope s_law_tree) [] [] (He.fAd K ("_law_tree", none)) fd := T.says.d.def_ 17 (d := dd_law_tree) rfl
theorem Tx.fn_law_text : ∃ fd, FunD K "_law_text" "_law_text" (defArgs s_law_text) (defBody s_law_text) (defScope s_law_text) [] [] (He.fAd K ("_law_text", none)) fd := T.says.d.def_ 18 (d := dd_law_text) rfl
theorem Tx.fn_law_long : ∃ fd, FunD K "_law_long" "_law_long" (defArgs s_law_long) (defBody s_law_long) (defScope s_law_long) [] [] (He.fAd K ("_law_long", none)) fd := T.says.d.def_ 19 (d := dd_law_long) rfl
theorem Tx.fn_law_drawn_shelf : ∃ fd, FunD K "_law_drawn_shelf" "_law_drawn_shelf" (defArgs s_law_drawn_shelf) (defBody s_law_drawn_shelf) (defScope s_law_drawn_shelf) [] [] (He.fAd K ("_law_drawn_shelf", none)) fd := T.says.d.def_ 20 (d := dd_law_drawn_shelf) rfl
theorem Tx.fn_law_written : ∃ fd, FunD K "_law_written" "_law_written" (defArgs s_law_written) (defBody s_law_written) (defScope s_law_written) [] [] (He.fAd K ("_law_written", none)) fd := T.says.d.def_ 21 (d := dd_law_written) rfl
theorem Tx.fn_law_shelf_text : ∃ fd, FunD K "_law_shelf_text" "_law_shelf_text" (defArgs s_law_shelf_text) (defBody s_law_shelf_text) (defScope s_law_shelf_text) [] [] (He.fAd K ("_law_shelf_text", none)) fd := T.says.d.def_ 22 (d := dd_law_shelf_text) rfl
theorem Tx.fn_law : ∃ fd, FunD K "law" "law" (defArgs s_law) (defBody s_law) (defScope s_law) [] [] (He.fAd K ("law", none)) fd := T.says.d.def_ 23 (d := dd_law) rfl
end
theorem sc_is_plain : FnScope ["thing", "sign"] ["thing"] (defScope s_is_plain) := ⟨rfl, rfl, rfl, by decide +kernel, rfl, by decide +kernel, by decide +kernel⟩
theorem sc_ends_in : FnScope ["plain"] ["plain"] (defScope s_ends_in) := ⟨rfl, rfl, rfl, by decide +kernel, rfl, by decide +kernel, by decide +kernel⟩
theorem sc_Shelf_init : FnScope ["self"] ["self"] (defScope s_Shelf_init) := ⟨rfl, rfl, rfl, by decide +kernel, rfl, by decide +kernel, by decide +kernel⟩
theorem sc_Shelf_want_piece : FnScope ["self", "number"] ["self", "number"] (defScope s_Shelf_want_piece) := ⟨rfl, rfl, rfl, by decide +kernel, rfl, by decide +kernel, by decide +kernel⟩
theorem sc_Shelf_many : FnScope ["self"] ["self"] (defScope s_Shelf_many) := ⟨rfl, rfl, rfl, by decide +kernel, rfl, by decide +kernel, by decide +kernel⟩
theorem sc_Shelf_piece : FnScope ["self", "number"] ["self", "number"] (defScope s_Shelf_piece) := ⟨rfl, rfl, rfl, by decide +kernel, rfl, by decide +kernel, by decide +kernel⟩
theorem sc_Shelf_laid : FnScope ["self", "piece", "signs", "ends", "leaves", "height", "number"] ["self", "piece", "signs", "ends", "leaves", "height"] (defScope s_Shelf_laid) := ⟨rfl, rfl, rfl, by decide +kernel, rfl, by decide +kernel, by decide +kernel⟩
theorem sc_Shelf_leaf : FnScope ["self", "plain", "piece", "number"] ["self", "plain"] (defScope s_Shelf_leaf) := ⟨rfl, rfl, rfl, by decide +kernel, rfl, by decide +kernel, by decide +kernel⟩
theorem sc_Shelf_fork : FnScope ["self", "one", "other", "heights", "signs", "piece", "ends", "leaves", "number"] ["self", "one", "other"] (defScope s_Shelf_fork) := ⟨rfl, rfl, rfl, by decide +kernel, rfl, by decide +kernel, by decide +kernel⟩
theorem sc_Shelf_is_loose : FnScope ["self", "one", "other"] ["self", "one", "other"] (defScope s_Shelf_is_loose) := ⟨rfl, rfl, rfl, by decide +kernel, rfl, by decide +kernel, by decide +kernel⟩
theorem sc_written : FnScope ["plain"] ["plain"] (defScope s_written) := ⟨rfl, rfl, rfl, by decide +kernel, rfl, by decide +kernel, by decide +kernel⟩
theorem sc_piece_row : FnScope ["piece", "word", "one", "other"] ["piece"] (defScope s_piece_row) := ⟨rfl, rfl, rfl, by decide +kernel, rfl, by decide +kernel, by decide +kernel⟩
theorem sc_shelf_text : FnScope ["shelf", "number"] ["shelf"] (defScope s_shelf_text) := ⟨rfl, rfl, rfl, by decide +kernel, rfl, by decide +kernel, by decide +kernel⟩
theorem sc_law_mixed : FnScope ["cell", "k", "stir"] ["cell", "k"] (defScope s_law_mixed) := ⟨rfl, rfl, rfl, by decide +kernel, rfl, by decide +kernel, by decide +kernel⟩
theorem sc_law_stream : FnScope ["script", "k", "cell", "j", "found", "one"] ["script", "k"] (defScope s_law_stream) := ⟨rfl, rfl, rfl, by decide +kernel, rfl, by decide +kernel, by decide +kernel⟩
theorem sc_law_digit : FnScope ["row", "many", "digit"] ["row", "many"] (defScope s_law_digit) := ⟨rfl, rfl, rfl, by decide +kernel, rfl, by decide +kernel, by decide +kernel⟩
theorem sc_law_letters : FnScope ["row", "every", "some"] ["row"] (defScope s_law_letters) := ⟨rfl, rfl, rfl, by decide +kernel, rfl, by decide +kernel, by decide +kernel⟩
theorem sc_law_tree : FnScope ["shelf", "row", "letters", "height", "last", "least", "many", "plain", "lower", "turn", "one", "other", "k"] ["shelf", "row", "letters", "height", "last"] (defScope s_law_tree) := ⟨rfl, rfl, rfl, by decide +kernel, rfl, by decide +kernel, by decide +kernel⟩
theorem sc_law_text : FnScope ["shelf", "row", "most", "letters", "found"] ["shelf", "row", "most"] (defScope s_law_text) := ⟨rfl, rfl, rfl, by decide +kernel, rfl, by decide +kernel, by decide +kernel⟩
theorem sc_law_long : FnScope ["shelf", "row", "letters", "number", "plain", "last", "many", "turn"] ["shelf", "row"] (defScope s_law_long) := ⟨rfl, rfl, rfl, by decide +kernel, rfl, by decide +kernel, by decide +kernel⟩
theorem sc_law_drawn_shelf : FnScope ["script", "shelf", "row", "k"] ["script"] (defScope s_law_drawn_shelf) := ⟨rfl, rfl, rfl, by decide +kernel, rfl, by decide +kernel, by decide +kernel⟩
theorem sc_law_written : FnScope ["plain", "found", "sign"] ["plain"] (defScope s_law_written) := ⟨rfl, rfl, rfl, by decide +kernel, rfl, by decide +kernel, by decide +kernel⟩
theorem sc_law_shelf_text : FnScope ["shelf", "rows", "number", "piece"] ["shelf"] (defScope s_law_shelf_text) := ⟨rfl, rfl, rfl, by decide +kernel, rfl, by decide +kernel, by decide +kernel⟩
theorem sc_law : FnScope ["script", "shelf", "many", "turn", "found", "row", "plain"] ["script"] (defScope s_law) := ⟨rfl, rfl, rfl, by decide +kernel, rfl, by decide +kernel, by decide +kernel⟩
end Sk
namespace Sk
open PySem PySem.Spec PyProof.Rows L2
abbrev R : PySem.W.OpenRow := PySem.W.OpenLaw.row PySem.Challenge.rw_skeinwood_k86_shelves_written
abbrev hk : PySem.W.Hook := hookX 5 fa fn exs
def ob (s : PySem.W.SharedT) : Bool × He.AlD := obsXG 5 fa fn exs (HandSHeadRun.getT s)
theorem ob_eq (s : PySem.W.SharedT) : ob s = hk.obs s.abs := obsXG_eq (HandSHeadRun.getT_eq s)
def lo0 : List PySem.Str := ["_wall", "SkeinError", "NoText", "NoPiece", "Loose", "Unlevel", "TooLong", "is_plain", "ends_in", "MOST_IN_LEAF", "MOST_SIGNS", "Shelf", "written", "piece_row", "shelf_text", "_law_mixed", "_law_stream", "_law_digit", "_law_letters", "_law_tree", "_law_text", "_law_long", "_law_drawn_shelf", "_law_written"]
def lo1 : List PySem.Str := ["_law_shelf_text"]
def los : List PySem.Str := lo0 ++ (lo1)
def steps : Nat := 6000
theorem run (w : World) : HandSHeadRun.RunEq R (PySem.W.view R.prog [30]) hk ob steps los w := by
  intro os
  kernel_rfl
end Sk
local macro_rules | `(tactic| walk_at "ob") => `(tactic| first
  | exact True.intro
  | with_reducible assumption
  | with_reducible exact List.cons_ne_nil _ _
  | omega
  | exact ⟨by omega, by omega⟩
  | exact ⟨by omega, by omega, by omega⟩
  | decide
  | with_reducible exact ⟨by assumption, by assumption⟩
  | with_reducible exact ⟨rfl, by decide⟩
  | exact ⟨by decide, by decide⟩
  | exact Sk.mul_r (by first | omega | decide) (by first | omega | decide)
  | exact Sk.mul_l (by first | omega | decide) (by first | omega | decide)
  | exact Sk.mul_w 256 256 (by decide +kernel) (by decide +kernel)
  | exact Sk.div_ok (by first | omega | decide) (by first | omega | decide)
  | exact ⟨by decide, by decide, by decide⟩
  | exact ⟨⟨by omega, by omega⟩, ⟨by omega, by omega⟩⟩
  | exact Sk.okD_of (by walk_at "ok")
  | exact ⟨Sk.okD_of (by walk_at "ok"), Sk.okD_of (by walk_at "ok")⟩
  | (constructor <;> omega)
  | (walk_at "an"; done))
local macro_rules | `(tactic| walk_at "ok") => `(tactic| repeat first
  | with_reducible assumption
  | exact Sk.okK_i
  | exact Sk.okK_b
  | exact Sk.okK_n
  | exact Sk.okK_l0
  | exact Sk.okK_t0
  | refine Sk.okK_lc ?_ ?_
  | refine Sk.okK_tc ?_ ?_
  | refine Sk.okK_s ?_
  | (unfold Sk.Uni; decide))
local macro_rules | `(tactic| walk_at "sg1") => `(tactic| first
  | simp -dsimp -implicitDefEqProofs (disch := first | with_reducible assumption | decide | grind) only [↓Sk.u_aSeq, ↓Sk.u_aAsg, ↓Sk.u_agName, ↓Sk.u_aVar, ↓Sk.u_aC, ↓Sk.u_aOp, ↓Sk.u_aUn, ↓Sk.u_aCB, ↓Sk.u_aM, ↓Sk.u_aNil, ↓Sk.u_aCons, ↓Sk.u_aTest, ↓Sk.u_aTruth, ↓Sk.u_aAnd, ↓Sk.u_aOr, ↓Sk.u_aNot, ↓Sk.u_aAndV, ↓Sk.u_aOrV, ↓Sk.u_aNotV, ↓Sk.u_aIf, ↓Sk.u_aChain, ↓Sk.u_aLst, ↓Sk.u_aLstO, ↓Sk.u_aTup, ↓Sk.u_aDnewK, ↓Sk.u_aDnewT, ↓Sk.u_aNext, ↓Sk.u_aDrop, ↓Sk.u_aRet, ↓Sk.u_aRetN, ↓Sk.u_aIfS, ↓Sk.u_aBreak, ↓Sk.u_aCont, ↓Sk.u_agNil, ↓Sk.u_agCons, ↓Sk.u_agTup, ↓Sk.u_agLst, ↓Sk.u_agSub, ↓Sk.u_aPar, ↓Sk.u_aFor, ↓Sk.u_aWhile, ↓Sk.u_aiAny, ↓Sk.u_aiEnum, ↓Sk.u_aiRev, ↓Sk.u_aiZip, ↓Sk.u_aiRng1, ↓Sk.u_aiRng2, ↓Sk.u_aiRng3, ↓Sk.u_aLc, ↓Sk.u_aYes, ↓Sk.u_aNoPart, ↓Sk.u_aPart, ↓Sk.u_aSl, ↓Sk.u_aCall, ↓Sk.u_aMeth, ↓Sk.u_aMake, ↓Sk.u_aFld, ↓Sk.u_aSFld, ↓Sk.u_aRaise, ↓Sk.u_aTryOnly, ↓Sk.u_aTryAs, ↓Sk.u_aBM, ↓Sk.u_aSM, ↓Sk.u_bOp, ↓Sk.u_bOpH, ↓Sk.u_bOpS, ↓Sk.u_bL, ↓Sk.u_bLen, ↓Sk.u_bListO, ↓Sk.u_bDict, ↓Sk.u_bSortI, ↓Sk.u_negD, ↓Sk.u_mAppend, ↓Sk.u_mExtend, ↓Sk.u_mPop, ↓Sk.u_mPopAt, ↓Sk.u_mReverse, ↓Sk.u_mClear, ↓Sk.u_mInsert, ↓Sk.u_mIndex, ↓Sk.u_sJoin, ↓Sk.u_notA, ↓Sk.u_absX, ↓Sk.u_intX, ↓Sk.u_strX, ↓Sk.u_sumX, ↓Sk.u_allX, ↓Sk.u_anyX, ↓Sk.u_listX, ↓Sk.u_isiX, ↓Sk.u_noX, ↓Sk.u_enx, ↓Sk.u_ert, ↓Sk.u_eex, ↓Sk.u_snx, ↓Sk.u_srt, ↓Sk.u_sex, ↓Sk.u_aIsX, ↓Sk.u_bAddO, ↓Sk.u_aChain3, ↓Sk.u_aiEnm, ↓Sk.u_aRevL, ↓Sk.u_mCount, ↓Sk.u_aSM0, ↓Sk.u_sUpper, ↓Sk.u_aDisp, ↓Sk.u_aPairs0, ↓Sk.u_aPairs1, ↓Sk.u_bOpV, ↓Sk.u_aLRg1, ↓Sk.u_aDGet2, ↓Sk.u_aRevA, Sk.rvA_l, Sk.rvA_s, Sk.rvA_t, Sk.u_listSX, Sk.seqSV_l, Sk.seqSV_t, Sk.seqSV_s, Sk.refD1_r, Sk.isDO_k, Sk.getA_i, Sk.gOI_k, Sk.optD_s, Sk.optD_n, Sk.kvD_0, Sk.kvD_i, Sk.kvD_s, Sk.mergeA_0, Sk.mergeA_1, Sk.viewV_t, Sk.viewV_l, Sk.viewV_i, Sk.viewV_s, Sk.viewV_r, Sk.vVO_l, Sk.eqVD_e, Sk.tyA_r, Sk.tyO_l, Sk.tyO_k, Sk.two2_c, Sk.two2O_s, Sk.sSplit_1, Sk.cntD_0, Sk.cntD_c, Sk.fid_t, Sk.fid_f, Bool.toNat_true, Bool.toNat_false, Sk.lst2_l, Sk.wipe_0, Sk.wipe_1, Sk.getS_0, Sk.getS_s, Sk.setS_0, Sk.setS_s, Sk.forS_0, Sk.forS_s, Sk.view_i, Sk.view_s, Sk.view_b, Sk.view_n, Sk.view_l, Sk.view_t, Sk.view_c, Sk.view_y, Sk.view_r, Sk.viewO_l, Sk.viewO_k, Sk.viewO_t, Sk.viewO_i, Sk.viewO_h, Sk.viewH_i, Sk.viewH_s, Sk.viewH_l, Sk.viewH_b, Sk.viewH_r, Sk.addD_i, Sk.addD_s, Sk.addD_l, Sk.addD_t, Sk.subD_i, Sk.mulD_i, Sk.mulD_s, Sk.mulD_l, Sk.divD_i, Sk.modD_i, Sk.powD_i, Sk.ltD_i, Sk.ltD_s, Sk.leD_i, Sk.leD_s, Sk.gtD_i, Sk.geD_i, Sk.eqD_i, Sk.eqD_s, Sk.eqD_b, Sk.eqD_n, Sk.eqD_in, Sk.eqD_si, Sk.eqD_is, Sk.eqD_sn, Sk.eqD_ll, Sk.eqD_tt, Sk.notF_eq, Sk.neg_b, Sk.isD_n, Sk.isD_b, Sk.nn_n, Sk.nn_i, Sk.nn_s, Sk.nn_b, Sk.nn_l, Sk.nn_t, Sk.ixA_l, Sk.ixA_c, Sk.ixA_t, Sk.ixA_s, Sk.ixA_ri, Sk.ixA_rs, Sk.ixA_rt, Sk.inA_ri, Sk.inA_rs, Sk.inA_rt, Sk.ixOI_l, Sk.ixOI_k, Sk.ixOS_k, Sk.ixOT_t, Sk.inOI_l, Sk.inOI_k, Sk.inOS_l, Sk.inOS_k, Sk.inOT_t, Sk.keysD_0, Sk.keysD_i, Sk.keysD_s, Sk.keyD_i, Sk.keyD_s, Sk.atI_0, Sk.atI_1, Sk.atI_2, Sk.lt_one, Sk.slD_s, Sk.slD_l, Sk.slD_t, Sk.intD_i, Sk.blD_b, Sk.asB_b, Sk.asB_s, Sk.truA_b, Sk.truA_i, Sk.truA_s, Sk.truA_l, Sk.truA_n, Sk.tupD_t, Sk.lstD_l, Sk.lstV_l, Sk.unc_c, Sk.two_c, Sk.one_c, Sk.int1_c, Sk.int2_c, Sk.int2_1, Sk.rgOf3_c, Sk.iterD_l, Sk.iterD_c, Sk.iterD_t, Sk.iterD_s, Sk.iterD_r, Sk.iterL_l, Sk.iterL_c, Sk.iterL_r, Sk.iterE_s, Sk.iterE_l, Sk.iterE_c, Sk.iterE_r, Sk.rvD_l, Sk.rvD_s, Sk.iterO_l, Sk.vw1_c, Sk.lst1_c, Sk.lenX_l, Sk.lenX_c, Sk.lenX_t, Sk.lenX_s, Sk.lenX_r, Sk.lenXO_l, Sk.lenXO_k, Sk.lenXO_t, Sk.ownL_r, Sk.ownO_l, Sk.nil0_c, Sk.strD_s, Sk.intC_i, Sk.intC_b, Sk.seqV_l, Sk.seqV_t, Sk.tyN_c, Sk.tyA_i, Sk.tyA_s, Sk.tyA_b, Sk.tyA_n, Sk.tyA_l, Sk.tyA_t, Sk.isLs_l, Sk.isLs_o, Sk.isLsO_l, Sk.Recv_r, Sk.RecvO_s, Sk.strm_c, Sk.aup_same, Sk.aup_ne, Sk.aup_aup, Sk.aup3, Sk.aup3', Sk.aup3'', Sk.setIt_r, Sk.setO_l, Sk.setO_k, Sk.setO_t, Sk.shO_s, Sk.ixN_0, Sk.dc_True, Sk.dc_False, Sk.isED_r, Sk.isED_y, Sk.isED_t, Sk.clsVs_0, Sk.clsVs_r, Sk.clsVs_y, Sk.kitAny_0, Sk.kitAny_f, Sk.kitAny_t, and_self, false_and, and_false, not_true_eq_false, Sk.deq_ll, Sk.deq_l0, Sk.deq_l1, Sk.deq_l2, Sk.deq_tt, Sk.deq_t0, Sk.deq_t1, Sk.deq_t2, Sk.deq_lt, Sk.deq_tl, Sk.deq_ii, Sk.deq_bb, Sk.deq_nn, Sk.deq_ss, Sk.deq_is, Sk.deq_si, Sk.deq_it, Sk.deq_ti, Sk.deq_st, Sk.deq_ts, Sk.deq_sl, Sk.deq_ls, Sk.deq_il, Sk.deq_li, Sk.deq_ns, Sk.deq_sn, Sk.deq_nl, Sk.deq_ln, Sk.deq_nt, Sk.deq_tn, Sk.deq_bs, Sk.deq_sb, Sk.deq_ints, Sk.deq_strs, Sk.leafL_t, Sk.leafL_f, Sk.forkL_t, Sk.forkL_f, Sk.opt_some, Sk.Rq_true, Sk.Br_true, Sk.Br_false, Option.map_some, Option.bind_some, Option.isSome_some, Option.isSome_none, List.length_cons, List.length_nil, List.cons_append, List.nil_append, List.map_cons, List.map_nil, List.length_map, List.set_cons_zero, List.cons.injEq, Sk.blsD_map, Sk.keyL_leaf, Sk.insA_r, Sk.insO_i, Sk.putFA_0, Sk.putFA_ne, Sk.fldA_r, Sk.keyL_fork, Sk.maxX_2, Sk.minX_2, Sk.maxX_1, Sk.minX_1, Sk.intsD_0, Sk.intsD_c, Sk.maxL_2, Sk.minL_2, Sk.sCount_1, Sk.blsD_mapF, Sk.intsD_map, Sk.intsD_mapF, List.set_cons_succ, and_true, true_and, ne_eq, not_false_eq_true, Nat.zero_add, decide_true, decide_false, Bool.not_true, Bool.not_false, Bool.and_true, Bool.true_and, Bool.and_false, Bool.false_and, Bool.or_true, false_or, or_false, Bool.true_or, Bool.or_false, Bool.false_or, eq_self, true_or, or_true, Int.toNat_natCast, Int.reducePow, Int.reduceToNat, Int.reduceMul, Int.reduceAdd, Int.reduceSub, Int.reduceNeg, Int.reduceEq, Int.reduceLT, Int.reduceLE, Int.reduceDiv, Int.reduceMod, Nat.reduceAdd, Nat.reduceMul, *]
  | with_reducible exact trivial
  | ((refine' Sk.rq_in ?p ?_); (case p => walk_at "ob"))
  | (refine Sk.isx_in (by assumption) ?_)
  | (refine Sk.new_in ?_; intro p hp; try simp only [Sk.aup_none] at hp)
  | ((fail_if_success (fail_if_success with_reducible refine fun (_ : PySem.Addr) => ?_)); intro _))
local macro_rules | `(tactic| walk_at "sg2") => `(tactic| (with_reducible refine Sk.CvR.of ?_); assumption)
local macro_rules | `(tactic| walk_at "go") => `(tactic| repeat (first | walk_at "sg1" | walk_at "sg2"))
local macro_rules | `(tactic| walk_at "eq") => `(tactic| first | with_reducible rfl | (funext b; simp only [Sk.aup]; grind))
local macro_rules | `(tactic| walk_at "an") => `(tactic| (repeat' (first | exact True.intro | with_reducible assumption | with_reducible rfl | refine And.intro ?_ ?_)) <;> (first | omega | decide | (simp; done) | (simp; omega)))
namespace Sk
open PySem PySem.Spec PyProof.Rows L2
theorem lkD {ad : SA} {f : Str} {d : D} (h : (fldsD ad).lookup f = some d) {C : Addr} : fldO f (some (.ins C ad.dx (fldsD ad))) = some (C, d) := by show ((fldsD ad).lookup f).map _ = _; rw [h]; rfl
theorem fl_pieces {C : Addr} {ad : SA} : fldO "pieces" (some (.ins C ad.dx (fldsD ad))) = some (C, .ref ad.pc) := lkD (lkD_pieces ad)
theorem fl_numbers {C : Addr} {ad : SA} : fldO "numbers" (some (.ins C ad.dx (fldsD ad))) = some (C, .ref ad.nm) := lkD (lkD_numbers ad)
theorem fl_signs {C : Addr} {ad : SA} : fldO "told_signs" (some (.ins C ad.dx (fldsD ad))) = some (C, .ref ad.sg) := lkD (lkD_signs ad)
theorem fl_ends {C : Addr} {ad : SA} : fldO "told_ends" (some (.ins C ad.dx (fldsD ad))) = some (C, .ref ad.en) := lkD (lkD_ends ad)
theorem fl_leaves {C : Addr} {ad : SA} : fldO "told_leaves" (some (.ins C ad.dx (fldsD ad))) = some (C, .ref ad.lv) := lkD (lkD_leaves ad)
theorem fl_heights {C : Addr} {ad : SA} : fldO "told_heights" (some (.ins C ad.dx (fldsD ad))) = some (C, .ref ad.ht) := lkD (lkD_heights ad)
theorem fl_firsts {C : Addr} {ad : SA} : fldO "firsts" (some (.ins C ad.dx (fldsD ad))) = some (C, .ref ad.fi) := lkD (lkD_firsts ad)
theorem fl_lasts {C : Addr} {ad : SA} : fldO "lasts" (some (.ins C ad.dx (fldsD ad))) = some (C, .ref ad.la) := lkD (lkD_lasts ad)
theorem recvO_i {K : PySem.W.Frag} {C : Addr} {ad : SA} : RecvO K C shNames (some (.ins C ad.dx (fldsD ad))) = True := eq_true ⟨rfl, rfl⟩
def p_want_o (K : PySem.W.Frag) : ASp
  | [.ref x, .int t], s, Q, E => ∃ ad ds, s x = some (.ins (shC K) ad.dx (fldsD ad)) ∧ s ad.pc = some (.lst ds) ∧ ((0 ≤ t ∧ t < ds.length) → Q .non s) ∧ (¬ (0 ≤ t ∧ t < ds.length) → E (xc K "NoPiece") none s)
  | _, _, _, _ => False
def p_wantp_o (K : PySem.W.Frag) : ASp
  | [.ref x, .int t], s, Q, E => ∃ ad ds, s x = some (.ins (shC K) ad.dx (fldsD ad)) ∧ s ad.pc = some (.lst ds) ∧ ((0 < t ∧ t < ds.length) → Q .non s) ∧ (¬ (0 < t ∧ t < ds.length) → E (xc K "NoPiece") none s)
  | _, _, _, _ => False
def p_is_plain : ASp
  | [.str z], s, Q, _ => Rq (z.length < 16777216) (Q (.bl (dc (Plain z))) s) ⟨⟩
  | [d], s, Q, _ => opt (tyA s d) (fun t => opt (kitN t "str") (fun b => Rq (b = false) (Q (.bl false) s) ⟨⟩) ⟨⟩) ⟨⟩
  | _, _, _, _ => False
theorem all_dc {z : List Nat} : (z.map fun c => dc (PlainC c)).all id = dc (Plain z) := by
  by_cases h : Plain z
  · rw [dc_t h, List.all_map, List.all_eq_true]
    intro c hc
    exact dc_t (h c hc)
  · rw [dc_f h, ← Bool.not_eq_true, List.all_map, List.all_eq_true]
    intro k
    refine h fun c hc => ?_
    have : dc (PlainC c) = true := k c hc
    by_cases e : PlainC c
    · exact e
    · rw [dc_f e] at this; cases this
end Sk
local macro_rules | `(tactic| walk_at "go1") => `(tactic| repeat (first | walk_at "sg1" | simp -dsimp -implicitDefEqProofs only [Sk.Ask, Sk.fl_pieces, Sk.fl_numbers, Sk.fl_signs, Sk.fl_ends, Sk.fl_leaves, Sk.fl_heights, Sk.fl_firsts, Sk.fl_lasts, Sk.fldA_r, Sk.recvO_i] | walk_at "sg2"))
local macro_rules | `(tactic| walk_at "st1") => `(tactic| simp -dsimp -implicitDefEqProofs only [Sk.Ask])
namespace Sk
open PySem PySem.Spec PyProof.Rows L2
theorem ok_is_plain {P : Program} {w : World} {K : PySem.W.Frag} {mg : Str → Option Value} {base : Heap} (T : Tx K mg) : Cal P w K mg base (0 + 1) "is_plain" ["thing"] (spA K p_is_plain) := by
  have nd := sc_is_plain.nd
  refine calA T.fn_is_plain T.glo_is_plain sc_is_plain (fun _ _ _ _ _ _ us hl => match us, hl with | [_], _ => rfl) (tl := [none]) rfl (by intro ds s Q E h; unfold p_is_plain at h; split at h; rfl; rfl; exact h.elim) ⟨_, fun cdv A outer s H E hr => (as_cons (as_if (at_not (at_truth (ae_bi call_isi srl_isi T.free_isinstance bt_isinstance (aa_cons (av 0) (aa_cons (ae_bty (by rfl) T.free_str bt_str) aa_nil))) (by intro _; rfl))) (as_one (as_ret ae_bl)) as_nil)
      (as_one (as_ret (ae_bi (cr_all rfl) srl_all T.free_all bt_all (aa_cons (ae_lc (own := [("sign", 1)]) rfl nd (ai_any (av 0)) (blkOk_by (own := [("sign", 1)]) (N := ["thing", "sign"]) (sc := defScope s_is_plain) (by decide +kernel)) (by decide) (fun _ _ _ _ _ => (ag_name (i := 1) nd rfl (Or.inl rfl))) (fun _ _ _ _ _ => ats_nil) (fun _ _ _ _ _ => (ae_or (ae_chain op_leAll sr_le op_leAll sr_le (ae_strL (z := [32]) (by first | rfl | kernel_rfl)) (av 1) (ae_strL (z := [126]) (by first | rfl | kernel_rfl))) (ae_one (ae_cmp (op_eqAll hr.units) sr_eq (av 1) (ae_strL (z := [10]) (by first | rfl | kernel_rfl)) (nomark _)))))) aa_nil))))), fun ds s Q E h => ?_⟩
  clear nd
  unfold p_is_plain at h
  split at h
  case h_3 => exact h.elim
  case h_1 =>
    rename_i z
    obtain ⟨hz, hq⟩ := h
    walk_at "go1"
    refine alc_map (l := z) (e := fun c => .str [c]) (v := fun c => .bl (dc (PlainC c))) hz trivial (fun c hc k hk => ?_) ?_
    · have key : ∀ b, (b = true ↔ PlainC c) → k (.bl b) s := fun b hb => by
        have : b = dc (PlainC c) := by
          by_cases h : PlainC c
          · rw [dc_t h]; exact hb.mpr h
          · rw [dc_f h]; cases b with
            | true => exact absurd (hb.mp rfl) h
            | false => rfl
        rw [this]; exact hk
      walk_at "go1"
      refine br_ndec (fun h1 => ?_) (fun h1 => ?_)
      · walk_at "go1"
        refine br_ndec (fun h2 => ?_) (fun h2 => ?_)
        · exact key _ (by unfold PlainC; simp; omega)
        · walk_at "go1"
          exact key _ (by unfold PlainC; simp; omega)
      · walk_at "go1"
        exact key _ (by unfold PlainC; simp; omega)
    · rw [← all_dc] at hq
      walk_at "go1"
  case h_2 =>
    rename_i d hd
    obtain ⟨t, e1, h⟩ := opt_of h
    obtain ⟨b, e2, rfl, hq⟩ := opt_of h
    walk_at "go1"
def p_ends_in : ASp
  | [.str z], s, Q, _ => Q (.int (z.count 10 : Nat)) s
  | _, _, _, _ => False
end Sk
local macro_rules | `(tactic| walk_at "go2") => `(tactic| repeat (first | walk_at "sg1" | simp -dsimp -implicitDefEqProofs only [Sk.Ask, Sk.fl_pieces, Sk.fl_numbers, Sk.fl_signs, Sk.fl_ends, Sk.fl_leaves, Sk.fl_heights, Sk.fl_firsts, Sk.fl_lasts, Sk.fldA_r, Sk.recvO_i, Sk.p_is_plain] | walk_at "sg2"))
local macro_rules | `(tactic| walk_at "st2") => `(tactic| simp -dsimp -implicitDefEqProofs only [Sk.Ask])
namespace Sk
open PySem PySem.Spec PyProof.Rows L2
theorem ok_ends_in {P : Program} {w : World} {K : PySem.W.Frag} {mg : Str → Option Value} {base : Heap} (T : Tx K mg) : Cal P w K mg base (0 + 1) "ends_in" ["plain"] (spA K p_ends_in) := by
  have nd := sc_ends_in.nd
  refine calA T.fn_ends_in T.glo_ends_in sc_ends_in (fun _ _ _ _ _ _ us hl => match us, hl with | [_], _ => rfl) (tl := []) rfl (by intro ds s Q E h; unfold p_ends_in at h; split at h; rfl; exact h.elim) ⟨_, fun cdv A outer s H E hr => (as_one (as_ret (ae_sm PySem.F.slot_str_count PySem.F.type_str_count mt_count srs_count (av 0) (ae_strL (z := [10]) (by first | rfl | kernel_rfl))))), fun ds s Q E h => ?_⟩
  clear nd
  unfold p_ends_in at h
  split at h
  case h_2 => exact h.elim
  walk_at "go2"
end Sk
local macro_rules | `(tactic| walk_at "go3") => `(tactic| repeat (first | walk_at "sg1" | simp -dsimp -implicitDefEqProofs only [Sk.Ask, Sk.fl_pieces, Sk.fl_numbers, Sk.fl_signs, Sk.fl_ends, Sk.fl_leaves, Sk.fl_heights, Sk.fl_firsts, Sk.fl_lasts, Sk.fldA_r, Sk.recvO_i, Sk.p_is_plain, Sk.p_ends_in] | walk_at "sg2"))
local macro_rules | `(tactic| walk_at "st3") => `(tactic| simp -dsimp -implicitDefEqProofs only [Sk.Ask])
namespace Sk
open PySem PySem.Spec PyProof.Rows L2
theorem ok_Shelf_want_piece_o {P : Program} {w : World} {K : PySem.W.Frag} {mg : Str → Option Value} {base : Heap} (T : Tx K mg) : CalM P w K mg base (0 + 1) "Shelf" "want_piece" ["self", "number"] (spA K (p_wantp_o K)) := by
  have nd := sc_Shelf_want_piece.nd
  refine calMA T.fn_Shelf_want_piece T.cls_Shelf T.meth_Shelf_want_piece sc_Shelf_want_piece (fun _ _ _ _ _ _ us hl => match us, hl with | [_, _], _ => rfl) (tl := []) rfl (by intro ds s Q E h; unfold p_wantp_o at h; split at h; rfl; exact h.elim) ⟨_, fun cdv A outer s H E hr => (as_one (as_if (at_not (at_chain op_ltAll sr_lt op_ltAll sr_lt ae_int (av 1) (ae_bi call_lenAll srl_len T.free_len PySem.boot_len (aa_cons (ae_fld T.cls_Shelf T.noat_Shelf_pieces (av 0) rfl) aa_nil)))) (as_one (as_raise rfl (takes_of rfl rfl rfl rfl) T.exc_NoPiece T.glo_NoPiece)) as_nil)), fun ds s Q E h => ?_⟩
  clear nd
  unfold p_wantp_o at h
  split at h
  case h_2 => exact h.elim
  rename_i x t
  obtain ⟨ad, ds, e1, e2, hq, he⟩ := h
  walk_at "go3"
  refine br_dec (fun h1 => ?_) (fun h1 => ?_)
  · walk_at "go3"
    refine br_ndec (fun h2 => ?_) (fun h2 => ?_)
    · exact ⟨s, Le.refl s, he (by omega)⟩
    · exact .of (hq ⟨h1, h2⟩)
  · walk_at "go3"
    exact ⟨s, Le.refl s, he (by omega)⟩
def p_laid_o (K : PySem.W.Frag) : ASp
  | [.ref x, .tup ks, .int a, .int b, .int c, .int e], s, Q, _ => ∃ ad ps kvs sg en lv ht k, s x = some (.ins (shC K) ad.dx (fldsD ad)) ∧ s ad.pc = some (.lst ps) ∧ s ad.nm = some (.dT kvs) ∧ s ad.sg = some (.lst sg) ∧ s ad.en = some (.lst en) ∧ s ad.lv = some (.lst lv) ∧ s ad.ht = some (.lst ht) ∧
      keysD ks = some k ∧ SA.Apart x ad ∧ ps.length < 16777216 ∧ kvs.length < 16777216 ∧ sg.length < 16777216 ∧ en.length < 16777216 ∧ lv.length < 16777216 ∧ ht.length < 16777216 ∧
      Q (.int ps.length) (aup (aup (aup (aup (aup (aup s ad.pc (.lst (ps ++ [.tup ks]))) ad.nm (.dT (putA kvs k (.int ps.length)))) ad.sg (.lst (sg ++ [.int a]))) ad.en (.lst (en ++ [.int b]))) ad.lv (.lst (lv ++ [.int c]))) ad.ht (.lst (ht ++ [.int e])))
  | _, _, _, _ => False
end Sk
local macro_rules | `(tactic| walk_at "go4") => `(tactic| repeat (first | walk_at "sg1" | simp -dsimp -implicitDefEqProofs only [Sk.Ask, Sk.fl_pieces, Sk.fl_numbers, Sk.fl_signs, Sk.fl_ends, Sk.fl_leaves, Sk.fl_heights, Sk.fl_firsts, Sk.fl_lasts, Sk.fldA_r, Sk.recvO_i, Sk.p_is_plain, Sk.p_ends_in] | walk_at "sg2"))
local macro_rules | `(tactic| walk_at "st4") => `(tactic| simp -dsimp -implicitDefEqProofs only [Sk.Ask, Sk.p_wantp_o])
namespace Sk
open PySem PySem.Spec PyProof.Rows L2
theorem ok_Shelf_laid_o {P : Program} {w : World} {K : PySem.W.Frag} {mg : Str → Option Value} {base : Heap} (T : Tx K mg) : CalM P w K mg base (0 + 1) "Shelf" "laid" ["self", "piece", "signs", "ends", "leaves", "height"] (spA K (p_laid_o K)) := by
  have nd := sc_Shelf_laid.nd
  refine calMA T.fn_Shelf_laid T.cls_Shelf T.meth_Shelf_laid sc_Shelf_laid (fun _ _ _ _ _ _ us hl => match us, hl with | [_, _, _, _, _, _], _ => rfl) (tl := [none]) rfl (by intro ds s Q E h; unfold p_laid_o at h; split at h; rfl; exact h.elim) ⟨_, fun cdv A outer s H E hr => (as_cons (as_set (i := 6) nd rfl (Or.inl rfl) (ae_bi call_lenAll srl_len T.free_len PySem.boot_len (aa_cons (ae_fld T.cls_Shelf T.noat_Shelf_pieces (av 0) rfl) aa_nil)))
      (as_cons (as_expr (ae_lm PySem.F.slot_list_append PySem.F.type_list_append mt_append srm_append (ae_fld T.cls_Shelf T.noat_Shelf_pieces (av 0) rfl) (aa_cons (av 1) aa_nil)))
      (as_cons (as_asg (av 6) (ag_sub (W := W0) (ae_fld T.cls_Shelf T.noat_Shelf_numbers (av 0) rfl) (av 1) (set_all (Room.units1 hr)) ss_all))
      (as_cons (as_expr (ae_lm PySem.F.slot_list_append PySem.F.type_list_append mt_append srm_append (ae_fld T.cls_Shelf T.noat_Shelf_told_signs (av 0) rfl) (aa_cons (av 2) aa_nil)))
      (as_cons (as_expr (ae_lm PySem.F.slot_list_append PySem.F.type_list_append mt_append srm_append (ae_fld T.cls_Shelf T.noat_Shelf_told_ends (av 0) rfl) (aa_cons (av 3) aa_nil)))
      (as_cons (as_expr (ae_lm PySem.F.slot_list_append PySem.F.type_list_append mt_append srm_append (ae_fld T.cls_Shelf T.noat_Shelf_told_leaves (av 0) rfl) (aa_cons (av 4) aa_nil)))
      (as_cons (as_expr (ae_lm PySem.F.slot_list_append PySem.F.type_list_append mt_append srm_append (ae_fld T.cls_Shelf T.noat_Shelf_told_heights (av 0) rfl) (aa_cons (av 5) aa_nil)))
      (as_one (as_ret (av 6)))))))))), fun ds s Q E h => ?_⟩
  clear nd
  unfold p_laid_o at h
  split at h
  case h_2 => exact h.elim
  rename_i x ks a b c e
  obtain ⟨ad, ps, kvs, sg, en, lv, ht, k, e1, e2, e3, e4, e5, e6, e7, ek, ap, l1, l2, l3, l4, l5, l6, q⟩ := h
  simp only [SA.Apart, SA.own, List.nodup_cons, List.mem_cons, List.not_mem_nil, or_false, not_or] at ap
  walk_at "go4"
def p_loose_o (K : PySem.W.Frag) : ASp
  | [.ref x, .int a, .int b], s, Q, _ => ∃ ad sg fi la i j u v, s x = some (.ins (shC K) ad.dx (fldsD ad)) ∧ s ad.sg = some (.lst sg) ∧ s ad.fi = some (.lst fi) ∧ s ad.la = some (.lst la) ∧ atI la a = some (.int i) ∧ atI sg i = some (.int u) ∧ atI fi b = some (.int j) ∧ atI sg j = some (.int v) ∧ Q (.bl (decide (u + v ≤ 8))) s
  | _, _, _, _ => False
end Sk
local macro_rules | `(tactic| walk_at "go5") => `(tactic| repeat (first | walk_at "sg1" | simp -dsimp -implicitDefEqProofs only [Sk.Ask, Sk.fl_pieces, Sk.fl_numbers, Sk.fl_signs, Sk.fl_ends, Sk.fl_leaves, Sk.fl_heights, Sk.fl_firsts, Sk.fl_lasts, Sk.fldA_r, Sk.recvO_i, Sk.p_is_plain, Sk.p_ends_in] | walk_at "sg2"))
local macro_rules | `(tactic| walk_at "st5") => `(tactic| simp -dsimp -implicitDefEqProofs only [Sk.Ask, Sk.p_wantp_o, Sk.p_laid_o])
namespace Sk
open PySem PySem.Spec PyProof.Rows L2
theorem ok_Shelf_is_loose_o {P : Program} {w : World} {K : PySem.W.Frag} {mg : Str → Option Value} {base : Heap} (T : Tx K mg) : CalM P w K mg base (0 + 1) "Shelf" "is_loose" ["self", "one", "other"] (spA K (p_loose_o K)) := by
  have nd := sc_Shelf_is_loose.nd
  refine calMA T.fn_Shelf_is_loose T.cls_Shelf T.meth_Shelf_is_loose sc_Shelf_is_loose (fun _ _ _ _ _ _ us hl => match us, hl with | [_, _, _], _ => rfl) (tl := []) rfl (by intro ds s Q E h; unfold p_loose_o at h; split at h; rfl; exact h.elim) ⟨_, fun cdv A outer s H E hr => (as_one (as_ret (ae_cmp op_leAll sr_le (ae_op op_addAll sr_add (ae_ix (ix_all (Room.units1 hr)) sr_ix (ae_fld T.cls_Shelf T.noat_Shelf_told_signs (av 0) rfl) (ae_ix (ix_all (Room.units1 hr)) sr_ix (ae_fld T.cls_Shelf T.noat_Shelf_lasts (av 0) rfl) (av 1) (fun _ _ => rfl)) (fun _ _ => rfl)) (ae_ix (ix_all (Room.units1 hr)) sr_ix (ae_fld T.cls_Shelf T.noat_Shelf_told_signs (av 0) rfl) (ae_ix (ix_all (Room.units1 hr)) sr_ix (ae_fld T.cls_Shelf T.noat_Shelf_firsts (av 0) rfl) (av 2) (fun _ _ => rfl)) (fun _ _ => rfl))) (ae_gint T.int_MOST_IN_LEAF (by rfl)) (nomark _)))), fun ds s Q E h => ?_⟩
  clear nd
  unfold p_loose_o at h
  split at h
  case h_2 => exact h.elim
  rename_i x a b
  obtain ⟨ad, sg, fi, la, i, j, u, v, e1, e2, e3, e4, e5, e6, e7, e8, q⟩ := h
  walk_at "go5"
def p_want (K : PySem.W.Frag) : ASp
  | [.ref x, .int t], s, Q, E => opt (shO (s x)) (fun r => Br (dc (r.2.has t)) (Q .non s) (E (xc K "NoPiece") none s) ⟨⟩ ⟨⟩) ⟨⟩
  | _, _, _, _ => False
def p_many (K : PySem.W.Frag) : ASp
  | [.ref x], s, Q, _ => opt (shO (s x)) (fun r => Q (.int r.2.n) s) ⟨⟩
  | _, _, _, _ => False
end Sk
local macro_rules | `(tactic| walk_at "go6") => `(tactic| repeat (first | walk_at "sg1" | simp -dsimp -implicitDefEqProofs only [Sk.Ask, Sk.fl_pieces, Sk.fl_numbers, Sk.fl_signs, Sk.fl_ends, Sk.fl_leaves, Sk.fl_heights, Sk.fl_firsts, Sk.fl_lasts, Sk.fldA_r, Sk.recvO_i, Sk.p_is_plain, Sk.p_ends_in] | walk_at "sg2"))
local macro_rules | `(tactic| walk_at "st6") => `(tactic| simp -dsimp -implicitDefEqProofs only [Sk.Ask, Sk.p_wantp_o, Sk.p_laid_o, Sk.p_loose_o])
namespace Sk
open PySem PySem.Spec PyProof.Rows L2
theorem ok_Shelf_many {P : Program} {w : World} {K : PySem.W.Frag} {mg : Str → Option Value} {base : Heap} (T : Tx K mg) : CalM P w K mg base (0 + 1) "Shelf" "many" ["self"] (spA K (p_many K)) := by
  have nd := sc_Shelf_many.nd
  refine calMS T.fn_Shelf_many T.cls_Shelf T.meth_Shelf_many sc_Shelf_many (fun _ _ _ _ _ _ us hl => match us, hl with | [_], _ => rfl) (tl := []) rfl (by intro ds s Q E h; unfold p_many at h; split at h; rfl; exact h.elim) ⟨_, fun cdv A outer s H E hr => (as_one (as_ret (ae_op op_sub sr_sub (ae_bi call_lenAll srl_len T.free_len PySem.boot_len (aa_cons (ae_fld T.cls_Shelf T.noat_Shelf_pieces (av 0) rfl) aa_nil)) ae_int))), fun ds s Q E h => ?_⟩
  clear nd
  unfold p_many at h
  split at h
  case h_2 => exact h.elim
  rename_i x
  obtain ⟨ad, sh, e1, q⟩ := sh_of h
  dsimp only at q
  refine ⟨_, x, opening e1 fun s1 O => ?_⟩
  obtain ⟨⟨o1, o2, o3, o4, o5, o6, o7, o8, o9⟩, ap, ok, no, oth⟩ := id O
  walk_at "go6"
  rw [show (((sh.ps.length + 1 : Nat) : Int) - 1) = sh.n by show _ = ((sh.ps.length : Nat) : Int); omega]
  exact .same O e1 q
def p_ask (f : Me → Int) (K : PySem.W.Frag) : ASp
  | [.ref x, .int t], s, Q, E => opt (shO (s x)) (fun r => Br (dc (r.2.has t)) (Q (.int (f (r.2.m t.toNat))) s) (E (xc K "NoPiece") none s) ⟨⟩ ⟨⟩) ⟨⟩
  | _, _, _, _ => False
def p_signs (K : PySem.W.Frag) : ASp := p_ask (Me.sg) K
def p_ends (K : PySem.W.Frag) : ASp := p_ask (Me.en) K
def p_leaves (K : PySem.W.Frag) : ASp := p_ask (fun m => (m.lv : Int)) K
def p_height (K : PySem.W.Frag) : ASp := p_ask (fun m => m.ht) K
def p_first_leaf (K : PySem.W.Frag) : ASp := p_ask (fun m => (m.fi : Int)) K
def p_last_leaf (K : PySem.W.Frag) : ASp := p_ask (fun m => (m.la : Int)) K
def p_piece (K : PySem.W.Frag) : ASp
  | [.ref x, .int t], s, Q, E => opt (shO (s x)) (fun r => Br (dc (r.2.hasP t)) (Q (pcD (r.2.pc t)) s) (E (xc K "NoPiece") none s) ⟨⟩ ⟨⟩) ⟨⟩
  | _, _, _, _ => False
end Sk
local macro_rules | `(tactic| walk_at "go7") => `(tactic| repeat (first | walk_at "sg1" | simp -dsimp -implicitDefEqProofs only [Sk.Ask, Sk.fl_pieces, Sk.fl_numbers, Sk.fl_signs, Sk.fl_ends, Sk.fl_leaves, Sk.fl_heights, Sk.fl_firsts, Sk.fl_lasts, Sk.fldA_r, Sk.recvO_i, Sk.p_is_plain, Sk.p_ends_in, Sk.p_many, Sk.p_ask] | walk_at "sg2"))
local macro_rules | `(tactic| walk_at "st7") => `(tactic| simp -dsimp -implicitDefEqProofs only [Sk.Ask, Sk.p_wantp_o, Sk.p_laid_o, Sk.p_loose_o])
namespace Sk
open PySem PySem.Spec PyProof.Rows L2
theorem ok_Shelf_piece {P : Program} {w : World} {K : PySem.W.Frag} {mg : Str → Option Value} {base : Heap} (T : Tx K mg) : CalM P w K mg base (1 + 1) "Shelf" "piece" ["self", "number"] (spA K (p_piece K)) := by
  have nd := sc_Shelf_piece.nd
  have M_Shelf_want_piece := ok_Shelf_want_piece_o (P := P) (w := w) (base := base) T
  refine calMS T.fn_Shelf_piece T.cls_Shelf T.meth_Shelf_piece sc_Shelf_piece (fun _ _ _ _ _ _ us hl => match us, hl with | [_, _], _ => rfl) (tl := []) rfl (by intro ds s Q E h; unfold p_piece at h; split at h; rfl; exact h.elim) ⟨_, fun cdv A outer s H E hr => (as_cons (as_expr (ae_methK M_Shelf_want_piece rfl (nsOk shNames (by decide)) (av 0) (hr.mono (by first | omega | decide | exact Nat.le_refl _ | exact Nat.le_trans (by decide) (Nat.le_add_right _ _))) (takes_of rfl rfl rfl rfl) (aa_cons (av 1) aa_nil)))
      (as_one (as_ret (ae_ix (ix_all (Room.units1 hr)) sr_ix (ae_fld T.cls_Shelf T.noat_Shelf_pieces (av 0) rfl) (av 1) (fun _ _ => rfl))))), fun ds s Q E h => ?_⟩
  clear nd M_Shelf_want_piece
  unfold p_piece at h
  split at h
  case h_2 => exact h.elim
  rename_i x t
  obtain ⟨ad, sh, e1, q⟩ := sh_of h
  dsimp only at q
  obtain ⟨hq, he⟩ := br_dcof q
  refine ⟨_, x, opening e1 fun s1 O => ?_⟩
  obtain ⟨⟨o1, o2, o3, o4, o5, o6, o7, o8, o9⟩, ap, ok, no, oth⟩ := id O
  walk_at "go7"
  walk_at "st7"
  refine ⟨ad, _, o1, o2, fun h1 => ?_, fun h1 => ?_⟩
  · rw [List.length_cons, List.length_map] at h1
    have ht : sh.hasP t := ⟨h1.1, by show t ≤ (sh.ps.length : Nat); omega⟩
    have g := pc_at ht
    walk_at "go7"
    exact .same O e1 (hq ht)
  · rw [List.length_cons, List.length_map] at h1
    exact .same O e1 (he fun z => h1 ⟨z.1, by have : t ≤ (sh.ps.length : Nat) := z.2; omega⟩)
def p_leaf (K : PySem.W.Frag) : ASp
  | [.ref x, .str z], s, Q, E => opt (shO (s x)) (fun r => Rq (r.2.n < 16000000 ∧ z.length < 16777216) (Br (dc (r.2.good (.leaf z))) (Q (.int (r.2.put (.leaf z)).1) (aup s x (.shf r.1 (r.2.put (.leaf z)).2))) (E (xc K "NoText") none s) ⟨⟩ ⟨⟩) ⟨⟩) ⟨⟩
  | [.ref x, d], s, _, E => opt (shO (s x)) (fun _ => opt (tyD d) (fun t => opt (kitN t "str") (fun b => Rq (b = false) (E (xc K "NoText") none s) ⟨⟩) ⟨⟩) ⟨⟩) ⟨⟩
  | _, _, _, _ => False
end Sk
local macro_rules | `(tactic| walk_at "go8") => `(tactic| repeat (first | walk_at "sg1" | simp -dsimp -implicitDefEqProofs only [Sk.Ask, Sk.fl_pieces, Sk.fl_numbers, Sk.fl_signs, Sk.fl_ends, Sk.fl_leaves, Sk.fl_heights, Sk.fl_firsts, Sk.fl_lasts, Sk.fldA_r, Sk.recvO_i, Sk.p_is_plain, Sk.p_ends_in, Sk.p_many, Sk.p_ask, Sk.p_piece] | walk_at "sg2"))
local macro_rules | `(tactic| walk_at "st8") => `(tactic| simp -dsimp -implicitDefEqProofs only [Sk.Ask, Sk.p_wantp_o, Sk.p_laid_o, Sk.p_loose_o])
namespace Sk
open PySem PySem.Spec PyProof.Rows L2
theorem ok_Shelf_leaf {P : Program} {w : World} {K : PySem.W.Frag} {mg : Str → Option Value} {base : Heap} (T : Tx K mg) : CalM P w K mg base (1 + 1) "Shelf" "leaf" ["self", "plain"] (spA K (p_leaf K)) := by
  have nd := sc_Shelf_leaf.nd
  have M_Shelf_laid := ok_Shelf_laid_o (P := P) (w := w) (base := base) T
  have C_ends_in := ok_ends_in (P := P) (w := w) (base := base) T
  have C_is_plain := ok_is_plain (P := P) (w := w) (base := base) T
  refine calMS T.fn_Shelf_leaf T.cls_Shelf T.meth_Shelf_leaf sc_Shelf_leaf (fun _ _ _ _ _ _ us hl => match us, hl with | [_, _], _ => rfl) (tl := [none, none]) rfl (by intro ds s Q E h; unfold p_leaf at h; split at h; rfl; rfl; exact h.elim) ⟨_, fun cdv A outer s H E hr => (as_cons (as_if (AW.at_ (aw_or (at_not (at_truth (ae_call C_is_plain (hr.mono (by first | omega | decide | exact Nat.le_refl _ | exact Nat.le_trans (by decide) (Nat.le_add_right _ _))) (takes_of rfl rfl rfl rfl) (aa_cons (av 1) aa_nil)) (by intro _; rfl))) (aw_or1 (at_not (at_chain op_leAll sr_le op_leAll sr_le ae_int (ae_bi call_lenAll srl_len T.free_len PySem.boot_len (aa_cons (av 1) aa_nil)) (ae_gint T.int_MOST_IN_LEAF (by rfl))))))) (as_one (as_raise rfl (takes_of rfl rfl rfl rfl) T.exc_NoText T.glo_NoText)) as_nil)
      (as_cons (as_set (i := 2) nd rfl (Or.inl rfl) (ae_tup (aa_cons (ae_strL (z := [108, 101, 97, 102]) (by first | rfl | kernel_rfl)) (aa_cons (av 1) aa_nil))))
      (as_cons (as_if (at_cmp (op_inAll (Room.units1 hr)) sr_in (av 2) (ae_fld T.cls_Shelf T.noat_Shelf_numbers (av 0) rfl) (by first | rfl | with_unfolding_all rfl)) (as_one (as_ret (ae_ix (ix_all (Room.units1 hr)) sr_ix (ae_fld T.cls_Shelf T.noat_Shelf_numbers (av 0) rfl) (av 2) (fun _ _ => rfl)))) as_nil)
      (as_cons (as_set (i := 3) nd rfl (Or.inl rfl) (ae_methK M_Shelf_laid rfl (nsOk shNames (by decide)) (av 0) (hr.mono (by first | omega | decide | exact Nat.le_refl _ | exact Nat.le_trans (by decide) (Nat.le_add_right _ _))) (takes_of rfl rfl rfl rfl) (aa_cons (av 2) (aa_cons (ae_bi call_lenAll srl_len T.free_len PySem.boot_len (aa_cons (av 1) aa_nil)) (aa_cons (ae_call C_ends_in (hr.mono (by first | omega | decide | exact Nat.le_refl _ | exact Nat.le_trans (by decide) (Nat.le_add_right _ _))) (takes_of rfl rfl rfl rfl) (aa_cons (av 1) aa_nil)) (aa_cons ae_int (aa_cons ae_int aa_nil)))))))
      (as_cons (as_expr (ae_lm PySem.F.slot_list_append PySem.F.type_list_append mt_append srm_append (ae_fld T.cls_Shelf T.noat_Shelf_firsts (av 0) rfl) (aa_cons (av 3) aa_nil)))
      (as_cons (as_expr (ae_lm PySem.F.slot_list_append PySem.F.type_list_append mt_append srm_append (ae_fld T.cls_Shelf T.noat_Shelf_lasts (av 0) rfl) (aa_cons (av 3) aa_nil)))
      (as_one (as_ret (av 3))))))))), fun ds s Q E h => ?_⟩
  clear nd M_Shelf_laid C_ends_in C_is_plain
  unfold p_leaf at h
  split at h
  case h_3 => exact h.elim
  case h_2 =>
    rename_i x d hd
    obtain ⟨ad, sh, e1, q⟩ := sh_of h
    obtain ⟨t, e2, q⟩ := opt_of q
    obtain ⟨b, e3, rfl, he⟩ := opt_of q
    refine ⟨_, x, opening e1 fun s1 O => ?_⟩
    have e4 := tyA_of (s := s1) e2
    obtain ⟨⟨o1, o2, o3, o4, o5, o6, o7, o8, o9⟩, ap, ok, no, oth⟩ := id O
    walk_at "go8"
    exact .same O e1 he
  case h_1 =>
    rename_i x z
    obtain ⟨ad, sh, e1, q⟩ := sh_of h
    dsimp only at q
    obtain ⟨⟨hn, hz⟩, q⟩ := q
    obtain ⟨hq, he⟩ := br_dcof q
    refine ⟨_, x, opening e1 fun s1 O => ?_⟩
    obtain ⟨⟨o1, o2, o3, o4, o5, o6, o7, o8, o9⟩, ap, ok, no, oth⟩ := id O
    walk_at "go8"
    refine br_ndc (fun h1 => ?_) (fun h1 => ?_)
    · walk_at "go8"
      exact .same O e1 (he fun g => h1 g.1)
    walk_at "go8"
    refine br_dec (fun h2 => ?_) (fun h2 => ?_)
    case refine_2 =>
      walk_at "go8"
      exact .same O e1 (he fun g => h2 (by have := g.2.1; omega))
    walk_at "go8"
    refine br_ndec (fun h3 => ?_) (fun h3 => ?_)
    · walk_at "go8"
      exact .same O e1 (he fun g => h3 (by have := g.2.2; omega))
    have g : sh.good (.leaf z) := ⟨h1, by omega, by omega⟩
    replace hq := hq g
    by_cases hm : Pc.leaf z ∈ sh.ps
    · have v1 := kvsD_some (i := 0) hm
      rw [put_mem hm, aup_id e1] at hq
      walk_at "go8"
      exact .same O e1 hq
    · have v1 := kvsD_none (i := 0) hm
      have hl := ok.len
      have hn : sh.ps.length < 16000000 := hn
      have hl : sh.ms.length = sh.ps.length + 1 := hl
      walk_at "go8"
      walk_at "st8"
      have zl : ∀ {f : Me → Int}, ((sh.ms.map f).map D.int).length < 16777216 := by intro f; simp; omega
      refine ⟨ad, _, _, _, _, _, _, _, o1, o2, o3, o4, o5, o6, o7, rfl, ap, by simp; omega, by rw [kvsD_len]; omega, zl, zl, zl, zl, ?_⟩
      have nd := ap
      simp only [SA.Apart, SA.own, List.nodup_cons, List.mem_cons, List.not_mem_nil, or_false, not_or] at nd
      walk_at "go8"
      rw [put_new hm] at hq
      exact .lay O hm g rfl rfl rfl rfl rfl rfl rfl rfl rfl hq
def p_fork (K : PySem.W.Frag) : ASp
  | [.ref x, .int a, .int b], s, Q, E => opt (shO (s x)) (fun r => Rq (r.2.n < 16000000) (Br (dc (r.2.hasP a ∧ r.2.hasP b)) (Br (dc (r.2.loose a.toNat b.toNat)) (E (xc K "Loose") none s)
      (Br (dc (r.2.level a.toNat b.toNat)) (Br (dc ((r.2.m a.toNat).txt.length + (r.2.m b.toNat).txt.length ≤ most)) (Q (.int (r.2.put (.fork a.toNat b.toNat)).1) (aup s x (.shf r.1 (r.2.put (.fork a.toNat b.toNat)).2)))
        (E (xc K "TooLong") none s) ⟨⟩ ⟨⟩) (E (xc K "Unlevel") none s) ⟨⟩ ⟨⟩) ⟨⟩ ⟨⟩) (E (xc K "NoPiece") none s) ⟨⟩ ⟨⟩) ⟨⟩) ⟨⟩
  | _, _, _, _ => False
theorem ms_atN {sh : Sh} (ok : sh.Ok) {t : Nat} (h : t ≤ sh.n) (f : Me → Int) : atI ((sh.ms.map f).map D.int) (t : Int) = some (.int (f (sh.m t))) := by
  have := ms_at ok (t := (t : Int)) ⟨by omega, by omega⟩ f
  rw [Int.toNat_natCast] at this
  exact this
end Sk
local macro_rules | `(tactic| walk_at "go9") => `(tactic| repeat (first | walk_at "sg1" | simp -dsimp -implicitDefEqProofs only [Sk.Ask, Sk.fl_pieces, Sk.fl_numbers, Sk.fl_signs, Sk.fl_ends, Sk.fl_leaves, Sk.fl_heights, Sk.fl_firsts, Sk.fl_lasts, Sk.fldA_r, Sk.recvO_i, Sk.p_is_plain, Sk.p_ends_in, Sk.p_many, Sk.p_ask, Sk.p_piece, Sk.p_leaf] | walk_at "sg2"))
local macro_rules | `(tactic| walk_at "st9") => `(tactic| simp -dsimp -implicitDefEqProofs only [Sk.Ask, Sk.p_wantp_o, Sk.p_laid_o, Sk.p_loose_o])
namespace Sk
open PySem PySem.Spec PyProof.Rows L2
theorem ok_Shelf_fork {P : Program} {w : World} {K : PySem.W.Frag} {mg : Str → Option Value} {base : Heap} (T : Tx K mg) : CalM P w K mg base (2 + 1) "Shelf" "fork" ["self", "one", "other"] (spA K (p_fork K)) := by
  have nd := sc_Shelf_fork.nd
  have M_Shelf_want_piece := ok_Shelf_want_piece_o (P := P) (w := w) (base := base) T
  have M_Shelf_is_loose := ok_Shelf_is_loose_o (P := P) (w := w) (base := base) T
  have M_Shelf_laid := ok_Shelf_laid_o (P := P) (w := w) (base := base) T
  refine calMS T.fn_Shelf_fork T.cls_Shelf T.meth_Shelf_fork sc_Shelf_fork (fun _ _ _ _ _ _ us hl => match us, hl with | [_, _, _], _ => rfl) (tl := [none, none, none, none, none, none]) rfl (by intro ds s Q E h; unfold p_fork at h; split at h; rfl; exact h.elim) ⟨_, fun cdv A outer s H E hr => (as_cons (as_expr (ae_methK M_Shelf_want_piece rfl (nsOk shNames (by decide)) (av 0) (hr.mono (by first | omega | decide | exact Nat.le_refl _ | exact Nat.le_trans (by decide) (Nat.le_add_right _ _))) (takes_of rfl rfl rfl rfl) (aa_cons (av 1) aa_nil)))
      (as_cons (as_expr (ae_methK M_Shelf_want_piece rfl (nsOk shNames (by decide)) (av 0) (hr.mono (by first | omega | decide | exact Nat.le_refl _ | exact Nat.le_trans (by decide) (Nat.le_add_right _ _))) (takes_of rfl rfl rfl rfl) (aa_cons (av 2) aa_nil)))
      (as_cons (as_if (at_truth (ae_methK M_Shelf_is_loose rfl (nsOk shNames (by decide)) (av 0) (hr.mono (by first | omega | decide | exact Nat.le_refl _ | exact Nat.le_trans (by decide) (Nat.le_add_right _ _))) (takes_of rfl rfl rfl rfl) (aa_cons (av 1) (aa_cons (av 2) aa_nil))) (by intro _; rfl)) (as_one (as_raise rfl (takes_of rfl rfl rfl rfl) T.exc_Loose T.glo_Loose)) as_nil)
      (as_cons (as_set (i := 3) nd rfl (Or.inl rfl) (ae_lst (aa_cons (ae_ix (ix_all (Room.units1 hr)) sr_ix (ae_fld T.cls_Shelf T.noat_Shelf_told_heights (av 0) rfl) (av 1) (fun _ _ => rfl)) (aa_cons (ae_ix (ix_all (Room.units1 hr)) sr_ix (ae_fld T.cls_Shelf T.noat_Shelf_told_heights (av 0) rfl) (av 2) (fun _ _ => rfl)) aa_nil))))
      (as_cons (as_if (at_cmp op_gt sr_gt (ae_op op_sub sr_sub (ae_bi (call_maxAll rfl) srl_max T.free_max bt_max (aa_cons (av 3) aa_nil)) (ae_bi (call_minAll rfl) srl_min T.free_min bt_min (aa_cons (av 3) aa_nil))) ae_int (nomark _)) (as_one (as_raise rfl (takes_of rfl rfl rfl rfl) T.exc_Unlevel T.glo_Unlevel)) as_nil)
      (as_cons (as_set (i := 4) nd rfl (Or.inl rfl) (ae_op op_addAll sr_add (ae_ix (ix_all (Room.units1 hr)) sr_ix (ae_fld T.cls_Shelf T.noat_Shelf_told_signs (av 0) rfl) (av 1) (fun _ _ => rfl)) (ae_ix (ix_all (Room.units1 hr)) sr_ix (ae_fld T.cls_Shelf T.noat_Shelf_told_signs (av 0) rfl) (av 2) (fun _ _ => rfl))))
      (as_cons (as_if (at_cmp op_gt sr_gt (av 4) (ae_gint T.int_MOST_SIGNS (by rfl)) (nomark _)) (as_one (as_raise rfl (takes_of rfl rfl rfl rfl) T.exc_TooLong T.glo_TooLong)) as_nil)
      (as_cons (as_set (i := 5) nd rfl (Or.inl rfl) (ae_tup (aa_cons (ae_strL (z := [102, 111, 114, 107]) (by first | rfl | kernel_rfl)) (aa_cons (av 1) (aa_cons (av 2) aa_nil)))))
      (as_cons (as_if (at_cmp (op_inAll (Room.units1 hr)) sr_in (av 5) (ae_fld T.cls_Shelf T.noat_Shelf_numbers (av 0) rfl) (by first | rfl | with_unfolding_all rfl)) (as_one (as_ret (ae_ix (ix_all (Room.units1 hr)) sr_ix (ae_fld T.cls_Shelf T.noat_Shelf_numbers (av 0) rfl) (av 5) (fun _ _ => rfl)))) as_nil)
      (as_cons (as_set (i := 6) nd rfl (Or.inl rfl) (ae_op op_addAll sr_add (ae_ix (ix_all (Room.units1 hr)) sr_ix (ae_fld T.cls_Shelf T.noat_Shelf_told_ends (av 0) rfl) (av 1) (fun _ _ => rfl)) (ae_ix (ix_all (Room.units1 hr)) sr_ix (ae_fld T.cls_Shelf T.noat_Shelf_told_ends (av 0) rfl) (av 2) (fun _ _ => rfl))))
      (as_cons (as_set (i := 7) nd rfl (Or.inl rfl) (ae_op op_addAll sr_add (ae_ix (ix_all (Room.units1 hr)) sr_ix (ae_fld T.cls_Shelf T.noat_Shelf_told_leaves (av 0) rfl) (av 1) (fun _ _ => rfl)) (ae_ix (ix_all (Room.units1 hr)) sr_ix (ae_fld T.cls_Shelf T.noat_Shelf_told_leaves (av 0) rfl) (av 2) (fun _ _ => rfl))))
      (as_cons (as_set (i := 8) nd rfl (Or.inl rfl) (ae_methK M_Shelf_laid rfl (nsOk shNames (by decide)) (av 0) (hr.mono (by first | omega | decide | exact Nat.le_refl _ | exact Nat.le_trans (by decide) (Nat.le_add_right _ _))) (takes_of rfl rfl rfl rfl) (aa_cons (av 5) (aa_cons (av 4) (aa_cons (av 6) (aa_cons (av 7) (aa_cons (ae_op op_addAll sr_add ae_int (ae_bi (call_maxAll rfl) srl_max T.free_max bt_max (aa_cons (av 3) aa_nil))) aa_nil)))))))
      (as_cons (as_expr (ae_lm PySem.F.slot_list_append PySem.F.type_list_append mt_append srm_append (ae_fld T.cls_Shelf T.noat_Shelf_firsts (av 0) rfl) (aa_cons (ae_ix (ix_all (Room.units1 hr)) sr_ix (ae_fld T.cls_Shelf T.noat_Shelf_firsts (av 0) rfl) (av 1) (fun _ _ => rfl)) aa_nil)))
      (as_cons (as_expr (ae_lm PySem.F.slot_list_append PySem.F.type_list_append mt_append srm_append (ae_fld T.cls_Shelf T.noat_Shelf_lasts (av 0) rfl) (aa_cons (ae_ix (ix_all (Room.units1 hr)) sr_ix (ae_fld T.cls_Shelf T.noat_Shelf_lasts (av 0) rfl) (av 2) (fun _ _ => rfl)) aa_nil)))
      (as_one (as_ret (av 8))))))))))))))))), fun ds s Q E h => ?_⟩
  clear nd M_Shelf_want_piece M_Shelf_is_loose M_Shelf_laid
  unfold p_fork at h
  split at h
  case h_2 => exact h.elim
  rename_i x a b
  obtain ⟨ad, sh, e1, q⟩ := sh_of h
  dsimp only at q
  obtain ⟨hn, q⟩ := q
  obtain ⟨q, hno⟩ := br_dcof q
  refine ⟨_, x, opening e1 fun s1 O => ?_⟩
  obtain ⟨⟨o1, o2, o3, o4, o5, o6, o7, o8, o9⟩, ap, ok, no, oth⟩ := id O
  walk_at "go9"
  walk_at "st9"
  refine ⟨ad, _, o1, o2, fun ha => ?_, fun ha => ?_⟩
  case refine_2 =>
    rw [List.length_cons, List.length_map] at ha
    exact .same O e1 (hno fun z => ha ⟨z.1.1, by have : a ≤ (sh.ps.length : Nat) := z.1.2; omega⟩)
  walk_at "go9"
  walk_at "st9"
  refine ⟨ad, _, o1, o2, fun hb => ?_, fun hb => ?_⟩
  case refine_2 =>
    rw [List.length_cons, List.length_map] at hb
    exact .same O e1 (hno fun z => hb ⟨z.2.1, by have : b ≤ (sh.ps.length : Nat) := z.2.2; omega⟩)
  rw [List.length_cons, List.length_map] at ha hb
  obtain ⟨a, rfl⟩ : ∃ n : Nat, a = n := ⟨a.toNat, by omega⟩
  obtain ⟨b, rfl⟩ : ∃ n : Nat, b = n := ⟨b.toNat, by omega⟩
  have hpa : 0 < a ∧ a ≤ sh.n := ⟨by omega, by show a ≤ sh.ps.length; omega⟩
  have hpb : 0 < b ∧ b ≤ sh.n := ⟨by omega, by show b ≤ sh.ps.length; omega⟩
  replace q := q ⟨⟨by omega, by omega⟩, ⟨by omega, by omega⟩⟩
  rw [Int.toNat_natCast, Int.toNat_natCast] at q
  obtain ⟨hlo, q⟩ := br_dcof q
  have la := ok.la_le hpa.2
  have fb := ok.fi_le hpb.2
  have g1 := ms_atN ok hpa.2 (fun m => (m.la : Int))
  have g2 := ms_atN ok (t := (sh.m a).la) (by omega) Me.sg
  have g3 := ms_atN ok hpb.2 (fun m => (m.fi : Int))
  have g4 := ms_atN ok (t := (sh.m b).fi) (by omega) Me.sg
  walk_at "go9"
  walk_at "st9"
  refine ⟨ad, _, _, _, _, _, _, _, o1, o4, o8, o9, g1, g2, g3, g4, ?_⟩
  walk_at "go9"
  refine br_dec (fun h1 => ?_) (fun h1 => ?_)
  · walk_at "go9"
    refine .same O e1 (hlo ?_)
    have h1 : ((sh.m (sh.m a).la).txt.length : Int) + ((sh.m (sh.m b).fi).txt.length : Nat) ≤ 8 := h1
    unfold Sh.loose
    omega
  have nlo : ¬ sh.loose a b := fun z => h1 (by
    unfold Sh.loose at z
    show ((sh.m (sh.m a).la).txt.length : Int) + ((sh.m (sh.m b).fi).txt.length : Nat) ≤ 8
    omega)
  obtain ⟨q, hlv⟩ := br_dcof (q nlo)
  have ga := ms_atN ok hpa.2 (fun m => m.ht)
  have gb := ms_atN ok hpb.2 (fun m => m.ht)
  walk_at "go9"
  refine br_dec (fun h2 => ?_) (fun h2 => ?_)
  · walk_at "go9"
    exact .same O e1 (hlv fun z => by unfold Sh.level at z; omega)
  have lev : sh.level a b := by unfold Sh.level; omega
  obtain ⟨hq, htl⟩ := br_dcof (q lev)
  have sa := ms_atN ok hpa.2 Me.sg
  have sb := ms_atN ok hpb.2 Me.sg
  walk_at "go9"
  refine br_dec (fun h3 => ?_) (fun h3 => ?_)
  · walk_at "go9"
    have h3 : (1000000000000000000 : Int) < ((sh.m a).txt.length : Nat) + ((sh.m b).txt.length : Nat) := h3
    exact .same O e1 (htl fun z => by unfold most at z; omega)
  have lsz : (sh.m a).txt.length + (sh.m b).txt.length ≤ most := by
    have h3 : ¬ (1000000000000000000 : Int) < ((sh.m a).txt.length : Nat) + ((sh.m b).txt.length : Nat) := h3
    unfold most
    omega
  replace hq := hq lsz
  have g : sh.good (.fork a b) := ⟨hpa, hpb, by unfold Sh.loose at nlo; omega, lev.1, lev.2, lsz⟩
  by_cases hm : Pc.fork a b ∈ sh.ps
  · have v1 := kvsD_some (i := 0) hm
    rw [put_mem hm, aup_id e1] at hq
    walk_at "go9"
    exact .same O e1 hq
  · have v1 := kvsD_none (i := 0) hm
    have hn : sh.ps.length < 16000000 := hn
    have hl : sh.ms.length = sh.ps.length + 1 := ok.len
    have ea := ms_atN ok hpa.2 Me.en
    have eb := ms_atN ok hpb.2 Me.en
    have va := ms_atN ok hpa.2 (fun m => (m.lv : Int))
    have vb := ms_atN ok hpb.2 (fun m => (m.lv : Int))
    walk_at "go9"
    walk_at "st9"
    have zl : ∀ {f : Me → Int}, ((sh.ms.map f).map D.int).length < 16777216 := by intro f; simp; omega
    refine ⟨ad, _, _, _, _, _, _, _, o1, o2, o3, o4, o5, o6, o7, rfl, ap, by simp; omega, by rw [kvsD_len]; omega, zl, zl, zl, zl, ?_⟩
    have nd := ap
    simp only [SA.Apart, SA.own, List.nodup_cons, List.mem_cons, List.not_mem_nil, or_false, not_or] at nd
    have fa := ms_atN ok hpa.2 (fun m => (m.fi : Int))
    have lb := ms_atN ok hpb.2 (fun m => (m.la : Int))
    rw [put_new hm] at hq
    walk_at "go9"
    exact .lay O hm g rfl rfl rfl (by simp [Me.sg, Sh.mk1]) (by simp [Me.en, Sh.mk1]) (by simp [Sh.mk1]) rfl rfl rfl hq
def p_loose (K : PySem.W.Frag) : ASp
  | [.ref x, .int a, .int b], s, Q, _ => opt (shO (s x)) (fun r => Rq (r.2.has a ∧ r.2.has b) (Q (.bl (decide ((r.2.m (r.2.m a.toNat).la).sg + (r.2.m (r.2.m b.toNat).fi).sg ≤ 8))) s) ⟨⟩) ⟨⟩
  | _, _, _, _ => False
end Sk
local macro_rules | `(tactic| walk_at "go10") => `(tactic| repeat (first | walk_at "sg1" | simp -dsimp -implicitDefEqProofs only [Sk.Ask, Sk.fl_pieces, Sk.fl_numbers, Sk.fl_signs, Sk.fl_ends, Sk.fl_leaves, Sk.fl_heights, Sk.fl_firsts, Sk.fl_lasts, Sk.fldA_r, Sk.recvO_i, Sk.p_is_plain, Sk.p_ends_in, Sk.p_many, Sk.p_ask, Sk.p_piece, Sk.p_leaf, Sk.p_fork] | walk_at "sg2"))
local macro_rules | `(tactic| walk_at "st10") => `(tactic| simp -dsimp -implicitDefEqProofs only [Sk.Ask, Sk.p_wantp_o, Sk.p_laid_o, Sk.p_loose_o])
namespace Sk
open PySem PySem.Spec PyProof.Rows L2
theorem ok_Shelf_is_loose {P : Program} {w : World} {K : PySem.W.Frag} {mg : Str → Option Value} {base : Heap} (T : Tx K mg) : CalM P w K mg base (0 + 1) "Shelf" "is_loose" ["self", "one", "other"] (spA K (p_loose K)) := by
  have nd := sc_Shelf_is_loose.nd
  refine calMS T.fn_Shelf_is_loose T.cls_Shelf T.meth_Shelf_is_loose sc_Shelf_is_loose (fun _ _ _ _ _ _ us hl => match us, hl with | [_, _, _], _ => rfl) (tl := []) rfl (by intro ds s Q E h; unfold p_loose at h; split at h; rfl; exact h.elim) ⟨_, fun cdv A outer s H E hr => (as_one (as_ret (ae_cmp op_leAll sr_le (ae_op op_addAll sr_add (ae_ix (ix_all (Room.units1 hr)) sr_ix (ae_fld T.cls_Shelf T.noat_Shelf_told_signs (av 0) rfl) (ae_ix (ix_all (Room.units1 hr)) sr_ix (ae_fld T.cls_Shelf T.noat_Shelf_lasts (av 0) rfl) (av 1) (fun _ _ => rfl)) (fun _ _ => rfl)) (ae_ix (ix_all (Room.units1 hr)) sr_ix (ae_fld T.cls_Shelf T.noat_Shelf_told_signs (av 0) rfl) (ae_ix (ix_all (Room.units1 hr)) sr_ix (ae_fld T.cls_Shelf T.noat_Shelf_firsts (av 0) rfl) (av 2) (fun _ _ => rfl)) (fun _ _ => rfl))) (ae_gint T.int_MOST_IN_LEAF (by rfl)) (nomark _)))), fun ds s Q E h => ?_⟩
  clear nd
  unfold p_loose at h
  split at h
  case h_2 => exact h.elim
  rename_i x a b
  obtain ⟨ad, sh, e1, q⟩ := sh_of h
  dsimp only at q
  obtain ⟨⟨⟨a0, a1⟩, ⟨b0, b1⟩⟩, q⟩ := q
  refine ⟨_, x, opening e1 fun s1 O => ?_⟩
  obtain ⟨⟨o1, o2, o3, o4, o5, o6, o7, o8, o9⟩, ap, ok, no, oth⟩ := id O
  obtain ⟨a, rfl⟩ : ∃ n : Nat, a = n := ⟨a.toNat, by omega⟩
  obtain ⟨b, rfl⟩ : ∃ n : Nat, b = n := ⟨b.toNat, by omega⟩
  rw [Int.toNat_natCast, Int.toNat_natCast] at q
  have a2 : a ≤ sh.n := by omega
  have b2 : b ≤ sh.n := by omega
  have la := ok.la_le a2
  have fb := ok.fi_le b2
  have g1 := ms_atN ok a2 (fun m => (m.la : Int))
  have g2 := ms_atN ok (t := (sh.m a).la) (by omega) Me.sg
  have g3 := ms_atN ok b2 (fun m => (m.fi : Int))
  have g4 := ms_atN ok (t := (sh.m b).fi) (by omega) Me.sg
  walk_at "go10"
  exact .same O e1 q
def p_Shelf (K : PySem.W.Frag) : ASp
  | [.ref x], s, Q, _ => ∃ dx, s x = some (.ins (shC K) dx []) ∧ ∀ ad, Q .non (aup s x (.shf ad sh0))
  | _, _, _, _ => False
end Sk
local macro_rules | `(tactic| walk_at "go11") => `(tactic| repeat (first | walk_at "sg1" | simp -dsimp -implicitDefEqProofs only [Sk.Ask, Sk.fl_pieces, Sk.fl_numbers, Sk.fl_signs, Sk.fl_ends, Sk.fl_leaves, Sk.fl_heights, Sk.fl_firsts, Sk.fl_lasts, Sk.fldA_r, Sk.recvO_i, Sk.p_is_plain, Sk.p_ends_in, Sk.p_many, Sk.p_ask, Sk.p_piece, Sk.p_leaf, Sk.p_fork, Sk.p_loose] | walk_at "sg2"))
local macro_rules | `(tactic| walk_at "st11") => `(tactic| simp -dsimp -implicitDefEqProofs only [Sk.Ask, Sk.p_wantp_o, Sk.p_laid_o, Sk.p_loose_o])
namespace Sk
open PySem PySem.Spec PyProof.Rows L2
theorem ok_Shelf_init {P : Program} {w : World} {K : PySem.W.Frag} {mg : Str → Option Value} {base : Heap} (T : Tx K mg) : CalK P w K mg base (0 + 1) "Shelf" ["self"] (spA K (p_Shelf K)) := by
  have nd := sc_Shelf_init.nd
  refine calKS T.fn_Shelf_init T.glo_Shelf T.mkr_Shelf sc_Shelf_init (fun _ _ _ _ _ _ us hl => match us, hl with | [_], _ => rfl) (tl := []) rfl (by intro ds s Q E h; unfold p_Shelf at h; split at h; rfl; exact h.elim) ⟨_, fun cdv A outer s H E hr => (as_cons (as_fld T.cls_Shelf T.noat_Shelf_pieces (av 0) (ae_lstO (aa_cons ae_non aa_nil)) rfl)
      (as_cons (as_fld T.cls_Shelf T.noat_Shelf_numbers (av 0) ae_dnewT rfl)
      (as_cons (as_fld T.cls_Shelf T.noat_Shelf_told_signs (av 0) (ae_lstO (aa_cons ae_int aa_nil)) rfl)
      (as_cons (as_fld T.cls_Shelf T.noat_Shelf_told_ends (av 0) (ae_lstO (aa_cons ae_int aa_nil)) rfl)
      (as_cons (as_fld T.cls_Shelf T.noat_Shelf_told_leaves (av 0) (ae_lstO (aa_cons ae_int aa_nil)) rfl)
      (as_cons (as_fld T.cls_Shelf T.noat_Shelf_told_heights (av 0) (ae_lstO (aa_cons (ae_un un_neg sr_neg ae_int) aa_nil)) rfl)
      (as_cons (as_fld T.cls_Shelf T.noat_Shelf_firsts (av 0) (ae_lstO (aa_cons ae_int aa_nil)) rfl)
      (as_one (as_fld T.cls_Shelf T.noat_Shelf_lasts (av 0) (ae_lstO (aa_cons ae_int aa_nil)) rfl))))))))), fun ds s Q E h => ?_⟩
  clear nd
  unfold p_Shelf at h
  split at h
  case h_2 => exact h.elim
  rename_i x
  obtain ⟨dx, e1, hq⟩ := h
  refine ⟨s, x, fun Z H R => ⟨R, Fr.refl H s⟩, fun _ => ?_⟩
  walk_at "go11"
  rename_i p1 h1 p2 h2 p3 h3 p4 h4 p5 h5 p6 h6 p7 h7 p8 h8
  have hx : ∀ p, s p = none → x ≠ p := fun p h z => by rw [z, h] at e1; cases e1
  have ap : (x :: [p1, p2, p3, p4, p5, p6, p7, p8]).Nodup := by
    simp only [List.nodup_cons, List.mem_cons, List.not_mem_nil, or_false, not_or, not_false_eq_true, List.nodup_nil, and_true]
    grind
  have no : ∀ a ∈ [p1, p2, p3, p4, p5, p6, p7, p8], s a = none := by
    simp only [List.mem_cons, List.not_mem_nil, or_false]
    grind
  refine ⟨⟨dx, p1, p2, p3, p4, p5, p6, p7, p8⟩, sh0, ⟨?_, ?_, ?_, ?_, ?_, ?_, ?_, ?_, ?_⟩, .nil, ap, no, fun b o m e => ?_, hq _⟩
  all_goals simp only [SA.own, List.nodup_cons, List.mem_cons, List.not_mem_nil, or_false, not_or] at *
  case refine_1 => simp (disch := first | assumption | grind) only [Sk.aup_same, Sk.aup_ne]; rfl
  all_goals first
    | (simp (disch := first | assumption | grind) only [Sk.aup_same, Sk.aup_ne]; first | done | rfl | assumption)
    | skip
end Sk
namespace Sk
open PySem PySem.Spec PyProof.Rows L2
/-! ### what a shelf gets -/
def l8 (c : Nat) : List Nat := List.replicate 8 c
theorem good_leaf {sh : Sh} {z : List Nat} (p : Plain z) (h1 : 1 ≤ z.length) (h2 : z.length ≤ 8) : sh.good (.leaf z) := ⟨p, h1, h2⟩
theorem plain_rep {n c : Nat} (h1 : 32 ≤ c) (h2 : c ≤ 126) : Plain (List.replicate n c) := fun x hx => by
  have := List.eq_of_mem_replicate hx
  subst this
  exact .inl ⟨h1, h2⟩
theorem good8 {sh : Sh} {c : Nat} (h1 : 32 ≤ c) (h2 : c ≤ 126) : sh.good (.leaf (l8 c)) := ⟨plain_rep h1 h2, by simp [l8], by simp [l8]⟩
theorem mem_put {s : Sh} {q r : Pc} : r ∈ (s.put q).2.ps ↔ r ∈ s.ps ∨ r = q := by
  unfold Sh.put
  split
  · rename_i h
    exact ⟨.inl, fun z => z.elim id fun e => e ▸ h⟩
  · simp [Sh.lay]
theorem At_le {sh : Sh} {t : Nat} {q : Pc} (a : sh.At t q) (t0 : 0 < t) : t ≤ sh.n := by
  have := (List.getElem?_eq_some_iff.mp a.det).1
  show t ≤ sh.ps.length
  omega
theorem At.m_leaf {sh : Sh} {t : Nat} {z : List Nat} (a : sh.At t (.leaf z)) : sh.m t = ⟨z, 1, 0, t, t⟩ := by cases a; assumption
/-- a leaf of eight signs with itself -/
theorem self_not_loose {sh : Sh} {t : Nat} {z : List Nat} (a : sh.At t (.leaf z)) (h8 : z.length = 8) : ¬ sh.loose t t := by
  unfold Sh.loose
  rw [At.m_leaf a]
  dsimp only
  rw [At.m_leaf a, h8]
  decide
theorem self_level {sh : Sh} {t : Nat} : sh.level t t := by unfold Sh.level; omega
theorem self_good {sh : Sh} {t : Nat} {z : List Nat} (a : sh.At t (.leaf z)) (h8 : z.length = 8) (t0 : 0 < t) : sh.good (.fork t t) := by
  have nl := self_not_loose a h8
  have l := At_le a t0
  unfold Sh.loose at nl
  refine ⟨⟨t0, l⟩, ⟨t0, l⟩, by omega, by omega, by omega, ?_⟩
  rw [At.m_leaf a]
  dsimp only
  rw [h8]
  decide
theorem fork_self_ok {sh : Sh} {t : Nat} {z : List Nat} (a : sh.At t (.leaf z)) (h8 : z.length = 8) (t0 : 0 < t) : (sh.hasP (t : Int) ∧ sh.hasP (t : Int)) ∧ ¬ sh.loose t t ∧ sh.level t t ∧ (sh.m t).txt.length + (sh.m t).txt.length ≤ most ∧ sh.good (.fork t t) := by
  have l := At_le a t0
  have p : sh.hasP (t : Int) := ⟨by omega, by omega⟩
  refine ⟨⟨p, p⟩, self_not_loose a h8, self_level, ?_, self_good a h8 t0⟩
  rw [At.m_leaf a]
  dsimp only
  rw [h8]
  decide
theorem put_put {s : Sh} {q : Pc} : ((s.put q).2.put q) = ((s.put q).1, (s.put q).2) := by
  have h : q ∈ (s.put q).2.ps := mem_put.mpr (.inr rfl)
  have : (s.put q).2.put q = ((s.put q).2.ps.idxOf q + 1, (s.put q).2) := by
    show (if _ then _ else _) = _
    rw [if_pos h]
  rw [this]
  unfold Sh.put
  split
  · rfl
  · rename_i n
    show ((s.ps ++ [q]).idxOf q + 1, _) = _
    rw [List.idxOf_append, if_neg n]
    simp [Sh.n]
theorem put_new_n {s : Sh} {q : Pc} (h : q ∉ s.ps) : (s.put q).2.n = s.n + 1 ∧ (s.put q).1 = s.n + 1 := by
  unfold Sh.put
  rw [if_neg h]
  exact ⟨by simp [Sh.n, Sh.lay], rfl⟩
/-- no fork has a part that comes behind -/
theorem fork_lt {sh : Sh} (ok : sh.Ok) {a b : Nat} (h : Pc.fork a b ∈ sh.ps) : a < sh.n ∧ b < sh.n := by
  obtain ⟨i, hi⟩ := List.mem_iff_getElem?.mp h
  have hl := (List.getElem?_eq_some_iff.mp hi).1
  have a1 := ok.at_p (t := i + 1) (by omega) hi
  cases a1
  have : sh.n = sh.ps.length := rfl
  omega
theorem atI_get {l : List Nat} {i : Int} (h0 : 0 ≤ i) (h1 : i < l.length) : ∃ v, atI l i = some v ∧ v ∈ l := by
  have h : i.toNat < l.length := by omega
  exact ⟨l[i.toNat], atI_n h0 (List.getElem?_eq_getElem h), List.getElem_mem h⟩
theorem atI_getG {α : Type} {l : List α} {i : Int} (h0 : 0 ≤ i) (h1 : i < l.length) : ∃ v, atI l i = some v ∧ l[i.toNat]? = some v := by
  have h : i.toNat < l.length := by omega
  exact ⟨l[i.toNat], atI_n h0 (List.getElem?_eq_getElem h), List.getElem?_eq_getElem h⟩
theorem br_yes {A B p : Prop} (h : p) (k : A) : Br (dc p) A B ⟨⟩ ⟨⟩ := br_dc (fun _ => k) fun n => absurd h n
theorem br_no {A B p : Prop} (h : ¬ p) (k : B) : Br (dc p) A B ⟨⟩ ⟨⟩ := br_dc (fun n => absurd n h) fun _ => k
theorem enumD_get {ds : List D} {i : Nat} {x : D} (h : (enumD ds)[i]? = some x) : ∃ d, ds[i]? = some d ∧ x = .tup [.int i, d] := by
  unfold enumD at h
  rw [List.getElem?_mapIdx] at h
  obtain ⟨d, e, rfl⟩ := Option.map_eq_some_iff.mp h
  exact ⟨d, e, rfl⟩
theorem for_enum {ds : List D} {g : ATG} {tb : ATS} {as : ASt} {s : Ah} {A : AEnds} (P : Nat → ASt → Ah → Prop) (h0 : CvP (P 0) as s)
    (hs : ∀ i d as s, ds[i]? = some d → P i as s → g (.tup [.int i, d]) as s fun as' s' => tb { A with nx := CvP (P (i + 1)), ct := CvP (P (i + 1)), bk := A.nx } as' s') (hd : ∀ as s, P ds.length as s → A.nx as s) : AskFor (enumD ds) tt_ g tb as s A ⟨⟩ :=
  ⟨P, h0, fun _ _ _ _ _ => trivial, fun i x as s e p => by obtain ⟨d, e1, rfl⟩ := enumD_get e; exact hs i d as s e1 p, by rw [show (enumD ds).length = ds.length by simp [enumD]]; exact hd⟩
theorem ints_get {ns : List Int} {i : Nat} {d : D} (h : (ns.map D.int)[i]? = some d) : ∃ c, ns[i]? = some c ∧ d = .int c := by
  rw [List.getElem?_map] at h
  obtain ⟨c, e, rfl⟩ := Option.map_eq_some_iff.mp h
  exact ⟨c, e, rfl⟩
theorem ints_app {ns ms : List Int} : ns.map D.int ++ ms.map D.int = (ns ++ ms).map D.int := by rw [List.map_append]
theorem good_fork {sh : Sh} {a b : Nat} (g : sh.good (.fork a b)) : (sh.hasP (a : Int) ∧ sh.hasP (b : Int)) ∧ ¬ sh.loose a b ∧ sh.level a b ∧ (sh.m a).txt.length + (sh.m b).txt.length ≤ most := by
  obtain ⟨⟨a0, a1⟩, ⟨b0, b1⟩, k, l1, l2, sz⟩ := g
  exact ⟨⟨⟨by omega, by omega⟩, ⟨by omega, by omega⟩⟩, by unfold Sh.loose; omega, ⟨l1, l2⟩, sz⟩
theorem rgc_5 {i j : Int} (h1 : 0 ≤ i) (h2 : i ≤ 1000000) (h3 : 0 ≤ j) (h4 : j ≤ 1000000) : RgC i j 5 ((j - i + 4) / 5).toNat := by
  have e : Builtin.Range.rangeSize i j 5 = (((j - i + 4) / 5).toNat : Int) := by
    unfold Builtin.Range.rangeSize
    simp only [show (5 : Int) > 0 by decide, if_true]
    split <;> omega
  refine ⟨by decide, by decide, ?_, e⟩
  unfold Builtin.Range.small
  rw [e]
  simp only [Builtin.Range.rangeFitsLong, Bool.and_eq_true, Bool.or_eq_true, decide_eq_true_eq, beq_iff_eq, show (5 : Int) > 0 by decide, if_true]
  omega
theorem rgc_8 {i j : Int} (h1 : 0 ≤ i) (h2 : i ≤ 1000000) (h3 : 0 ≤ j) (h4 : j ≤ 1000000) : RgC i j 8 ((j - i + 7) / 8).toNat := by
  have e : Builtin.Range.rangeSize i j 8 = (((j - i + 7) / 8).toNat : Int) := by
    unfold Builtin.Range.rangeSize
    simp only [show (8 : Int) > 0 by decide, if_true]
    split <;> omega
  refine ⟨by decide, by decide, ?_, e⟩
  unfold Builtin.Range.small
  rw [e]
  simp only [Builtin.Range.rangeFitsLong, Bool.and_eq_true, Bool.or_eq_true, decide_eq_true_eq, beq_iff_eq, show (8 : Int) > 0 by decide, if_true]
  omega
theorem rngC_get {lo c : Int} {n i : Nat} {d : D} (h : (rngC lo c n)[i]? = some d) : i < n ∧ d = .int (lo + i * c) := by
  unfold rngC at h
  rw [List.getElem?_map] at h
  obtain ⟨j, e, rfl⟩ := Option.map_eq_some_iff.mp h
  obtain ⟨hi, e⟩ := List.getElem?_eq_some_iff.mp e
  rw [List.getElem_range] at e
  subst e
  rw [List.length_range] at hi
  exact ⟨hi, rfl⟩
theorem for_rngC {lo c : Int} {n : Nat} {g : ATG} {tb : ATS} {as : ASt} {s : Ah} {A : AEnds} (P : Nat → ASt → Ah → Prop) (h0 : CvP (P 0) as s)
    (hs : ∀ i as s, i < n → P i as s → g (.int (lo + i * c)) as s fun as' s' => tb { A with nx := CvP (P (i + 1)), ct := CvP (P (i + 1)), bk := A.nx } as' s') (hd : ∀ as s, P n as s → A.nx as s) : AskFor (rngC lo c n) tt_ g tb as s A ⟨⟩ :=
  ⟨P, h0, fun _ _ _ _ _ => trivial, fun i d as s e p => by obtain ⟨hi, rfl⟩ := rngC_get e; exact hs i as s hi p, by rw [show (rngC lo c n).length = n by simp [rngC]]; exact hd⟩
theorem ints_at {ns : List Int} {i : Int} (h0 : 0 ≤ i) (h1 : i < ns.length) : ∃ v, atI (ns.map D.int) i = some (.int v) := by
  have h : i.toNat < ns.length := by omega
  exact ⟨ns[i.toNat], atI_n h0 (by rw [List.getElem?_map, List.getElem?_eq_getElem h]; rfl)⟩
theorem cut_take {α : Type} {l : List α} (n : Nat) : cut l none (some (n : Int)) = l.take n := by
  unfold cut
  rw [HT.sIx_none, HT.sIx_nat, List.drop_zero, Nat.sub_zero]
  by_cases h : n ≤ l.length
  · rw [Nat.min_eq_left h]
  · rw [Nat.min_eq_right (by omega), List.take_of_length_le (Nat.le_refl _), List.take_of_length_le (by omega)]
theorem powle {B : Int} (h : 1 ≤ B) (i : Nat) : ∀ d : Nat, 1 ≤ B ^ i ∧ B ^ i ≤ B ^ (i + d)
  | 0 => by
    refine ⟨?_, Int.le_refl _⟩
    induction i with
    | zero => rw [Int.pow_zero]; exact Int.le_refl _
    | succ i ih =>
      rw [Int.pow_succ]
      have := Int.mul_le_mul_of_nonneg_left h (show (0 : Int) ≤ B ^ i by omega)
      omega
  | d + 1 => by
    obtain ⟨h1, h2⟩ := powle h i d
    refine ⟨h1, ?_⟩
    rw [show i + (d + 1) = (i + d) + 1 by omega, Int.pow_succ]
    have := Int.mul_le_mul_of_nonneg_left h (show (0 : Int) ≤ B ^ (i + d) by omega)
    omega
theorem powle' {B : Int} (h : 1 ≤ B) {i j : Nat} (l : i ≤ j) : B ^ i ≤ B ^ j := by
  have := (powle h i (j - i)).2
  rwa [show i + (j - i) = j by omega] at this
theorem digB {B c v : Int} {i : Nat} (hB : 0 < B) (c0 : 0 ≤ c) (c1 : c < B ^ i) : 0 ≤ c * B + v % B ∧ c * B + v % B < B ^ (i + 1) := by
  rw [Int.pow_succ]
  have h1 : (c + 1) * B ≤ B ^ i * B := Int.mul_le_mul_of_nonneg_right c1 (Int.le_of_lt hB)
  have h2 := Int.emod_nonneg v (Int.ne_of_gt hB)
  have h3 := Int.emod_lt_of_pos v hB
  have h4 := Int.mul_nonneg c0 (Int.le_of_lt hB)
  rw [Int.add_mul] at h1
  omega
theorem sum_bd {l : List Int} {f : Int → Int} {b : Int} (h : ∀ x, 0 ≤ f x ∧ f x ≤ b) : 0 ≤ (l.map f).sum ∧ (l.map f).sum ≤ b * l.length := by
  induction l with
  | nil => simp
  | cons x l ih =>
    have := h x
    rw [List.map_cons, List.sum_cons, List.length_cons]
    rw [show b * ((l.length + 1 : Nat) : Int) = b * l.length + b by rw [Int.natCast_add, Int.mul_add]; simp]
    omega
theorem joinL_nil : ∀ l : List (List Nat), TL.joinL [] l = l.flatten
  | [] => rfl
  | [p] => by simp [TL.joinL]
  | p :: q :: r => by
    show p ++ ([] ++ TL.joinL [] (q :: r)) = _
    rw [joinL_nil (q :: r)]
    rfl
theorem strsD_one (zs : List Nat) : strsD (zs.map fun z => D.str [z]) = some (zs.map fun z => [z]) := by
  induction zs with
  | nil => rfl
  | cons z zs ih => show (strsD _).map _ = _; rw [ih]; rfl
theorem join_one (zs : List Nat) : TL.joinL [] (zs.map fun z => [z]) = zs := by
  rw [joinL_nil]
  induction zs with
  | nil => rfl
  | cons z zs ih => rw [List.map_cons, List.flatten_cons, ih]; rfl
theorem sum_one (zs : List Nat) : ((zs.map fun z => [z]).map List.length).sum = zs.length := by
  induction zs with
  | nil => rfl
  | cons z zs ih => rw [List.map_cons, List.map_cons, List.sum_cons, ih, List.length_cons]; simp; omega
end Sk
namespace Sk
open PySem PySem.Spec PyProof.Rows L2
/-! ### least leaves and signs -/
def fibs : Nat → Nat × Nat
  | 0 => (1, 2)
  | n + 1 => ((fibs n).2, (fibs n).1 + (fibs n).2)
theorem fibs_pos : ∀ n, 1 ≤ (fibs n).1 ∧ 2 ≤ (fibs n).2
  | 0 => ⟨by decide, by decide⟩
  | n + 1 => by
    obtain ⟨h1, h2⟩ := fibs_pos n
    simp only [fibs]
    omega
def leastL (n : Nat) : Nat := (fibs n).1
def leastS (n : Nat) : Nat := 9 * (leastL n / 2) + leastL n % 2
theorem leastL_two (n : Nat) : leastL (n + 2) = leastL (n + 1) + leastL n := by
  simp only [leastL, fibs]
  omega
theorem leastL_pos (n : Nat) : 1 ≤ leastL n := (fibs_pos n).1
theorem leastL_step (n : Nat) : leastL n + 1 ≤ leastL (n + 1) := by
  induction n with
  | zero => decide
  | succ n ih =>
    rw [leastL_two]
    have := leastL_pos n
    omega
theorem leastS_step (n : Nat) : leastS n < leastS (n + 1) := by
  have := leastL_step n
  unfold leastS
  omega
theorem leastS_le {n m : Nat} (h : n ≤ m) : leastS n ≤ leastS m := by
  induction m with
  | zero => obtain rfl : n = 0 := by omega
            exact Nat.le_refl _
  | succ m ih =>
    by_cases e : n = m + 1
    · subst e; exact Nat.le_refl _
    · exact Nat.le_trans (ih (by omega)) (Nat.le_of_lt (leastS_step m))
theorem leastS_lt {n m : Nat} (h : leastS n < leastS m) : n < m := by
  by_cases e : m ≤ n
  · have := leastS_le e
    omega
  · omega
theorem leastS_pos (n : Nat) : 1 ≤ leastS n := leastS_le (Nat.zero_le n)
theorem leastS_150 : 10 ^ 31 < leastS 150 := by decide +kernel
theorem leastS_82 : leastS 82 ≤ most := by decide +kernel
def p_least_leaves : ASp
  | [.int n], s, Q, _ => Rq (0 ≤ n ∧ n ≤ 1000) (Q (.int (leastL n.toNat)) s) ⟨⟩
  | _, _, _, _ => False
def p_least_signs : ASp
  | [.int n], s, Q, _ => Rq (0 ≤ n ∧ n ≤ 1000) (Q (.int (leastS n.toNat)) s) ⟨⟩
  | _, _, _, _ => False
/-- the most height: the one h -/
def MhOk (n : Int) : Prop := 1 ≤ n ∧ n < 10 ^ 31
theorem mhOk {n : Int} (h : 1 ≤ n) (k : n ≤ 2 * (most : Int)) : MhOk n := ⟨h, by unfold most at k; omega⟩
def p_most_height : ASp
  | [.int n], s, Q, _ => Rq (MhOk n) (∀ h : Nat, h < 150 → (leastS h : Int) ≤ n → n < leastS (h + 1) → Q (.int h) s) ⟨⟩
  | _, _, _, _ => False
end Sk
namespace Sk
open PySem PySem.Spec PyProof.Rows L2
/-! ### texts of leaves of one and of eight signs by turns -/
def nxt (n : Nat) (c : Bool) : Bool := if n % 2 = 0 then c else !c
def sgA (n : Nat) (c : Bool) : Nat := if c then 9 * (n / 2) + n % 2 else 9 * (n / 2) + 8 * (n % 2)
def fil (c : Bool) : Nat := if c then 1 else 8
structure Alt (sh : Sh) (t n : Nat) (h : Int) (c : Bool) : Prop where
  t0 : 0 < t
  tn : t ≤ sh.n
  ht : (sh.m t).ht = h
  lv : (sh.m t).lv = n
  sg : (sh.m t).txt.length = sgA n c
  fi : (sh.m (sh.m t).fi).txt.length = fil c
  la : (sh.m (sh.m t).la).txt.length = fil (!(nxt n c))
theorem Alt.ext {sh sh' : Sh} {t n : Nat} {h : Int} {c : Bool} (a : Alt sh t n h c) (ok : sh.Ok) (e : Ext sh sh') : Alt sh' t n h c := by
  have f1 := ok.fi_le a.tn
  have f2 := ok.la_le a.tn
  have tn := a.tn
  refine ⟨a.t0, by have := e.n; omega, ?_, ?_, ?_, ?_, ?_⟩
  · rw [e.m ok tn]; exact a.ht
  · rw [e.m ok tn]; exact a.lv
  · rw [e.m ok tn]; exact a.sg
  · rw [e.m ok tn, e.m ok (by omega)]; exact a.fi
  · rw [e.m ok tn, e.m ok (by omega)]; exact a.la
theorem put_m {s : Sh} (ok : s.Ok) {a b : Nat} (g : s.good (.fork a b)) : (s.put (.fork a b)).2.m (s.put (.fork a b)).1 = ⟨(s.m a).txt ++ (s.m b).txt, (s.m a).lv + (s.m b).lv, 1 + max (s.m a).ht (s.m b).ht, (s.m a).fi, (s.m b).la⟩ := by
  have p := put_at ok g
  have e := Ext.put s (.fork a b)
  cases p with
  | fork _ _ _ _ _ _ _ _ _ m =>
    rw [m, e.m ok g.1.2, e.m ok g.2.1.2]
theorem Alt.good {sh : Sh} {a b n m : Nat} {h h' : Int} {c : Bool} (A : Alt sh a n h c) (B : Alt sh b m h' (nxt n c)) (l1 : h - h' ≤ 1) (l2 : h' - h ≤ 1) (sz : 9 * (n + m) + 20 ≤ 2 * most) : ¬ sh.loose a b ∧ sh.level a b ∧ (sh.m a).txt.length + (sh.m b).txt.length ≤ most ∧ sh.good (.fork a b) := by
  have s1 := A.sg
  have s2 := B.sg
  have k : 8 < (sh.m (sh.m a).la).txt.length + (sh.m (sh.m b).fi).txt.length := by
    rw [A.la, B.fi]
    cases nxt n c <;> decide
  have sz' : (sh.m a).txt.length + (sh.m b).txt.length ≤ most := by
    rw [s1, s2]
    unfold sgA nxt
    cases c <;> rcases Nat.mod_two_eq_zero_or_one n with e | e <;> rcases Nat.mod_two_eq_zero_or_one m with e' | e' <;> simp [e, e'] <;> omega
  have lv : sh.level a b := by unfold Sh.level; rw [A.ht, B.ht]; exact ⟨l1, l2⟩
  exact ⟨by unfold Sh.loose; omega, lv, sz', ⟨A.t0, A.tn⟩, ⟨B.t0, B.tn⟩, k, lv.1, lv.2, sz'⟩
theorem Alt.fork {sh : Sh} (ok : sh.Ok) {a b n m : Nat} {h h' : Int} {c : Bool} (A : Alt sh a n h c) (B : Alt sh b m h' (nxt n c)) (l1 : h - h' ≤ 1) (l2 : h' - h ≤ 1) (sz : 9 * (n + m) + 20 ≤ 2 * most) : Alt (sh.put (.fork a b)).2 (sh.put (.fork a b)).1 (n + m) (1 + max h h') c := by
  have g := (A.good B l1 l2 sz).2.2.2
  have e := Ext.put sh (.fork a b)
  have A' := A.ext ok e
  have B' := B.ext ok e
  have mm := put_m ok g
  have ea := e.m ok A.tn
  have eb := e.m ok B.tn
  refine ⟨put_pos _ _, put_le _ _, ?_, ?_, ?_, ?_, ?_⟩
  · rw [mm]; show 1 + max _ _ = _; rw [A.ht, B.ht]
  · rw [mm]; show _ + _ = _; rw [A.lv, B.lv]
  · rw [mm]
    show (List.length (_ ++ _)) = _
    rw [List.length_append, A.sg, B.sg]
    unfold sgA nxt
    cases c <;> rcases Nat.mod_two_eq_zero_or_one n with e | e <;> rcases Nat.mod_two_eq_zero_or_one m with e' | e' <;> simp [e, e'] <;> omega
  · rw [mm]; have := A'.fi; rw [ea] at this; exact this
  · rw [mm]; have := B'.la; rw [eb] at this
    rw [show (sh.put (.fork a b)).2.m _ = (sh.put (.fork a b)).2.m (sh.m b).la from rfl, this]
    unfold nxt
    cases c <;> rcases Nat.mod_two_eq_zero_or_one n with e | e <;> rcases Nat.mod_two_eq_zero_or_one m with e' | e' <;> simp [e, e', Nat.add_mod]
theorem put_ext {s S : Sh} {q : Pc} (h : Ext (s.put q).2 S) : S.put q = ((s.put q).1, S) := by
  have hm : q ∈ (s.put q).2.ps := mem_put.mpr (.inr rfl)
  obtain ⟨⟨r, er⟩, _⟩ := h
  have hm' : q ∈ S.ps := er ▸ List.mem_append_left _ hm
  have pp := congrArg Prod.fst (put_put (s := s) (q := q))
  have pp2 : (s.put q).2.put q = ((s.put q).2.ps.idxOf q + 1, (s.put q).2) := by
    show (if _ then _ else _) = _
    rw [if_pos hm]
  rw [pp2] at pp
  show (if _ then _ else _) = _
  rw [if_pos hm', ← er, List.idxOf_append, if_pos hm]
  exact Prod.ext pp rfl
/-! ### the leanest texts -/
def zo : List Nat := [111]
def zl : List Nat := [111, 111, 111, 111, 111, 111, 111, 119]
abbrev Row := List (Nat × Nat)
def rw0 : Nat × Nat := (0, 0)
def pick (R : Row) : Nat × Nat := if R.length = 1 then ((R.getD 0 rw0).2, (R.getD 0 rw0).1) else if leastL (R.length - 1) % 2 = 0 then R.getD (R.length - 2) rw0 else ((R.getD (R.length - 2) rw0).2, (R.getD (R.length - 2) rw0).1)
def qa (R : Row) : Pc := .fork (R.getD (R.length - 1) rw0).1 (pick R).1
def qb (R : Row) : Pc := .fork (R.getD (R.length - 1) rw0).2 (pick R).2
def lstep (S : Sh × Row) : Sh × Row := (((S.1.put (qa S.2)).2.put (qb S.2)).2, S.2 ++ [((S.1.put (qa S.2)).1, ((S.1.put (qa S.2)).2.put (qb S.2)).1)])
def lrun (sh : Sh) : Nat → Sh × Row
  | 0 => (((sh.put (.leaf zo)).2.put (.leaf zl)).2, [((sh.put (.leaf zo)).1, ((sh.put (.leaf zo)).2.put (.leaf zl)).1)])
  | h + 1 => lstep (lrun sh h)
theorem lrun_len (sh : Sh) : ∀ h, (lrun sh h).2.length = h + 1
  | 0 => rfl
  | h + 1 => by
    show (_ ++ [_]).length = _
    rw [List.length_append, lrun_len sh h]
    rfl
structure LR (sh : Sh) (R : Row) (k : Nat) : Prop where
  ok : sh.Ok
  len : R.length = k
  alt : ∀ i < k, Alt sh (R.getD i rw0).1 (leastL i) i true ∧ Alt sh (R.getD i rw0).2 (leastL i) i false
theorem getD_app_lt {α : Type} {l r : List α} {i : Nat} {d : α} (h : i < l.length) : (l ++ r).getD i d = l.getD i d := by
  rw [List.getD_eq_getElem?_getD, List.getD_eq_getElem?_getD, List.getElem?_append_left h]
theorem getD_app_eq {α : Type} {l : List α} {x d : α} {i : Nat} (h : i = l.length) : (l ++ [x]).getD i d = x := by
  subst h
  rw [List.getD_eq_getElem?_getD, List.getElem?_append_right (Nat.le_refl _)]
  simp
theorem leastL_le {n m : Nat} (h : n ≤ m) : leastL n ≤ leastL m := by
  induction m with
  | zero => obtain rfl : n = 0 := by omega
            exact Nat.le_refl _
  | succ m ih =>
    by_cases e : n = m + 1
    · subst e; exact Nat.le_refl _
    · have := leastL_step m
      have := ih (by omega)
      omega
theorem leastL_82 : 9 * leastL 82 + 20 ≤ 2 * most := by decide +kernel
/-- what the parts of the next row's forks are -/
theorem LR.parts {sh : Sh} {R : Row} {k : Nat} (r : LR sh R k) (k0 : 0 < k) : ∃ (n m : Nat) (h' : Int), n = leastL (k - 1) ∧ n + m = leastL k ∧ 1 + max ((k - 1 : Nat) : Int) h' = k ∧ ((k - 1 : Nat) : Int) - h' ≤ 1 ∧ h' - ((k - 1 : Nat) : Int) ≤ 1 ∧
    Alt sh (R.getD (k - 1) rw0).1 n ((k - 1 : Nat) : Int) true ∧ Alt sh (pick R).1 m h' (nxt n true) ∧ Alt sh (R.getD (k - 1) rw0).2 n ((k - 1 : Nat) : Int) false ∧ Alt sh (pick R).2 m h' (nxt n false) := by
  obtain ⟨a1, a2⟩ := r.alt (k - 1) (by omega)
  by_cases e : k = 1
  · subst e
    refine ⟨1, 1, 0, by decide, by decide, by decide, by decide, by decide, a1, ?_, a2, ?_⟩
    · unfold pick; rw [if_pos r.len]; exact a2
    · unfold pick; rw [if_pos r.len]; exact a1
  · obtain ⟨j, rfl⟩ : ∃ j, k = j + 2 := ⟨k - 2, by omega⟩
    obtain ⟨b1, b2⟩ := r.alt j (by omega)
    have hl := r.len
    refine ⟨leastL (j + 1), leastL j, j, rfl, (leastL_two j).symm, by omega, by omega, by omega, a1, ?_, a2, ?_⟩
    · unfold pick nxt
      rw [if_neg (by omega), hl]
      by_cases c : leastL (j + 1) % 2 = 0
      · rw [if_pos c, if_pos (by exact c)]; exact b1
      · rw [if_neg c, if_neg (by exact c)]; exact b2
    · unfold pick nxt
      rw [if_neg (by omega), hl]
      by_cases c : leastL (j + 1) % 2 = 0
      · rw [if_pos c, if_pos (by exact c)]; exact b2
      · rw [if_neg c, if_neg (by exact c)]; exact b1
theorem LR.step {sh : Sh} {R : Row} {k : Nat} (r : LR sh R k) (k0 : 0 < k) (k1 : k ≤ 82) : sh.good (qa R) ∧ (sh.put (qa R)).2.good (qb R) ∧ LR (lstep (sh, R)).1 (lstep (sh, R)).2 (k + 1) := by
  obtain ⟨n, m, h', en, em, eh, l1, l2, A, B, A2, B2⟩ := r.parts k0
  have hl := r.len
  have sz : 9 * (n + m) + 20 ≤ 2 * most := by
    rw [em]
    have := leastL_le k1
    have := leastL_82
    omega
  have eA : qa R = .fork (R.getD (k - 1) rw0).1 (pick R).1 := by unfold qa; rw [hl]
  have eB : qb R = .fork (R.getD (k - 1) rw0).2 (pick R).2 := by unfold qb; rw [hl]
  have e1 := Ext.put sh (qa R)
  have g1 := (A.good B l1 l2 sz).2.2.2
  rw [← eA] at g1
  have ok1 := r.ok.put g1
  have A2' := A2.ext r.ok e1
  have B2' := B2.ext r.ok e1
  have g2 := (A2'.good B2' l1 l2 sz).2.2.2
  rw [← eB] at g2
  have e2 := Ext.put (sh.put (qa R)).2 (qb R)
  have F1 := Alt.fork r.ok A B l1 l2 sz
  rw [← eA, em, eh] at F1
  have F2 := Alt.fork ok1 A2' B2' l1 l2 sz
  rw [← eB, em, eh] at F2
  refine ⟨g1, g2, ok1.put g2, by show (_ ++ [_]).length = _; rw [List.length_append, hl]; rfl, fun i hi => ?_⟩
  show Alt ((sh.put (qa R)).2.put (qb R)).2 ((R ++ [_]).getD i rw0).1 _ _ _ ∧ Alt _ ((R ++ [_]).getD i rw0).2 _ _ _
  by_cases e : i = k
  · subst e
    rw [getD_app_eq hl.symm]
    exact ⟨F1.ext ok1 e2, F2⟩
  · rw [getD_app_lt (by omega)]
    obtain ⟨c1, c2⟩ := r.alt i (by omega)
    exact ⟨c1.ext r.ok (e1.trans e2), c2.ext r.ok (e1.trans e2)⟩
theorem put_m_leaf {s : Sh} (ok : s.Ok) {z : List Nat} (g : s.good (.leaf z)) : (s.put (.leaf z)).2.m (s.put (.leaf z)).1 = ⟨z, 1, 0, (s.put (.leaf z)).1, (s.put (.leaf z)).1⟩ := At.m_leaf (put_at ok g)
theorem Alt.leaf {s : Sh} (ok : s.Ok) {z : List Nat} (g : s.good (.leaf z)) {c : Bool} (h : z.length = fil c) : Alt (s.put (.leaf z)).2 (s.put (.leaf z)).1 1 0 c := by
  have m := put_m_leaf ok g
  refine ⟨put_pos _ _, put_le _ _, by rw [m], by rw [m], ?_, ?_, ?_⟩
  · rw [m]; show z.length = _; rw [h]; cases c <;> decide
  · rw [m]; dsimp only; rw [m]; exact h
  · rw [m]; dsimp only; rw [m]; show z.length = _; rw [h]; cases c <;> decide
theorem good_zo {s : Sh} : s.good (.leaf zo) := ⟨by intro c hc; simp [zo] at hc; subst hc; exact .inl (by decide), by decide, by decide⟩
theorem good_zl {s : Sh} : s.good (.leaf zl) := ⟨by intro c hc; simp [zl] at hc; rcases hc with rfl | rfl <;> exact .inl (by decide), by decide, by decide⟩
theorem lrun_ok {sh : Sh} (ok : sh.Ok) : ∀ h, h ≤ 82 → LR (lrun sh h).1 (lrun sh h).2 (h + 1) ∧ Ext sh (lrun sh h).1 ∧ (lrun sh h).1.n ≤ sh.n + 2 + 2 * h
  | 0, _ => by
    have ok1 := ok.put (good_zo (s := sh))
    have e1 := Ext.put sh (.leaf zo)
    have e2 := Ext.put (sh.put (.leaf zo)).2 (.leaf zl)
    refine ⟨⟨ok1.put good_zl, rfl, fun i hi => ?_⟩, e1.trans e2, ?_⟩
    · obtain rfl : i = 0 := by omega
      exact ⟨(Alt.leaf ok good_zo rfl).ext ok1 e2, Alt.leaf ok1 good_zl rfl⟩
    · have := put_n sh (.leaf zo)
      have := put_n (sh.put (.leaf zo)).2 (.leaf zl)
      show ((sh.put (.leaf zo)).2.put (.leaf zl)).2.n ≤ _
      omega
  | h + 1, hh => by
    obtain ⟨r, e, n⟩ := lrun_ok ok h (by omega)
    obtain ⟨g1, g2, r'⟩ := r.step (by omega) (by omega)
    refine ⟨r', e.trans ((Ext.put _ _).trans (Ext.put _ _)), ?_⟩
    have := put_n (lrun sh h).1 (qa (lrun sh h).2)
    have := put_n ((lrun sh h).1.put (qa (lrun sh h).2)).2 (qb (lrun sh h).2)
    show (((lrun sh h).1.put _).2.put _).2.n ≤ _
    omega
theorem lrun_ext {sh : Sh} (h : Nat) : Ext (lrun sh h).1 (lrun sh (h + 1)).1 := (Ext.put _ _).trans (Ext.put _ _)
/-- done again nothing comes -/
theorem lrun_again {sh S : Sh} : ∀ h, Ext (lrun sh h).1 S → lrun S h = (S, (lrun sh h).2)
  | 0, e => by
    have e1 : Ext (sh.put (.leaf zo)).2 S := (Ext.put _ _).trans e
    show (((S.put (.leaf zo)).2.put (.leaf zl)).2, [((S.put (.leaf zo)).1, ((S.put (.leaf zo)).2.put (.leaf zl)).1)]) = _
    rw [put_ext e1]
    dsimp only
    rw [put_ext e]
    rfl
  | h + 1, e => by
    have ih := lrun_again h ((lrun_ext h).trans e)
    show lstep (lrun S h) = _
    rw [ih]
    have e1 : Ext ((lrun sh h).1.put (qa (lrun sh h).2)).2 S := (Ext.put _ _).trans e
    have e2 : Ext (((lrun sh h).1.put (qa (lrun sh h).2)).2.put (qb (lrun sh h).2)).2 S := e
    show (((S.put (qa (lrun sh h).2)).2.put (qb (lrun sh h).2)).2, (lrun sh h).2 ++ [((S.put (qa (lrun sh h).2)).1, ((S.put (qa (lrun sh h).2)).2.put (qb (lrun sh h).2)).1)]) = _
    rw [put_ext e1]
    dsimp only
    rw [put_ext e2]
    rfl
def leanN (sh : Sh) (h : Nat) : Nat := ((lrun sh h).2.getD h rw0).1
theorem lean_alt {sh : Sh} (ok : sh.Ok) {h : Nat} (hh : h ≤ 82) : Alt (lrun sh h).1 (leanN sh h) (leastL h) h true := ((lrun_ok ok h hh).1.alt h (by omega)).1
theorem sgA_least (h : Nat) : sgA (leastL h) true = leastS h := by unfold sgA leastS; rfl
def p_leanest : ASp
  | [.ref x, .int h], s, Q, _ => opt (shO (s x)) (fun r => Rq (0 ≤ h ∧ h ≤ 82 ∧ r.2.n < 15000000 ∧ r.2.Ok) (Q (.int (leanN r.2 h.toNat)) (aup s x (.shf r.1 (lrun r.2 h.toNat).1))) ⟨⟩) ⟨⟩
  | _, _, _, _ => False
def rowD (R : Row) : List D := R.map fun p => .tup [.int p.1, .int p.2]
theorem rowD_at {R : Row} {i : Int} (h0 : 0 ≤ i) (h1 : i < R.length) : atI (rowD R) i = some (.tup [.int (R.getD i.toNat rw0).1, .int (R.getD i.toNat rw0).2]) := by
  refine atI_n h0 ?_
  have h : i.toNat < R.length := by omega
  unfold rowD
  rw [List.getElem?_map, List.getElem?_eq_getElem h, List.getD_eq_getElem?_getD, List.getElem?_eq_getElem h]
  rfl
theorem rowD_app {R : Row} {a b : Nat} : rowD R ++ [.tup [.int a, .int b]] = rowD (R ++ [(a, b)]) := by simp [rowD]
end Sk
namespace Sk
open PySem PySem.Spec PyProof.Rows L2
def mixedS (cell k : Int) : Int := (((cell % 1000000007 + 7919 * k + 1) * 48271 % 2147483647) * ((cell % 1000000007 + 7919 * k + 1) * 48271 % 2147483647) % 2147483629 * 69621) % 2147483647
theorem mixedS_lt (c k : Int) : 0 ≤ mixedS c k ∧ mixedS c k < 2147483647 := by unfold mixedS; omega
theorem ltp {f m : Int} {i : Nat} (h : f < 2147483647 ^ i) (h2 : m < 2147483647) : f * 2147483647 + m < 2147483647 ^ (i + 1) := by
  rw [Int.pow_succ]
  have : (f + 1) * 2147483647 ≤ 2147483647 ^ i * 2147483647 := Int.mul_le_mul_of_nonneg_right h (by decide)
  omega
def p_mixed : ASp
  | [.int c, .int k], s, Q, _ => Rq (0 ≤ k ∧ k ≤ 10 ^ 9) (Q (.int (mixedS c k)) s) ⟨⟩
  | _, _, _, _ => False
def p_digit : ASp
  | [.ref st, .int m], s, Q, _ => opt (strm (s st)) (fun c => Rq (0 ≤ c ∧ 0 < m ∧ m < 10 ^ 40) (Q (.int (c % m)) (aup s st (.lst [.int (c / m)]))) ⟨⟩) ⟨⟩
  | _, _, _, _ => False
end Sk
local macro_rules | `(tactic| walk_at "go12") => `(tactic| repeat (first | walk_at "sg1" | simp -dsimp -implicitDefEqProofs only [Sk.Ask, Sk.fl_pieces, Sk.fl_numbers, Sk.fl_signs, Sk.fl_ends, Sk.fl_leaves, Sk.fl_heights, Sk.fl_firsts, Sk.fl_lasts, Sk.fldA_r, Sk.recvO_i, Sk.p_is_plain, Sk.p_ends_in, Sk.p_many, Sk.p_ask, Sk.p_piece, Sk.p_leaf, Sk.p_fork, Sk.p_loose] | walk_at "sg2"))
local macro_rules | `(tactic| walk_at "st12") => `(tactic| simp -dsimp -implicitDefEqProofs only [Sk.Ask, Sk.p_wantp_o, Sk.p_laid_o, Sk.p_loose_o, Sk.p_Shelf])
namespace Sk
open PySem PySem.Spec PyProof.Rows L2
theorem ok_law_mixed {P : Program} {w : World} {K : PySem.W.Frag} {mg : Str → Option Value} {base : Heap} (T : Tx K mg) : Cal P w K mg base (0 + 1) "_law_mixed" ["cell", "k"] (spA K p_mixed) := by
  have nd := sc_law_mixed.nd
  refine calA T.fn_law_mixed T.glo_law_mixed sc_law_mixed (fun _ _ _ _ _ _ us hl => match us, hl with | [_, _], _ => rfl) (tl := [none]) rfl (by intro ds s Q E h; unfold p_mixed at h; split at h; rfl; exact h.elim) ⟨_, fun cdv A outer s H E hr => (as_cons (as_set (i := 2) nd rfl (Or.inl rfl) (ae_op op_mod sr_mod (ae_op op_mulAll sr_mul (ae_op op_addAll sr_add (ae_op op_addAll sr_add (ae_op op_mod sr_mod (av 0) ae_int) (ae_op op_mulAll sr_mul ae_int (av 1))) ae_int) ae_int) ae_int))
      (as_one (as_ret (ae_op op_mod sr_mod (ae_op op_mulAll sr_mul (ae_op op_mod sr_mod (ae_op op_mulAll sr_mul (av 2) (av 2)) ae_int) ae_int) ae_int)))), fun ds s Q E h => ?_⟩
  clear nd
  unfold p_mixed at h
  split at h
  case h_2 => exact h.elim
  rename_i c k
  obtain ⟨⟨k0, k1⟩, hq⟩ := h
  walk_at "go12"
end Sk
local macro_rules | `(tactic| walk_at "go13") => `(tactic| repeat (first | walk_at "sg1" | simp -dsimp -implicitDefEqProofs only [Sk.Ask, Sk.fl_pieces, Sk.fl_numbers, Sk.fl_signs, Sk.fl_ends, Sk.fl_leaves, Sk.fl_heights, Sk.fl_firsts, Sk.fl_lasts, Sk.fldA_r, Sk.recvO_i, Sk.p_is_plain, Sk.p_ends_in, Sk.p_many, Sk.p_ask, Sk.p_piece, Sk.p_leaf, Sk.p_fork, Sk.p_loose, Sk.p_mixed] | walk_at "sg2"))
local macro_rules | `(tactic| walk_at "st13") => `(tactic| simp -dsimp -implicitDefEqProofs only [Sk.Ask, Sk.p_wantp_o, Sk.p_laid_o, Sk.p_loose_o, Sk.p_Shelf])
namespace Sk
open PySem PySem.Spec PyProof.Rows L2
theorem ok_law_digit {P : Program} {w : World} {K : PySem.W.Frag} {mg : Str → Option Value} {base : Heap} (T : Tx K mg) : Cal P w K mg base (0 + 1) "_law_digit" ["row", "many"] (spA K p_digit) := by
  have nd := sc_law_digit.nd
  refine calA T.fn_law_digit T.glo_law_digit sc_law_digit (fun _ _ _ _ _ _ us hl => match us, hl with | [_, _], _ => rfl) (tl := [none]) rfl (by intro ds s Q E h; unfold p_digit at h; split at h; rfl; exact h.elim) ⟨_, fun cdv A outer s H E hr => (as_cons (as_set (i := 2) nd rfl (Or.inl rfl) (ae_op op_mod sr_mod (ae_ix (ix_all (Room.units1 hr)) sr_ix (av 0) ae_int (fun _ _ => rfl)) (av 1)))
      (as_cons (as_asg (ae_op op_fdivW sr_div (ae_ix (ix_all (Room.units1 hr)) sr_ix (av 0) ae_int (fun _ _ => rfl)) (av 1)) (ag_sub (W := W0) (av 0) ae_int (set_all (Room.units1 hr)) ss_all))
      (as_one (as_ret (av 2))))), fun ds s Q E h => ?_⟩
  clear nd
  unfold p_digit at h
  split at h
  case h_2 => exact h.elim
  rename_i st m
  obtain ⟨c, hc, ⟨h1, h2, h3⟩, hq⟩ := opt_of h
  have hst := strm_eq hc
  walk_at "go13"
def p_stream : ASp
  | [.scr ds, .int k], s, Q, _ => Rq ((∃ ns : List Int, ds = ns.map .int ∧ ns.length ≤ 63) ∧ 0 ≤ k ∧ k ≤ 10) (∀ p c, s p = none → 0 ≤ c → Q (.ref p) (aup s p (.lst [.int c]))) ⟨⟩
  | _, _, _, _ => False
end Sk
local macro_rules | `(tactic| walk_at "go14") => `(tactic| repeat (first | walk_at "sg1" | simp -dsimp -implicitDefEqProofs only [Sk.Ask, Sk.fl_pieces, Sk.fl_numbers, Sk.fl_signs, Sk.fl_ends, Sk.fl_leaves, Sk.fl_heights, Sk.fl_firsts, Sk.fl_lasts, Sk.fldA_r, Sk.recvO_i, Sk.p_is_plain, Sk.p_ends_in, Sk.p_many, Sk.p_ask, Sk.p_piece, Sk.p_leaf, Sk.p_fork, Sk.p_loose, Sk.p_mixed, Sk.p_digit] | walk_at "sg2"))
local macro_rules | `(tactic| walk_at "st14") => `(tactic| simp -dsimp -implicitDefEqProofs only [Sk.Ask, Sk.p_wantp_o, Sk.p_laid_o, Sk.p_loose_o, Sk.p_Shelf])
namespace Sk
open PySem PySem.Spec PyProof.Rows L2
theorem ok_law_stream {P : Program} {w : World} {K : PySem.W.Frag} {mg : Str → Option Value} {base : Heap} (T : Tx K mg) : Cal P w K mg base (1 + 1) "_law_stream" ["script", "k"] (spA K p_stream) := by
  have nd := sc_law_stream.nd
  have C_law_mixed := ok_law_mixed (P := P) (w := w) (base := base) T
  refine calA T.fn_law_stream T.glo_law_stream sc_law_stream (fun _ _ _ _ _ _ us hl => match us, hl with | [_, _], _ => rfl) (tl := [none, none, none, none]) rfl (by intro ds s Q E h; unfold p_stream at h; split at h; rfl; exact h.elim) ⟨_, fun cdv A outer s H E hr => (as_cons (as_set (i := 2) nd rfl (Or.inl rfl) ae_int)
      (as_cons (as_for (passes_of rfl) rfl (ai_rng3 (by rfl) T.free_range (aa_cons (av 1) (aa_cons (ae_bi call_lenAll srl_len T.free_len PySem.boot_len (aa_cons (av 0) aa_nil)) (aa_cons ae_int aa_nil)))) (ag_name (i := 3) nd rfl (Or.inl rfl)) (as_one (as_set (i := 2) nd rfl (Or.inl rfl) (ae_op op_addAll sr_add (ae_op op_mulAll sr_mul (av 2) (ae_op op_pow sr_pow ae_int ae_int)) (ae_op op_mod sr_mod (ae_ix (ix_all (Room.units1 hr)) sr_ix (av 0) (av 3) (fun _ _ => rfl)) (ae_op op_pow sr_pow ae_int ae_int))))))
      (as_cons (as_if (at_cmp op_ge sr_ge (av 2) (ae_op op_pow sr_pow ae_int ae_int) (nomark _)) (as_one (as_ret (ae_lstO (aa_cons (av 2) aa_nil)))) as_nil)
      (as_cons (as_set (i := 2) nd rfl (Or.inl rfl) (ae_op op_addAll sr_add (av 2) (ae_bi (cr_sum rfl) srl_sum T.free_sum bt_sum (aa_cons (ae_lc (own := [("one", 5)]) rfl nd (ai_any (av 0)) (blkOk_by (own := [("one", 5)]) (N := ["script", "k", "cell", "j", "found", "one"]) (sc := defScope s_law_stream) (by decide +kernel)) (by decide) (fun _ _ _ _ _ => (ag_name (i := 5) nd rfl (Or.inl rfl))) (fun _ _ _ _ _ => ats_nil) (fun _ _ _ _ _ => (ae_op op_mod sr_mod (av 5) (ae_op op_pow sr_pow ae_int ae_int)))) aa_nil))))
      (as_cons (as_set (i := 4) nd rfl (Or.inl rfl) ae_int)
      (as_cons (as_for (passes_of rfl) rfl (ai_rng1 (by rfl) T.free_range (aa_cons ae_int aa_nil)) (ag_name (i := 3) nd rfl (Or.inl rfl)) (as_one (as_set (i := 4) nd rfl (Or.inl rfl) (ae_op op_addAll sr_add (ae_op op_mulAll sr_mul (av 4) ae_int) (ae_call C_law_mixed (hr.mono (by first | omega | decide | exact Nat.le_refl _ | exact Nat.le_trans (by decide) (Nat.le_add_right _ _))) (takes_of rfl rfl rfl rfl) (aa_cons (ae_op op_addAll sr_add (ae_op op_addAll sr_add (av 2) (ae_op op_mulAll sr_mul ae_int (av 1))) (ae_bi call_lenAll srl_len T.free_len PySem.boot_len (aa_cons (av 0) aa_nil))) (aa_cons (av 3) aa_nil)))))))
      (as_one (as_ret (ae_lstO (aa_cons (ae_op op_fdivW sr_div (av 4) ae_int) aa_nil)))))))))), fun ds s Q E h => ?_⟩
  clear nd C_law_mixed
  unfold p_stream at h
  split at h
  case h_2 => exact h.elim
  rename_i ds k
  obtain ⟨⟨⟨ns, rfl, hl⟩, k0, k1⟩, hq⟩ := h
  walk_at "go14"
  have hn : (((ns.length : Int) - k + 4) / 5).toNat ≤ 13 := by omega
  refine ⟨_, rgc_5 k0 (by omega) (by omega) (by omega), ?_⟩
  refine for_rngC (fun i as s' => s' = s ∧ ∃ c v4 v5, as = [some (.scr (ns.map .int)), some (.int k), some (.int c), v4, v5, none] ∧ 0 ≤ c ∧ c < (10 ^ 60) ^ i) (.of ⟨rfl, _, _, _, rfl, by decide, by decide⟩) ?_ ?_
  · rintro i as s' hi ⟨rfl, c, v4, v5, rfl, c0, c1⟩
    obtain ⟨v, hv⟩ := ints_at (ns := ns) (i := k + i * 5) (by omega) (by omega)
    have hm : MulOk c 1000000000000000000000000000000000000000000000000000000000000 := mul_w 2600 200 (by
      have : c < (10 ^ 60) ^ 13 := Int.lt_of_lt_of_le c1 (powle' (by decide) (by omega))
      have h2 : ((10 : Int) ^ 60) ^ 13 < ((2 ^ 2600 : Nat) : Int) := by decide +kernel
      omega) (by decide +kernel)
    walk_at "go14"
    have := digB (v := v) (B := 10 ^ 60) (by decide) c0 c1
    exact .of ⟨rfl, _, _, _, rfl, this.1, this.2⟩
  · rintro as s' ⟨rfl, c, v4, v5, rfl, c0, c1⟩
    walk_at "go14"
    refine br_dec (fun h1 => ?_) (fun h1 => ?_)
    · walk_at "go14"
      exact CvR.of (hq _ _ ‹_› c0)
    walk_at "go14"
    refine alc_map (l := ns) (e := D.int) (v := fun one => .int (one % 1000000000000000000)) (by omega) trivial (fun one _ k hk => ?_) ?_
    · walk_at "go14"
    walk_at "go14"
    generalize c + (ns.map fun x => x % 1000000000000000000).sum = c2
    refine for_rng (fun i as s'' => s'' = s' ∧ ∃ f v3, as = [some (.scr (ns.map .int)), some (.int k), some (.int c2), v3, some (.int f), none] ∧ 0 ≤ f) (.of ⟨rfl, _, _, rfl, by decide⟩) ?_ ?_
    · rintro i as s'' hi ⟨rfl, f, v3, rfl, f0⟩
      walk_at "go14"
      have m := mixedS_lt (c2 + 1009 * k + ns.length) (0 + i)
      exact .of ⟨rfl, _, _, rfl, by omega⟩
    · rintro as s'' ⟨rfl, f, v3, rfl, f0⟩
      walk_at "go14"
      exact .of (hq _ _ ‹_› (by omega))
end Sk
namespace Sk
open PySem PySem.Spec PyProof.Rows L2
/-! ### drawn trees -/
structure Tree (sh : Sh) (t : Nat) (z : List Nat) (m : Nat) (h : Nat) (last : Nat) : Prop where
  t0 : 0 < t
  tn : t ≤ sh.n
  txt : (sh.m t).txt = z
  ht : (sh.m t).ht = h
  la : (sh.m (sh.m t).la).txt.length = m
  m1 : 1 ≤ m
  m8 : m ≤ 8
  fi : 8 < last + (sh.m (sh.m t).fi).txt.length
  len : z.length ≤ 8 * 2 ^ h
  len1 : 1 ≤ z.length
theorem Tree.ext {sh sh' : Sh} {t : Nat} {z : List Nat} {m h last : Nat} (a : Tree sh t z m h last) (ok : sh.Ok) (e : Ext sh sh') : Tree sh' t z m h last := by
  have f1 := ok.fi_le a.tn
  have f2 := ok.la_le a.tn
  have tn := a.tn
  refine ⟨a.t0, by have := e.n; omega, ?_, ?_, ?_, a.m1, a.m8, ?_, a.len, a.len1⟩
  · rw [e.m ok tn]; exact a.txt
  · rw [e.m ok tn]; exact a.ht
  · rw [e.m ok tn, e.m ok (by omega)]; exact a.la
  · rw [e.m ok tn, e.m ok (by omega)]; exact a.fi
theorem Tree.leaf {s : Sh} (ok : s.Ok) {z : List Nat} (g : s.good (.leaf z)) {last : Nat} (h : 8 < last + z.length) : Tree (s.put (.leaf z)).2 (s.put (.leaf z)).1 z z.length 0 last := by
  have m := put_m_leaf ok g
  refine ⟨put_pos _ _, put_le _ _, by rw [m], by rw [m]; rfl, ?_, g.2.1, g.2.2, ?_, by have := g.2.2; omega, g.2.1⟩
  · rw [m]; dsimp only; rw [m]
  · rw [m]; dsimp only; rw [m]; exact h
theorem pow_mono2 {a b : Nat} (h : a ≤ b) : 2 ^ a ≤ 2 ^ b := Nat.pow_le_pow_right (by decide) h
theorem Tree.good {s : Sh} {a b h1 h2 m m2 last : Nat} {z y : List Nat} (A : Tree s a z m h1 last) (B : Tree s b y m2 h2 m) (d1 : h1 ≤ h2 + 1) (d2 : h2 ≤ h1 + 1) (u : h1 ≤ 20) : ¬ s.loose a b ∧ s.level a b ∧ (s.m a).txt.length + (s.m b).txt.length ≤ most ∧ s.good (.fork a b) := by
  have k : 8 < (s.m (s.m a).la).txt.length + (s.m (s.m b).fi).txt.length := by rw [A.la]; exact B.fi
  have sz : (s.m a).txt.length + (s.m b).txt.length ≤ most := by
    rw [A.txt, B.txt]
    have l1 := A.len
    have l2 := B.len
    have e1 : 2 ^ h1 ≤ 2 ^ 21 := pow_mono2 (by omega)
    have e2 : 2 ^ h2 ≤ 2 ^ 21 := pow_mono2 (by omega)
    unfold most
    omega
  have lv : s.level a b := by unfold Sh.level; rw [A.ht, B.ht]; omega
  exact ⟨by unfold Sh.loose; omega, lv, sz, ⟨A.t0, A.tn⟩, ⟨B.t0, B.tn⟩, k, lv.1, lv.2, sz⟩
theorem Tree.fork {s : Sh} (ok : s.Ok) {a b h1 h2 m m2 last : Nat} {z y : List Nat} (A : Tree s a z m h1 last) (B : Tree s b y m2 h2 m) (d1 : h1 ≤ h2 + 1) (d2 : h2 ≤ h1 + 1) (u : h1 ≤ 20) : Tree (s.put (.fork a b)).2 (s.put (.fork a b)).1 (z ++ y) m2 (1 + max h1 h2) last := by
  have g := (A.good B d1 d2 u).2.2.2
  have e := Ext.put s (.fork a b)
  have A' := A.ext ok e
  have B' := B.ext ok e
  have mm := put_m ok g
  have ea := e.m ok A.tn
  have eb := e.m ok B.tn
  refine ⟨put_pos _ _, put_le _ _, ?_, ?_, ?_, B.m1, B.m8, ?_, ?_, ?_⟩
  · rw [mm]; show _ ++ _ = _; rw [A.txt, B.txt]
  · rw [mm]; show 1 + max _ _ = _; rw [A.ht, B.ht]; omega
  · rw [mm]; have := B'.la; rw [eb] at this; exact this
  · rw [mm]; have := A'.fi; rw [ea] at this; exact this
  · rw [List.length_append]
    have l1 := A.len
    have l2 := B.len
    have e1 : 2 ^ h1 ≤ 2 ^ (max h1 h2) := pow_mono2 (by omega)
    have e2 : 2 ^ h2 ≤ 2 ^ (max h1 h2) := pow_mono2 (by omega)
    rw [show 1 + max h1 h2 = max h1 h2 + 1 by omega, Nat.pow_succ]
    omega
  · rw [List.length_append]; have := A.len1; omega
/-- the heights of what has come -/
def Hts (S S' : Sh) (h : Nat) : Prop := ∀ u, S.n < u → u ≤ S'.n → (S'.m u).ht ≤ h
theorem Hts.refl {S : Sh} {h : Nat} : Hts S S h := fun u a b => by omega
theorem Hts.trans {S S1 S2 : Sh} {h h' k : Nat} (ok1 : S1.Ok) (e : Ext S1 S2) (a : Hts S S1 h) (b : Hts S1 S2 h') (l1 : h ≤ k) (l2 : h' ≤ k) : Hts S S2 k := fun u u1 u2 => by
  by_cases c : u ≤ S1.n
  · rw [e.m ok1 c]; have := a u u1 c; omega
  · have := b u (by omega) u2; omega
theorem Hts.put {S : Sh} {q : Pc} {h : Nat} (hm : ((S.put q).2.m (S.put q).1).ht ≤ h) : Hts S (S.put q).2 h := fun u u1 u2 => by
  have n1 := put_n S q
  by_cases c : q ∈ S.ps
  · unfold Sh.put at u2; rw [if_pos c] at u2; exact absurd u2 (by show ¬ u ≤ S.n; omega)
  · obtain ⟨a, b⟩ := put_new_n c
    have : u = (S.put q).1 := by omega
    rw [this]; exact hm
def p_tree (n : Nat) : ASp
  | [.ref x, .ref st, .str ls, .int h, .int last], s, Q, _ => opt (shO (s x)) (fun r => opt (strm (s st)) (fun c => Rq ((0 ≤ c ∧ x ≠ st ∧ r.2.Ok) ∧ (0 ≤ h ∧ h ≤ n ∧ h ≤ 12 ∧ r.2.n + 2 ^ (h.toNat + 1) ≤ 15000000) ∧ (1 ≤ last ∧ last ≤ 8) ∧ ls ≠ [] ∧ Plain ls ∧ ls.length ≤ 1000)
      (∀ (sh' : Sh) (c' : Int) (t : Nat) (z : List Nat) (m : Nat), sh'.Ok → Ext r.2 sh' → sh'.n + 1 ≤ r.2.n + 2 ^ (h.toNat + 1) → 0 ≤ c' → Tree sh' t z m h.toNat last.toNat → ((∀ y ∈ z, y ∈ ls) ∧ Hts r.2 sh' h.toNat) → Q (.tup [.int t, .str z, .int m]) (aup (aup s x (.shf r.1 sh')) st (.lst [.int c']))) ⟨⟩) ⟨⟩) ⟨⟩
  | _, _, _, _ => False
end Sk
local macro_rules | `(tactic| walk_at "go15") => `(tactic| repeat (first | walk_at "sg1" | simp -dsimp -implicitDefEqProofs only [Sk.Ask, Sk.fl_pieces, Sk.fl_numbers, Sk.fl_signs, Sk.fl_ends, Sk.fl_leaves, Sk.fl_heights, Sk.fl_firsts, Sk.fl_lasts, Sk.fldA_r, Sk.recvO_i, Sk.p_is_plain, Sk.p_ends_in, Sk.p_many, Sk.p_ask, Sk.p_piece, Sk.p_leaf, Sk.p_fork, Sk.p_loose, Sk.p_mixed, Sk.p_digit, Sk.p_stream, Sk.recP_s, Sk.p_tree] | walk_at "sg2"))
local macro_rules | `(tactic| walk_at "st15") => `(tactic| simp -dsimp -implicitDefEqProofs only [Sk.Ask, Sk.p_wantp_o, Sk.p_laid_o, Sk.p_loose_o, Sk.p_Shelf])
namespace Sk
open PySem PySem.Spec PyProof.Rows L2
theorem okr_law_tree {P : Program} {w : World} {K : PySem.W.Frag} {mg : Str → Option Value} {base : Heap} (T : Tx K mg) : ∀ n : Nat, Cal P w K mg base (3 + n) "_law_tree" ["shelf", "row", "letters", "height", "last"] (spA K (recP (fun n => (p_tree n)) n))
  | 0 => calF T.fn_law_tree T.glo_law_tree (fun _ _ _ _ _ _ us hl => match us, hl with | [_, _, _, _, _], _ => rfl)
  | n + 1 => by
    have C_law_tree := okr_law_tree (P := P) (w := w) (base := base) T n
    have nd := sc_law_tree.nd
    have C_law_digit := ok_law_digit (P := P) (w := w) (base := base) T
    have M_Shelf_fork := ok_Shelf_fork (P := P) (w := w) (base := base) T
    have M_Shelf_leaf := ok_Shelf_leaf (P := P) (w := w) (base := base) T
    refine calA T.fn_law_tree T.glo_law_tree sc_law_tree (fun _ _ _ _ _ _ us hl => match us, hl with | [_, _, _, _, _], _ => rfl) (tl := [none, none, none, none, none, none, none, none]) rfl (by intro ds s Q E h; change (p_tree n) ds s Q E at h; unfold p_tree at h; split at h; rfl; exact h.elim) ⟨_, fun cdv A outer s H E hr => (as_cons (as_if (at_cmp (op_eqAll hr.units) sr_eq (av 3) ae_int (nomark _)) (as_cons (as_set (i := 5) nd rfl (Or.inl rfl) (ae_bi (call_maxAll rfl) srl_max T.free_max bt_max (aa_cons ae_int (aa_cons (ae_op op_sub sr_sub ae_int (av 4)) aa_nil))))
        (as_cons (as_set (i := 6) nd rfl (Or.inl rfl) (ae_op op_addAll sr_add (av 5) (ae_call C_law_digit (hr.mono (by first | omega | decide | exact Nat.le_refl _ | exact Nat.le_trans (by decide) (Nat.le_add_right _ _))) (takes_of rfl rfl rfl rfl) (aa_cons (av 1) (aa_cons (ae_op op_sub sr_sub ae_int (av 5)) aa_nil)))))
        (as_cons (as_set (i := 7) nd rfl (Or.inl rfl) (ae_sm PySem.F.slot_str_join PySem.F.type_str_join mt_join srs_join (ae_strL (z := []) (by first | rfl | kernel_rfl)) (ae_lc (own := [("k", 12)]) rfl nd (ai_rng1 (by rfl) T.free_range (aa_cons (av 6) aa_nil)) (blkOk_by (own := [("k", 12)]) (N := ["shelf", "row", "letters", "height", "last", "least", "many", "plain", "lower", "turn", "one", "other", "k"]) (sc := defScope s_law_tree) (by decide +kernel)) (by decide) (fun _ _ _ _ _ => (ag_name (i := 12) nd rfl (Or.inl rfl))) (fun _ _ _ _ _ => ats_nil) (fun _ _ _ _ _ => (ae_ix (ix_all (Room.units1 hr)) sr_ix (av 2) (ae_call C_law_digit (hr.mono (by first | omega | decide | exact Nat.le_refl _ | exact Nat.le_trans (by decide) (Nat.le_add_right _ _))) takes0 (aa_cons (av 1) (aa_cons (ae_bi call_lenAll srl_len T.free_len PySem.boot_len (aa_cons (av 2) aa_nil)) aa_nil))) (fun _ _ => rfl))))))
        (as_one (as_ret (ae_tup (aa_cons (ae_methK M_Shelf_leaf rfl (nsOk shNames (by decide)) (av 0) (hr.mono (by first | omega | decide | exact Nat.le_refl _ | exact Nat.le_trans (by decide) (Nat.le_add_right _ _))) (takes_of rfl rfl rfl rfl) (aa_cons (av 7) aa_nil)) (aa_cons (av 7) (aa_cons (av 6) aa_nil))))))))) as_nil)
        (as_cons (as_set (i := 8) nd rfl (Or.inl rfl) (ae_op op_mulAll sr_mul (ae_ix (ix_all (Room.units1 hr)) sr_ix (ae_lst (aa_cons ae_int (aa_cons ae_int (aa_cons ae_int aa_nil)))) (ae_call C_law_digit (hr.mono (by first | omega | decide | exact Nat.le_refl _ | exact Nat.le_trans (by decide) (Nat.le_add_right _ _))) (takes_of rfl rfl rfl rfl) (aa_cons (av 1) (aa_cons ae_int aa_nil))) (fun _ _ => rfl)) (ae_ty call_int1 srl_int T.free_int bt_int (aa_cons (ae_cmp op_gt sr_gt (av 3) ae_int (nomark _)) aa_nil))))
        (as_cons (as_set (i := 9) nd rfl (Or.inl rfl) (ae_call C_law_digit (hr.mono (by first | omega | decide | exact Nat.le_refl _ | exact Nat.le_trans (by decide) (Nat.le_add_right _ _))) (takes_of rfl rfl rfl rfl) (aa_cons (av 1) (aa_cons ae_int aa_nil))))
        (as_cons (as_set (i := 10) nd rfl (Or.inl rfl) (ae_call C_law_tree (hr.mono (by first | omega | decide | exact Nat.le_refl _ | exact Nat.le_trans (by decide) (Nat.le_add_right _ _))) (takes_of rfl rfl rfl rfl) (aa_cons (av 0) (aa_cons (av 1) (aa_cons (av 2) (aa_cons (ae_op op_sub sr_sub (ae_op op_sub sr_sub (av 3) ae_int) (ae_op op_mulAll sr_mul (av 8) (av 9))) (aa_cons (av 4) aa_nil)))))))
        (as_cons (as_set (i := 11) nd rfl (Or.inl rfl) (ae_call C_law_tree (hr.mono (by first | omega | decide | exact Nat.le_refl _ | exact Nat.le_trans (by decide) (Nat.le_add_right _ _))) (takes_of rfl rfl rfl rfl) (aa_cons (av 0) (aa_cons (av 1) (aa_cons (av 2) (aa_cons (ae_op op_sub sr_sub (ae_op op_sub sr_sub (av 3) ae_int) (ae_op op_mulAll sr_mul (av 8) (ae_op op_sub sr_sub ae_int (av 9)))) (aa_cons (ae_ix (ix_all (Room.units1 hr)) sr_ix (av 10) ae_int (fun _ _ => rfl)) aa_nil)))))))
        (as_one (as_ret (ae_tup (aa_cons (ae_methK M_Shelf_fork rfl (nsOk shNames (by decide)) (av 0) (hr.mono (by first | omega | decide | exact Nat.le_refl _ | exact Nat.le_trans (by decide) (Nat.le_add_right _ _))) (takes_of rfl rfl rfl rfl) (aa_cons (ae_ix (ix_all (Room.units1 hr)) sr_ix (av 10) ae_int (fun _ _ => rfl)) (aa_cons (ae_ix (ix_all (Room.units1 hr)) sr_ix (av 11) ae_int (fun _ _ => rfl)) aa_nil))) (aa_cons (ae_op op_addAll sr_add (ae_ix (ix_all (Room.units1 hr)) sr_ix (av 10) ae_int (fun _ _ => rfl)) (ae_ix (ix_all (Room.units1 hr)) sr_ix (av 11) ae_int (fun _ _ => rfl))) (aa_cons (ae_ix (ix_all (Room.units1 hr)) sr_ix (av 11) ae_int (fun _ _ => rfl)) aa_nil))))))))))), fun ds s Q E h => ?_⟩
    clear nd C_law_digit M_Shelf_fork M_Shelf_leaf C_law_tree
    change (p_tree n) ds s Q E at h
    unfold p_tree at h
    split at h
    case h_2 => exact h.elim
    rename_i x st ls hh last
    obtain ⟨ad, sh, e1, q⟩ := sh_of h
    obtain ⟨c, hc, ⟨⟨c0, ne, ok⟩, ⟨h0, h1, h12, hn⟩, ⟨w1, w8⟩, lne, lp, ll⟩, hq⟩ := opt_of q
    have hst := strm_eq hc
    obtain ⟨hh, rfl⟩ : ∃ n : Nat, hh = n := ⟨hh.toNat, by omega⟩
    obtain ⟨last, rfl⟩ : ∃ n : Nat, last = n := ⟨last.toNat, by omega⟩
    simp only [Int.toNat_natCast] at hn hq
    have l0 : 0 < ls.length := List.length_pos_iff.mpr lne
    have l0' : (0 : Int) < ls.length := by omega
    walk_at "go15"
    refine br_dec (fun h2 => ?_) (fun h2 => ?_)
    · obtain rfl : hh = 0 := by omega
      obtain ⟨L, eL, L1, L8, Lb⟩ : ∃ L : Int, L = max 1 (9 - (last : Int)) ∧ 1 ≤ L ∧ L ≤ 8 ∧ 8 < last + L := ⟨_, rfl, by omega, by omega, by omega⟩
      have eL' := eL.symm
      clear eL h2
      have q0 := Int.emod_nonneg c (show 9 - L ≠ 0 by omega)
      have q1 := Int.emod_lt_of_pos c (show (0 : Int) < 9 - L by omega)
      obtain ⟨M, eM, M1, M8, Mb⟩ : ∃ M : Nat, L + c % (9 - L) = M ∧ 1 ≤ M ∧ M ≤ 8 ∧ 8 < last + M := ⟨(L + c % (9 - L)).toNat, by omega, by omega, by omega, by omega⟩
      have rg : RgOk1 (M : Int) := ⟨by omega, by omega⟩
      have c0' : 0 ≤ c / (9 - L) := Int.ediv_nonneg c0 (by omega)
      clear q0 q1
      walk_at "go15"
      generalize c / (9 - L) = c1 at c0' ⊢
      clear eM eL' c0 hst
      refine ⟨fun i acc s' => ∃ c' zs, s' = aup s st (.lst [.int c']) ∧ 0 ≤ c' ∧ acc = zs.map (fun z => D.str [z]) ∧ zs.length = i ∧ ∀ y ∈ zs, y ∈ ls, ⟨_, [], rfl, c0', rfl, rfl, by simp⟩, fun _ _ _ _ _ => trivial, by rw [rng_len]; omega, ?_, ?_⟩
      · rintro i d acc s' hd ⟨c', zs, rfl, c0, rfl, hz, hm⟩
        obtain ⟨hi, rfl⟩ := rng_get hd
        obtain ⟨v, hv, hvm⟩ := atI_get (l := ls) (i := c' % ls.length) (Int.emod_nonneg _ (by omega)) (Int.emod_lt_of_pos _ (by omega))
        clear l0'
        walk_at "go15"
        refine ⟨_, Le.refl _, c' / ls.length, zs ++ [v], rfl, Int.ediv_nonneg c0 (by omega), by rw [List.map_append]; rfl, by rw [List.length_append, hz]; rfl, fun y hy => ?_⟩
        rcases List.mem_append.mp hy with hy | hy
        · exact hm y hy
        · rw [List.mem_singleton.mp hy]; exact hvm
      · rintro acc s' ⟨c', zs, rfl, c0, rfl, hz, hm⟩
        rw [rng_len] at hz
        have e1 := strsD_one zs
        have e2 := join_one zs
        have e3 : ((zs.map fun z => [z]).map List.length).sum + (zs.map fun z => [z]).length * 0 ≤ 16777216 := by rw [sum_one]; omega
        have g : sh.good (.leaf zs) := ⟨fun y hy => lp y (hm y hy), by omega, by omega⟩
        have hn2 : sh.n < 16000000 := by have : sh.n + 2 ^ (0 + 1) ≤ 15000000 := hn; omega
        have hz8 : zs.length < 16777216 := by omega
        have n1 := put_n sh (.leaf zs)
        have T1 := Tree.leaf (last := last) ok g (by omega)
        rw [show zs.length = M by omega] at T1
        have fin := hq (sh.put (.leaf zs)).2 c' _ _ _ (ok.put g) (Ext.put sh (.leaf zs)) (by show (sh.put (.leaf zs)).2.n + 1 ≤ sh.n + 2 ^ (0 + 1); omega) c0 T1 ⟨hm, Hts.put (by rw [T1.ht]; exact Int.le_refl _)⟩
        walk_at "go15"
        rw [aup_swap ne] at fin
        try exact .of fin
    · obtain ⟨u, rfl⟩ : ∃ u, hh = u + 1 := ⟨hh - 1, by omega⟩
      obtain ⟨n, rfl⟩ : ∃ m, n = m + 1 := ⟨n - 1, by omega⟩
      clear h2 h0 hc
      obtain ⟨lo, a3, lo1⟩ : ∃ lo : Nat, atI [D.int 0, .int 0, .int 1] (c % 3) = some (.int lo) ∧ lo ≤ 1 := by
        have h3 := Int.emod_nonneg c (show (3 : Int) ≠ 0 by decide)
        have h4 := Int.emod_lt_of_pos c (show (0 : Int) < 3 by decide)
        rcases (show c % 3 = 0 ∨ c % 3 = 1 ∨ c % 3 = 2 by omega) with e | e | e
        · exact ⟨0, by rw [e]; exact ⟨rfl, by decide⟩⟩
        · exact ⟨0, by rw [e]; exact ⟨rfl, by decide⟩⟩
        · exact ⟨1, by rw [e]; exact ⟨rfl, by decide⟩⟩
      obtain ⟨ha, hb, ea, eb, m1, m2, m3⟩ : ∃ ha hb : Nat, ((u + 1 : Nat) : Int) - 1 - lo * b2int (decide (1 < ((u + 1 : Nat) : Int))) * (c / 3 % 2) = ha ∧ ((u + 1 : Nat) : Int) - 1 - lo * b2int (decide (1 < ((u + 1 : Nat) : Int))) * (1 - c / 3 % 2) = hb ∧ max ha hb = u ∧ ha ≤ hb + 1 ∧ hb ≤ ha + 1 := by
        have q : lo = 0 ∨ lo = 1 := by omega
        by_cases e : 1 < ((u + 1 : Nat) : Int)
        · rw [decide_eq_true e, show b2int true = 1 from rfl]
          rcases q with rfl | rfl
          · refine ⟨u, u, ?_⟩; simp
          · rcases (show c / 3 % 2 = 0 ∨ c / 3 % 2 = 1 by omega) with k | k <;> rw [k]
            · exact ⟨u, u - 1, by simp, by simp; omega, by omega, by omega, by omega⟩
            · exact ⟨u - 1, u, by simp; omega, by simp, by omega, by omega, by omega⟩
        · rw [decide_eq_false e, show b2int false = 0 from rfl]
          refine ⟨u, u, ?_⟩
          simp
      have w0 : 2 ^ (u + 1 + 1) = 2 * 2 ^ (u + 1) := by rw [Nat.pow_succ]; omega
      have w1 : 2 ^ (ha + 1) ≤ 2 ^ (u + 1) := pow_mono2 (by omega)
      have w2 : 2 ^ (hb + 1) ≤ 2 ^ (u + 1) := pow_mono2 (by omega)
      rw [w0] at hn hq
      generalize 2 ^ (u + 1) = W at w1 w2 hn hq
      clear w0
      have c3 : 0 ≤ c / 3 / 2 := by omega
      have hn : sh.n + 2 * W ≤ 15000000 := hn
      walk_at "go15"
      intro sh1 c1 t1 z1 k1 ok1 x1 n1 c10 T1 ⟨y1, hs1⟩
      have b1 : (1 : Int) ≤ k1 := by have := T1.m1; omega
      have b2 : (k1 : Int) ≤ 8 := by have := T1.m8; omega
      have b3 : sh1.n + 2 ^ (hb + 1) ≤ 15000000 := by omega
      walk_at "go15"
      intro sh2 c2 t2 z2 k2 ok2 x2 n2 c20 T2 ⟨y2, hs2⟩
      have hs12 := Hts.trans (k := u + 1) ok1 x2 hs1 hs2 (by omega) (by omega)
      have T1' := T1.ext ok1 x2
      have G := T1'.good T2 m2 m3 (by omega)
      obtain ⟨⟨f1, f2⟩, f3, f4, f5⟩ := good_fork G.2.2.2
      have T3 := Tree.fork ok2 T1' T2 m2 m3 (by omega)
      have n3 := put_n sh2 (.fork t1 t2)
      have fin := hq _ c2 _ _ _ (ok2.put G.2.2.2) ((x1.trans x2).trans (Ext.put sh2 (.fork t1 t2))) (by show (sh2.put (.fork t1 t2)).2.n + 1 ≤ sh.n + 2 * W; omega) c20 (by rw [show 1 + max ha hb = u + 1 by omega] at T3; exact T3) ⟨fun y hy => by
        rcases List.mem_append.mp hy with hy | hy
        · exact y1 y hy
        · exact y2 y hy, Hts.trans ok2 (Ext.put sh2 (.fork t1 t2)) hs12 (Hts.put (h := u + 1) (by rw [T3.ht]; omega)) (Nat.le_refl _) (Nat.le_refl _)⟩
      have zl1 : z1.length + z2.length ≤ 16777216 := by
        have := T1.len
        have := T2.len
        have e1 : 2 ^ ha ≤ 2 ^ 12 := pow_mono2 (by omega)
        have e2 : 2 ^ hb ≤ 2 ^ 12 := pow_mono2 (by omega)
        omega
      have n4 : sh2.n < 16000000 := by omega
      clear T1' T2 T1 T3 hq n1 n2 b1 b2 b3 y1 y2 hs1 hs2 hs12
      walk_at "go15"
      rw [aup_swap ne] at fin
      try exact .of fin
theorem ok_law_tree {P : Program} {w : World} {K : PySem.W.Frag} {mg : Str → Option Value} {base : Heap} (T : Tx K mg) : Cal P w K mg base (3 + (12 + 1)) "_law_tree" ["shelf", "row", "letters", "height", "last"] (spA K ((fun n => (p_tree n)) 12)) := okr_law_tree T (12 + 1)
end Sk
namespace Sk
open PySem PySem.Spec PyProof.Rows L2
/-! ### the lengths of the leaves -/
inductive LN (sh : Sh) : Nat → List Nat → Prop
  | leaf {t : Nat} {z : List Nat} (a : sh.At t (.leaf z)) : LN sh t [z.length]
  | fork {t a b : Nat} {l m : List Nat} (p : sh.At t (.fork a b)) (h : LN sh a l) (k : LN sh b m) : LN sh t (l ++ m)
theorem LN.ex {sh : Sh} (ok : sh.Ok) : ∀ t, 0 < t → t ≤ sh.n → ∃ l, LN sh t l := by
  intro t
  induction t using Nat.strongRecOn with
  | _ t ih =>
    intro h0 h1
    obtain ⟨q, a⟩ := ok.at_ t h0 h1
    cases q with
    | leaf z => exact ⟨_, .leaf a⟩
    | fork x y =>
      have a' := a
      cases a with
      | fork e a0 al b0 bl =>
        obtain ⟨l, hl⟩ := ih x al a0 (by omega)
        obtain ⟨m, hm⟩ := ih y bl b0 (by omega)
        exact ⟨_, .fork a' hl hm⟩
structure LNs (sh : Sh) (t : Nat) (l : List Nat) : Prop where
  len : l.length = (sh.m t).lv
  sum : l.sum = (sh.m t).txt.length
  pos : 0 < l.length
  fi : l.getD 0 0 = (sh.m (sh.m t).fi).txt.length
  la : l.getD (l.length - 1) 0 = (sh.m (sh.m t).la).txt.length
  cl : ∀ i, i + 1 < l.length → 8 < l.getD i 0 + l.getD (i + 1) 0
theorem getD_app_ge {α : Type} {l r : List α} {i : Nat} {d : α} (h : l.length ≤ i) : (l ++ r).getD i d = r.getD (i - l.length) d := by
  rw [List.getD_eq_getElem?_getD, List.getD_eq_getElem?_getD, List.getElem?_append_right h]
theorem LN.facts {sh : Sh} {t : Nat} {l : List Nat} (h : LN sh t l) : LNs sh t l := by
  induction h with
  | leaf a =>
    have m := At.m_leaf a
    refine ⟨by rw [m]; rfl, by rw [m]; simp, by simp, ?_, ?_, fun i hi => by simp at hi⟩
    · rw [m]; dsimp only; rw [m]; rfl
    · rw [m]; dsimp only; rw [m]; rfl
  | @fork t a b l r at_ _ _ h k =>
    cases at_ with
    | fork e a0 al b0 bl cl h1 h2 sz m =>
      have p1 := h.pos
      have p2 := k.pos
      refine ⟨?_, ?_, by rw [List.length_append]; omega, ?_, ?_, fun i hi => ?_⟩
      · rw [List.length_append, h.len, k.len, m]
      · rw [List.sum_append, h.sum, k.sum, m]; show _ = List.length (_ ++ _); rw [List.length_append]
      · rw [getD_app_lt p1, h.fi, m]
      · rw [List.length_append, getD_app_ge (by omega), m]
        dsimp only
        rw [← k.la]
        congr 1
        omega
      · rw [List.length_append] at hi
        by_cases c1 : i + 1 < l.length
        · rw [getD_app_lt (by omega), getD_app_lt c1]; exact h.cl i c1
        · by_cases c2 : i < l.length
          · rw [getD_app_lt c2, getD_app_ge (by omega)]
            have e1 : i = l.length - 1 := by omega
            rw [show i + 1 - l.length = 0 by omega, e1, h.la, k.fi]
            exact cl
          · rw [getD_app_ge (by omega), getD_app_ge (by omega)]
            have := k.cl (i - l.length) (by omega)
            rw [show i + 1 - l.length = i - l.length + 1 by omega]
            exact this
theorem ht0 {sh : Sh} (ok : sh.Ok) (t : Nat) : 0 < t → t ≤ sh.n → 0 ≤ (sh.m t).ht := by
  induction t using Nat.strongRecOn with
  | _ t ih =>
    intro h0 h
    obtain ⟨q, a⟩ := ok.at_ t h0 h
    cases a with
    | leaf e p l1 l8 m => rw [m]; exact Int.le_refl _
    | @fork a b e a0 al b0 bl cl h1 h2 sz m =>
      have := ih a al a0 (by omega)
      rw [m]
      dsimp only
      omega
theorem sum_cast (l : List Nat) : (l.map fun (k : Nat) => (k : Int)).sum = ((l.sum : Nat) : Int) := by
  induction l with
  | nil => rfl
  | cons a l ih => rw [List.map_cons, List.sum_cons, List.sum_cons, ih]; omega
theorem len_at {l : List Nat} {i : Int} (h0 : 0 ≤ i) (h1 : i < l.length) : atI (l.map fun (k : Nat) => D.int (k : Int)) i = some (.int (l.getD i.toNat 0 : Nat)) := by
  refine atI_n h0 ?_
  have h : i.toNat < l.length := by omega
  rw [List.getElem?_map, List.getElem?_eq_getElem h, List.getD_eq_getElem?_getD, List.getElem?_eq_getElem h]
  rfl
theorem all_true {α : Type} (l : List α) : (l.map fun _ => true).all id = true := by simp
theorem pc_of_at {sh : Sh} {t : Nat} {q : Pc} (a : sh.At t q) : sh.pc (t : Int) = q := by
  unfold Sh.pc
  rw [Int.toNat_natCast, List.getD_eq_getElem?_getD, a.det]
  rfl
def p_lengths (n : Nat) : ASp
  | [.ref x, .int t], s, Q, _ => opt (shO (s x)) (fun r => Rq (r.2.Ok ∧ 0 < t ∧ t ≤ r.2.n ∧ (r.2.m t.toNat).ht ≤ n ∧ (r.2.m t.toNat).lv ≤ 10000) (∀ l, LN r.2 t.toNat l → Q (.lst (l.map fun (k : Nat) => D.int (k : Int))) s) ⟨⟩) ⟨⟩
  | _, _, _, _ => False
end Sk
namespace Sk
open PySem PySem.Spec PyProof.Rows L2
def LetOk (ls : List Nat) : Prop := ls ≠ [] ∧ Plain ls ∧ ls.length ≤ 1000
def p_letters : ASp
  | [.ref st], s, Q, _ => opt (strm (s st)) (fun c => Rq (0 ≤ c) (∀ ls, LetOk ls → Q (.str ls) (aup s st (.lst [.int (c / 5)]))) ⟨⟩) ⟨⟩
  | _, _, _, _ => False
theorem plain_of {ls : List Nat} (h : ls.all (fun c => decide (32 ≤ c ∧ c ≤ 126) || decide (c = 10)) = true) : Plain ls := fun c hc => by
  have := List.all_eq_true.mp h c hc
  rw [Bool.or_eq_true, decide_eq_true_eq, decide_eq_true_eq] at this
  exact this
def someL : List (List Nat) := [[97, 98], [97, 97, 98, 10], [97, 10], [97, 98, 99, 100, 101, 102, 103, 104, 105, 106, 107, 108, 109, 110, 111, 112, 113, 114, 115, 116, 117, 118, 119, 120, 121, 122, 65, 66, 67, 68, 69, 70, 71, 72, 73, 74, 75, 76, 77, 78, 79, 80, 81, 82, 83, 84, 85, 86, 87, 88, 89, 90, 48, 49, 50, 51, 52, 53, 54, 55, 56, 57, 32, 33, 34, 35, 36, 38, 39, 40, 41, 42, 43, 44, 45, 46, 47, 58, 59, 60, 61, 62, 63, 64, 91, 92, 93, 94, 95, 96, 123, 124, 125, 126, 10], [110, 92, 10]]
theorem someL_ok : ∀ ls ∈ someL, LetOk ls := by
  intro ls h
  simp only [someL, List.mem_cons, List.not_mem_nil, or_false] at h
  rcases h with rfl | rfl | rfl | rfl | rfl <;> exact ⟨by decide, plain_of (by decide), by decide⟩
end Sk
local macro_rules | `(tactic| walk_at "go16") => `(tactic| repeat (first | walk_at "sg1" | simp -dsimp -implicitDefEqProofs only [Sk.Ask, Sk.fl_pieces, Sk.fl_numbers, Sk.fl_signs, Sk.fl_ends, Sk.fl_leaves, Sk.fl_heights, Sk.fl_firsts, Sk.fl_lasts, Sk.fldA_r, Sk.recvO_i, Sk.p_is_plain, Sk.p_ends_in, Sk.p_many, Sk.p_ask, Sk.p_piece, Sk.p_leaf, Sk.p_fork, Sk.p_loose, Sk.p_mixed, Sk.p_digit, Sk.p_stream, Sk.recP_s, Sk.p_tree, Sk.p_lengths] | walk_at "sg2"))
local macro_rules | `(tactic| walk_at "st16") => `(tactic| simp -dsimp -implicitDefEqProofs only [Sk.Ask, Sk.p_wantp_o, Sk.p_laid_o, Sk.p_loose_o, Sk.p_Shelf])
namespace Sk
open PySem PySem.Spec PyProof.Rows L2
theorem ok_law_letters {P : Program} {w : World} {K : PySem.W.Frag} {mg : Str → Option Value} {base : Heap} (T : Tx K mg) : Cal P w K mg base (1 + 1) "_law_letters" ["row"] (spA K p_letters) := by
  have nd := sc_law_letters.nd
  have C_law_digit := ok_law_digit (P := P) (w := w) (base := base) T
  refine calA T.fn_law_letters T.glo_law_letters sc_law_letters (fun _ _ _ _ _ _ us hl => match us, hl with | [_], _ => rfl) (tl := [none, none]) rfl (by intro ds s Q E h; unfold p_letters at h; split at h; rfl; exact h.elim) ⟨_, fun cdv A outer s H E hr => (as_cons (as_set (i := 1) nd rfl (Or.inl rfl) (ae_strL (z := [97, 98, 99, 100, 101, 102, 103, 104, 105, 106, 107, 108, 109, 110, 111, 112, 113, 114, 115, 116, 117, 118, 119, 120, 121, 122, 65, 66, 67, 68, 69, 70, 71, 72, 73, 74, 75, 76, 77, 78, 79, 80, 81, 82, 83, 84, 85, 86, 87, 88, 89, 90, 48, 49, 50, 51, 52, 53, 54, 55, 56, 57]) (by first | rfl | kernel_rfl)))
      (as_cons (as_set (i := 1) nd rfl (Or.inl rfl) (ae_op op_addAll sr_add (av 1) (ae_strL (z := [32, 33, 34, 35, 36, 38, 39, 40, 41, 42, 43, 44, 45, 46, 47, 58, 59, 60, 61, 62, 63, 64, 91, 92, 93, 94, 95, 96, 123, 124, 125, 126, 10]) (by first | rfl | kernel_rfl))))
      (as_cons (as_set (i := 2) nd rfl (Or.inl rfl) (ae_lst (aa_cons (ae_strL (z := [97, 98]) (by first | rfl | kernel_rfl)) (aa_cons (ae_strL (z := [97, 97, 98, 10]) (by first | rfl | kernel_rfl)) (aa_cons (ae_strL (z := [97, 10]) (by first | rfl | kernel_rfl)) (aa_cons (av 1) (aa_cons (ae_strL (z := [110, 92, 10]) (by first | rfl | kernel_rfl)) aa_nil)))))))
      (as_one (as_ret (ae_ix (ix_all (Room.units1 hr)) sr_ix (av 2) (ae_call C_law_digit (hr.mono (by first | omega | decide | exact Nat.le_refl _ | exact Nat.le_trans (by decide) (Nat.le_add_right _ _))) (takes_of rfl rfl rfl rfl) (aa_cons (av 0) (aa_cons ae_int aa_nil))) (fun _ _ => rfl))))))), fun ds s Q E h => ?_⟩
  clear nd C_law_digit
  unfold p_letters at h
  split at h
  case h_2 => exact h.elim
  rename_i st
  obtain ⟨c, hc, c0, hq⟩ := opt_of h
  have hst := strm_eq hc
  clear h hc
  obtain ⟨ls, h1, h2⟩ : ∃ ls, atI (someL.map D.str) (c % 5) = some (.str ls) ∧ ls ∈ someL := by
    have h : (c % 5).toNat < someL.length := by show _ < 5; omega
    refine ⟨someL[(c % 5).toNat], atI_n (by omega) ?_, List.getElem_mem h⟩
    rw [List.getElem?_map, List.getElem?_eq_getElem h]
    rfl
  have fin := hq _ (someL_ok _ h2)
  change atI [D.str [97, 98], D.str [97, 97, 98, 10], D.str [97, 10], D.str [97, 98, 99, 100, 101, 102, 103, 104, 105, 106, 107, 108, 109, 110, 111, 112, 113, 114, 115, 116, 117, 118, 119, 120, 121, 122, 65, 66, 67, 68, 69, 70, 71, 72, 73, 74, 75, 76, 77, 78, 79, 80, 81, 82, 83, 84, 85, 86, 87, 88, 89, 90, 48, 49, 50, 51, 52, 53, 54, 55, 56, 57, 32, 33, 34, 35, 36, 38, 39, 40, 41, 42, 43, 44, 45, 46, 47, 58, 59, 60, 61, 62, 63, 64, 91, 92, 93, 94, 95, 96, 123, 124, 125, 126, 10], D.str [110, 92, 10]] (c % 5) = _ at h1
  walk_at "go16"
end Sk
namespace Sk
open PySem PySem.Spec PyProof.Rows L2
def TxtOk (S : Sh) (t : Nat) (z : List Nat) (most : Nat) : Prop := t ≤ S.n ∧ (S.m t).txt = z ∧ (S.m t).ht ≤ most ∧ z.length ≤ 8 * 2 ^ most ∧ Plain z
def p_text : ASp
  | [.ref x, .ref st, .int most], s, Q, _ => opt (shO (s x)) (fun r => opt (strm (s st)) (fun c => Rq ((0 ≤ c ∧ x ≠ st ∧ r.2.Ok) ∧ 0 ≤ most ∧ most ≤ 11 ∧ r.2.n ≤ 1000000)
      (∀ (S : Sh) (c' : Int) (t : Nat) (z : List Nat), S.Ok → Ext r.2 S → S.n ≤ r.2.n + 2 ^ (most.toNat + 1) → 0 ≤ c' → TxtOk S t z most.toNat → Q (.tup [.int t, .str z]) (aup (aup s x (.shf r.1 S)) st (.lst [.int c']))) ⟨⟩) ⟨⟩) ⟨⟩
  | _, _, _, _ => False
end Sk
local macro_rules | `(tactic| walk_at "go17") => `(tactic| repeat (first | walk_at "sg1" | simp -dsimp -implicitDefEqProofs only [Sk.Ask, Sk.fl_pieces, Sk.fl_numbers, Sk.fl_signs, Sk.fl_ends, Sk.fl_leaves, Sk.fl_heights, Sk.fl_firsts, Sk.fl_lasts, Sk.fldA_r, Sk.recvO_i, Sk.p_is_plain, Sk.p_ends_in, Sk.p_many, Sk.p_ask, Sk.p_piece, Sk.p_leaf, Sk.p_fork, Sk.p_loose, Sk.p_mixed, Sk.p_digit, Sk.p_stream, Sk.recP_s, Sk.p_tree, Sk.p_lengths, Sk.p_letters] | walk_at "sg2"))
local macro_rules | `(tactic| walk_at "st17") => `(tactic| simp -dsimp -implicitDefEqProofs only [Sk.Ask, Sk.p_wantp_o, Sk.p_laid_o, Sk.p_loose_o, Sk.p_Shelf])
namespace Sk
open PySem PySem.Spec PyProof.Rows L2
theorem ok_law_text {P : Program} {w : World} {K : PySem.W.Frag} {mg : Str → Option Value} {base : Heap} (T : Tx K mg) : Cal P w K mg base (16 + 1) "_law_text" ["shelf", "row", "most"] (spA K p_text) := by
  have nd := sc_law_text.nd
  have C_law_letters := ok_law_letters (P := P) (w := w) (base := base) T
  have C_law_tree := ok_law_tree (P := P) (w := w) (base := base) T
  have C_law_digit := ok_law_digit (P := P) (w := w) (base := base) T
  refine calA T.fn_law_text T.glo_law_text sc_law_text (fun _ _ _ _ _ _ us hl => match us, hl with | [_, _, _], _ => rfl) (tl := [none, none]) rfl (by intro ds s Q E h; unfold p_text at h; split at h; rfl; exact h.elim) ⟨_, fun cdv A outer s H E hr => (as_cons (as_set (i := 3) nd rfl (Or.inl rfl) (ae_call C_law_letters (hr.mono (by first | omega | decide | exact Nat.le_refl _ | exact Nat.le_trans (by decide) (Nat.le_add_right _ _))) (takes_of rfl rfl rfl rfl) (aa_cons (av 1) aa_nil)))
      (as_cons (as_if (at_cmp (op_eqAll hr.units) sr_eq (ae_call C_law_digit (hr.mono (by first | omega | decide | exact Nat.le_refl _ | exact Nat.le_trans (by decide) (Nat.le_add_right _ _))) (takes_of rfl rfl rfl rfl) (aa_cons (av 1) (aa_cons ae_int aa_nil))) ae_int (nomark _)) (as_one (as_ret (ae_tup (aa_cons ae_int (aa_cons (ae_strL (z := []) (by first | rfl | kernel_rfl)) aa_nil))))) as_nil)
      (as_cons (as_set (i := 4) nd rfl (Or.inl rfl) (ae_call C_law_tree (hr.mono (by first | omega | decide | exact Nat.le_refl _ | exact Nat.le_trans (by decide) (Nat.le_add_right _ _))) (takes_of rfl rfl rfl rfl) (aa_cons (av 0) (aa_cons (av 1) (aa_cons (av 3) (aa_cons (ae_call C_law_digit (hr.mono (by first | omega | decide | exact Nat.le_refl _ | exact Nat.le_trans (by decide) (Nat.le_add_right _ _))) (takes_of rfl rfl rfl rfl) (aa_cons (av 1) (aa_cons (ae_op op_addAll sr_add (av 2) ae_int) aa_nil))) (aa_cons ae_int aa_nil)))))))
      (as_one (as_ret (ae_tup (aa_cons (ae_ix (ix_all (Room.units1 hr)) sr_ix (av 4) ae_int (fun _ _ => rfl)) (aa_cons (ae_ix (ix_all (Room.units1 hr)) sr_ix (av 4) ae_int (fun _ _ => rfl)) aa_nil)))))))), fun ds s Q E h => ?_⟩
  clear nd C_law_letters C_law_tree C_law_digit
  unfold p_text at h
  split at h
  case h_2 => exact h.elim
  rename_i x st mo
  obtain ⟨ad, sh, e1, q⟩ := sh_of h
  dsimp only at q
  obtain ⟨c, hc, ⟨⟨c0, ne, ok⟩, m0, m11, hn⟩, hq⟩ := opt_of q
  clear h q
  have hst := strm_eq hc
  obtain ⟨mo, rfl⟩ : ∃ n : Nat, mo = n := ⟨mo.toNat, by omega⟩
  rw [Int.toNat_natCast] at hq
  walk_at "go17"
  intro ls ⟨l1, l2, l3⟩
  have c5 : 0 ≤ c / 5 := by omega
  walk_at "go17"
  refine br_dec (fun h1 => ?_) (fun h1 => ?_)
  · have fin := hq sh (c / 5 / 8) 0 [] ok (Ext.refl _) (Nat.le_add_right _ _) (by omega) ⟨Nat.zero_le _, by rw [ok.m0]; rfl, by rw [ok.m0]; show (-1 : Int) ≤ mo; omega, by simp, fun c hc => by cases hc⟩
    rw [aup_id e1] at fin
    walk_at "go17"
    try exact .of fin
  have q0 := Int.emod_nonneg (c / 5 / 8) (show (mo : Int) + 1 ≠ 0 by omega)
  have q1 := Int.emod_lt_of_pos (c / 5 / 8) (show (0 : Int) < mo + 1 by omega)
  obtain ⟨H, eH, H1⟩ : ∃ H : Nat, c / 5 / 8 % ((mo : Int) + 1) = H ∧ H ≤ mo := ⟨(c / 5 / 8 % ((mo : Int) + 1)).toNat, by omega, by omega⟩
  have c8 : 0 ≤ c / 5 / 8 / ((mo : Int) + 1) := Int.ediv_nonneg (by omega) (by omega)
  have pm : 2 ^ (H + 1) ≤ 2 ^ (mo + 1) := pow_mono2 (by omega)
  have p12 : 2 ^ (mo + 1) ≤ 2 ^ 12 := pow_mono2 (by omega)
  have szz : sh.n + 2 ^ (H + 1) ≤ 15000000 := by omega
  have H12 : (H : Int) ≤ 12 := by omega
  clear q0 q1 h1
  walk_at "go17"
  intro S c' t z m okS ex nS c0' T mem
  have fin := hq S c' t z okS ex (by omega) c0' ⟨T.tn, T.txt, by rw [T.ht]; omega, by have := T.len; have : 2 ^ H ≤ 2 ^ mo := pow_mono2 H1; omega, fun y hy => l2 y (mem.1 y hy)⟩
  rw [aup_swap ne] at fin
  walk_at "go17"
  try exact .of fin
end Sk
namespace Sk
open PySem PySem.Spec PyProof.Rows L2
structure Lg (S : Sh) (t : Nat) (z : List Nat) (k : Nat) : Prop where
  t0 : 0 < t
  tn : t ≤ S.n
  txt : (S.m t).txt = (List.replicate k z).flatten
  cl : 8 < (S.m (S.m t).la).txt.length + (S.m (S.m t).fi).txt.length
  k1 : 1 ≤ k
  sz : z.length * k ≤ most
  z1 : 1 ≤ z.length
  z64 : z.length ≤ 64
  pl : Plain z
theorem rep_len {k : Nat} {z : List Nat} : ((List.replicate k z).flatten).length = k * z.length := by
  induction k with
  | zero => simp
  | succ k ih => rw [List.replicate_succ, List.flatten_cons, List.length_append, ih, Nat.succ_mul]; omega
theorem Lg.len {S : Sh} {t k : Nat} {z : List Nat} (l : Lg S t z k) : (S.m t).txt.length = z.length * k := by rw [l.txt, rep_len, Nat.mul_comm]
theorem Lg.ext {sh sh' : Sh} {t k : Nat} {z : List Nat} (a : Lg sh t z k) (ok : sh.Ok) (e : Ext sh sh') : Lg sh' t z k := by
  have f1 := ok.fi_le a.tn
  have f2 := ok.la_le a.tn
  have tn := a.tn
  refine ⟨a.t0, by have := e.n; omega, by rw [e.m ok tn]; exact a.txt, ?_, a.k1, a.sz, a.z1, a.z64, a.pl⟩
  rw [e.m ok tn, e.m ok (by omega), e.m ok (by omega)]; exact a.cl
theorem Lg.good {S : Sh} {t k : Nat} {z : List Nat} (l : Lg S t z k) (h : z.length * k * 2 ≤ most) : S.good (.fork t t) := by
  have e := l.len
  exact ⟨⟨l.t0, l.tn⟩, ⟨l.t0, l.tn⟩, l.cl, by omega, by omega, by omega⟩
theorem Lg.fork {S : Sh} (ok : S.Ok) {t k : Nat} {z : List Nat} (l : Lg S t z k) (h : z.length * k * 2 ≤ most) : Lg (S.put (.fork t t)).2 (S.put (.fork t t)).1 z (k * 2) := by
  have g := l.good h
  have m := put_m ok g
  have e := Ext.put S (.fork t t)
  have f1 := ok.fi_le l.tn
  have f2 := ok.la_le l.tn
  refine ⟨put_pos _ _, put_le _ _, ?_, ?_, by have := l.k1; omega, by rw [← Nat.mul_assoc]; exact h, l.z1, l.z64, l.pl⟩
  · rw [m]
    show _ ++ _ = _
    rw [l.txt, show k * 2 = k + k by omega, ← List.replicate_append_replicate, List.flatten_append]
  · rw [m]
    dsimp only
    rw [e.m ok (by have := l.tn; omega), e.m ok (by have := l.tn; omega)]
    exact l.cl
def p_long : ASp
  | [.ref x, .ref st], s, Q, _ => opt (shO (s x)) (fun r => opt (strm (s st)) (fun c => Rq (0 ≤ c ∧ x ≠ st ∧ r.2.Ok ∧ r.2.n ≤ 1000000)
      (∀ (S : Sh) (c' : Int) (t : Nat) (z : List Nat) (k : Nat), S.Ok → Ext r.2 S → S.n ≤ r.2.n + 100 → 0 ≤ c' → Lg S t z k → Q (.tup [.int t, .str z, .int k]) (aup (aup s x (.shf r.1 S)) st (.lst [.int c']))) ⟨⟩) ⟨⟩) ⟨⟩
  | _, _, _, _ => False
end Sk
local macro_rules | `(tactic| walk_at "go18") => `(tactic| repeat (first | walk_at "sg1" | simp -dsimp -implicitDefEqProofs only [Sk.Ask, Sk.fl_pieces, Sk.fl_numbers, Sk.fl_signs, Sk.fl_ends, Sk.fl_leaves, Sk.fl_heights, Sk.fl_firsts, Sk.fl_lasts, Sk.fldA_r, Sk.recvO_i, Sk.p_is_plain, Sk.p_ends_in, Sk.p_many, Sk.p_ask, Sk.p_piece, Sk.p_leaf, Sk.p_fork, Sk.p_loose, Sk.p_mixed, Sk.p_digit, Sk.p_stream, Sk.recP_s, Sk.p_tree, Sk.p_lengths, Sk.p_letters, Sk.p_text] | walk_at "sg2"))
local macro_rules | `(tactic| walk_at "st18") => `(tactic| simp -dsimp -implicitDefEqProofs only [Sk.Ask, Sk.p_wantp_o, Sk.p_laid_o, Sk.p_loose_o, Sk.p_Shelf])
namespace Sk
open PySem PySem.Spec PyProof.Rows L2
theorem ok_law_long {P : Program} {w : World} {K : PySem.W.Frag} {mg : Str → Option Value} {base : Heap} (T : Tx K mg) : Cal P w K mg base (16 + 1) "_law_long" ["shelf", "row"] (spA K p_long) := by
  have nd := sc_law_long.nd
  have C_law_letters := ok_law_letters (P := P) (w := w) (base := base) T
  have C_law_tree := ok_law_tree (P := P) (w := w) (base := base) T
  have C_law_digit := ok_law_digit (P := P) (w := w) (base := base) T
  have M_Shelf_fork := ok_Shelf_fork (P := P) (w := w) (base := base) T
  refine calA T.fn_law_long T.glo_law_long sc_law_long (fun _ _ _ _ _ _ us hl => match us, hl with | [_, _], _ => rfl) (tl := [none, none, none, none, none, none]) rfl (by intro ds s Q E h; unfold p_long at h; split at h; rfl; exact h.elim) ⟨_, fun cdv A outer s H E hr => (as_cons (as_set (i := 2) nd rfl (Or.inl rfl) (ae_call C_law_letters (hr.mono (by first | omega | decide | exact Nat.le_refl _ | exact Nat.le_trans (by decide) (Nat.le_add_right _ _))) (takes_of rfl rfl rfl rfl) (aa_cons (av 1) aa_nil)))
      (as_cons (as_asg (ae_call C_law_tree (hr.mono (by first | omega | decide | exact Nat.le_refl _ | exact Nat.le_trans (by decide) (Nat.le_add_right _ _))) (takes_of rfl rfl rfl rfl) (aa_cons (av 0) (aa_cons (av 1) (aa_cons (av 2) (aa_cons (ae_call C_law_digit (hr.mono (by first | omega | decide | exact Nat.le_refl _ | exact Nat.le_trans (by decide) (Nat.le_add_right _ _))) (takes_of rfl rfl rfl rfl) (aa_cons (av 1) (aa_cons ae_int aa_nil))) (aa_cons ae_int aa_nil)))))) (ag_tup (n := 3) (by rfl) (ags_cons (ag_name (i := 3) nd rfl (Or.inl rfl)) (ags_cons (ag_name (i := 4) nd rfl (Or.inl rfl)) (ags_cons (ag_name (i := 5) nd rfl (Or.inl rfl)) ags_nil)))))
      (as_cons (as_set (i := 6) nd rfl (Or.inl rfl) ae_int)
      (as_cons (as_for (passes_of rfl) rfl (ai_rng1 (by rfl) T.free_range (aa_cons (ae_call C_law_digit (hr.mono (by first | omega | decide | exact Nat.le_refl _ | exact Nat.le_trans (by decide) (Nat.le_add_right _ _))) (takes_of rfl rfl rfl rfl) (aa_cons (av 1) (aa_cons ae_int aa_nil))) aa_nil)) (ag_name (i := 7) nd rfl (Or.inl rfl)) (as_one (as_if (at_cmp op_leAll sr_le (ae_op op_mulAll sr_mul (ae_op op_mulAll sr_mul (ae_bi call_lenAll srl_len T.free_len PySem.boot_len (aa_cons (av 4) aa_nil)) (av 6)) ae_int) (ae_op op_pow sr_pow ae_int ae_int) (nomark _)) (as_cons (as_set (i := 3) nd rfl (Or.inl rfl) (ae_methK M_Shelf_fork rfl (nsOk shNames (by decide)) (av 0) (hr.mono (by first | omega | decide | exact Nat.le_refl _ | exact Nat.le_trans (by decide) (Nat.le_add_right _ _))) (takes_of rfl rfl rfl rfl) (aa_cons (av 3) (aa_cons (av 3) aa_nil))))
      (as_one (as_set (i := 6) nd rfl (Or.inl rfl) (ae_op op_mulAll sr_mul (av 6) ae_int)))) as_nil)))
      (as_one (as_ret (ae_tup (aa_cons (av 3) (aa_cons (av 4) (aa_cons (av 6) aa_nil)))))))))), fun ds s Q E h => ?_⟩
  clear nd C_law_letters C_law_tree C_law_digit M_Shelf_fork
  unfold p_long at h
  split at h
  case h_2 => exact h.elim
  rename_i x st
  obtain ⟨ad, sh, e1, q⟩ := sh_of h
  dsimp only at q
  obtain ⟨c, hc, ⟨c0, ne, ok, hn⟩, hq⟩ := opt_of q
  clear h q
  have hst := strm_eq hc
  clear hc
  walk_at "go18"
  intro ls ⟨l1, l2, l3⟩
  have c5 : 0 ≤ c / 5 := by omega
  obtain ⟨H, eH, H1⟩ : ∃ H : Nat, c / 5 % 4 = H ∧ H ≤ 3 := ⟨(c / 5 % 4).toNat, by omega, by omega⟩
  have c8 : 0 ≤ c / 5 / 4 := by omega
  have pm : 2 ^ (H + 1) ≤ 2 ^ 4 := pow_mono2 (by omega)
  have szz : sh.n + 2 ^ (H + 1) ≤ 15000000 := by omega
  have H12 : (H : Int) ≤ 12 := by omega
  walk_at "go18"
  intro S c' t z m okS ex nS c0' T mem
  have hH : 2 ^ H ≤ 2 ^ 3 := pow_mono2 H1
  have L0 : Lg S t z 1 := ⟨T.t0, T.tn, by rw [T.txt]; simp, by rw [T.la]; have := T.fi; have := T.m1; have e : (1 : Int).toNat = 1 := rfl; rw [e] at *; omega, by decide, by have := T.len; unfold most; omega, T.len1, by have := T.len; omega, fun y hy => l2 y (mem.1 y hy)⟩
  have n1 : S.n ≤ sh.n + 16 := by omega
  clear T mem nS
  walk_at "go18"
  refine for_rng (fun i as s' => ∃ S' t' k v7, as = [some (.ref x), some (.ref st), some (.str ls), some (.int (t' : Nat)), some (.str z), some (.int m), some (.int (k : Nat)), v7] ∧ s' = aup (aup s st (.lst [.int (c' / 60)])) x (.shf ad S') ∧ S'.Ok ∧ Ext sh S' ∧ S'.n ≤ sh.n + 16 + i ∧ Lg S' t' z k)
    (.of ⟨S, t, 1, _, rfl, rfl, okS, ex, by omega, L0⟩) ?_ ?_
  · clear L0 hH n1 okS ex
    rintro i as s' hi ⟨S', t', k, v7, rfl, rfl, okS, ex, nS, L⟩
    have z64 := L.z64
    have n3 : S'.n < 16000000 := by omega
    walk_at "go18"
    refine br_dec (fun h1 => ?_) (fun h1 => ?_)
    · have h1 : ((z.length : Int) * k) * 2 ≤ 1000000000000000000 := h1
      have h2 : z.length * k * 2 ≤ most := by
        have e : ((z.length * k : Nat) : Int) = (z.length : Int) * k := Int.natCast_mul _ _
        rw [← e] at h1
        unfold most
        omega
      have g := L.good h2
      obtain ⟨⟨f1, f2⟩, f3, f4, f5⟩ := good_fork g
      have L2 := L.fork okS h2
      have ok2 := okS.put g
      have n2 := put_n S' (.fork t' t')
      clear h1 h2 z64
      walk_at "go18"
      exact .of ⟨_, _, k * 2, _, by rw [Int.natCast_mul]; rfl, rfl, ok2, ex.trans (Ext.put _ _), by omega, L2⟩
    · walk_at "go18"
      exact .of ⟨_, _, _, _, rfl, rfl, okS, ex, by omega, L⟩
  · clear L0 hH n1 okS ex
    rintro as s' ⟨S', t', k, v7, rfl, rfl, okS, ex, nS, L⟩
    have fin := hq S' (c' / 60) t' z k okS ex (by omega) (by omega) L
    rw [aup_swap ne] at fin
    walk_at "go18"
    try exact .of fin
end Sk
namespace Sk
open PySem PySem.Spec PyProof.Rows L2
/-! ### k86: a shelf as a text -/
def wc (c : Nat) : List Nat := if c = 92 then [92, 92] else if c = 10 then [92, 110] else [c]
def sub1 (c : Nat) (z : List Nat) (d : Nat) : List Nat := if d = c then z else [d]
theorem replL_1 {c : Nat} {z : List Nat} : ∀ l : List Nat, PySem.StrLaws.replL [c] z l = l.flatMap (sub1 c z)
  | [] => PySem.StrLaws.replL_nil
  | d :: r => by
    rw [List.flatMap_cons]
    by_cases h : d = c
    · subst h
      rw [PySem.StrLaws.replL_hit (by simp) rfl]
      show z ++ PySem.StrLaws.replL [d] z r = sub1 d z d ++ _
      rw [replL_1 r]
      unfold sub1
      rw [if_pos rfl]
    · rw [PySem.StrLaws.replL_miss (y := [c]) (z := z) (c := d) (r := r) (fun e => h (List.cons.inj (show [d] = [c] from e)).1), replL_1 r]
      unfold sub1
      rw [if_neg h]
      rfl
def wrL (x : List Nat) : List Nat := (Txt.replace (ofL (Txt.replace (ofL x) (Str.ofString "\\") (Str.ofString "\\\\")).cps.toList) (Str.ofString "\n") (Str.ofString "\\n")).cps.toList
theorem wrL_eq {x : List Nat} : wrL x = x.flatMap wc := by
  unfold wrL
  rw [PySem.StrLaws.replace_list (by decide), PySem.StrLaws.replace_list (by decide)]
  show PySem.StrLaws.replL [10] [92, 110] (PySem.StrLaws.replL [92] [92, 92] x) = _
  rw [replL_1, replL_1, List.flatMap_assoc]
  refine congrArg (fun f => List.flatMap f x) (funext fun c => ?_)
  unfold sub1 wc
  by_cases h : c = 92
  · rw [if_pos h, if_pos h]; rfl
  · rw [if_neg h, if_neg h]
    by_cases g : c = 10
    · rw [if_pos g]; subst g; rfl
    · rw [if_neg g]
      show (if c = 10 then [92, 110] else [c]) ++ [] = [c]
      rw [if_neg g]
      rfl
theorem wc_len {x : List Nat} : (x.flatMap wc).length ≤ 2 * x.length := by
  induction x with
  | nil => simp
  | cons c r ih =>
    rw [List.flatMap_cons, List.length_append, List.length_cons]
    have : (wc c).length ≤ 2 := by
      unfold wc
      split
      · decide
      · split
        · decide
        · exact Nat.le_succ 1
    omega
def p_written : ASp
  | [.str x], s, Q, _ => Rq (x.length ≤ 8) (Q (.str (x.flatMap wc)) s) ⟨⟩
  | _, _, _, _ => False
theorem rl1 {x : List Nat} {z : Str} (h : x.length ≤ 8) (hz : z.length = 2) : (ofL x).length + ((ofL x).length + 1) * z.length ≤ 16777216 := by
  rw [ofL_len, hz]; omega
theorem rl2 {x : List Nat} {y z v : Str} (h : x.length ≤ 8) (hz : z.length = 2) (hv : v.length = 2) : (ofL (Txt.replace (ofL x) y z).cps.toList).length + ((ofL (Txt.replace (ofL x) y z).cps.toList).length + 1) * v.length ≤ 16777216 := by
  have := TK.replace_len (ofL x) y z
  rw [ofL_len, hz] at this
  rw [ofL_toList, hv]
  omega
end Sk
local macro_rules | `(tactic| walk_at "go19") => `(tactic| repeat (first | walk_at "sg1" | simp -dsimp -implicitDefEqProofs only [Sk.Ask, Sk.fl_pieces, Sk.fl_numbers, Sk.fl_signs, Sk.fl_ends, Sk.fl_leaves, Sk.fl_heights, Sk.fl_firsts, Sk.fl_lasts, Sk.fldA_r, Sk.recvO_i, Sk.p_is_plain, Sk.p_ends_in, Sk.p_many, Sk.p_ask, Sk.p_piece, Sk.p_leaf, Sk.p_fork, Sk.p_loose, Sk.p_mixed, Sk.p_digit, Sk.p_stream, Sk.recP_s, Sk.p_tree, Sk.p_lengths, Sk.p_letters, Sk.p_text, Sk.p_long, Sk.u_mRpl, Sk.strD1_s] | walk_at "sg2"))
local macro_rules | `(tactic| walk_at "st19") => `(tactic| simp -dsimp -implicitDefEqProofs only [Sk.Ask, Sk.p_wantp_o, Sk.p_laid_o, Sk.p_loose_o, Sk.p_Shelf])
namespace Sk
open PySem PySem.Spec PyProof.Rows L2
theorem ok_written {P : Program} {w : World} {K : PySem.W.Frag} {mg : Str → Option Value} {base : Heap} (T : Tx K mg) : Cal P w K mg base (0 + 1) "written" ["plain"] (spA K p_written) := by
  have nd := sc_written.nd
  refine calAT T.fn_written T.glo_written sc_written (fun _ _ _ _ _ _ us hl => match us, hl with | [_], _ => rfl) (by decide) (by decide) (tl := []) rfl (by intro ds s Q E h; unfold p_written at h; split at h; rfl; exact h.elim) ⟨_, fun cdv A outer s H E hr => (asst_ret (aet_replT (aet_repl (av 0)))), fun ds s Q E h => ?_⟩
  clear nd
  unfold p_written at h
  split at h
  case h_2 => exact h.elim
  rename_i x
  obtain ⟨h8, hq⟩ := h
  rw [← wrL_eq] at hq
  unfold wrL at hq
  walk_at "go19"
  refine rq_in (rl1 h8 rfl) ?_
  walk_at "go19"
  refine rq_in (rl2 h8 rfl rfl) ?_
  walk_at "go19"
  try exact .of hq
def rowL : Pc → List Nat
  | .leaf z => [108, 101, 97, 102, 32] ++ z.flatMap wc
  | .fork a b => [102, 111, 114, 107, 32] ++ numS (a : Int) ++ [32] ++ numS (b : Int)
def SmallP : Pc → Prop
  | .leaf z => z.length ≤ 8
  | .fork a b => a ≤ 1000000 ∧ b ≤ 1000000
theorem numS_len {a : Nat} (h : a ≤ 1000000) : (numS (a : Int)).length ≤ 25 := by
  have hl : ((a : Int).natAbs).log2 < 24 := by
    show a.log2 < 24
    by_cases h0 : a = 0
    · subst h0; decide
    · exact (Nat.log2_lt h0).mpr (by omega)
  have := PySem.int_text_length_le (k := 24) (by decide) hl
  have e := PySem.ofString_length (toString (a : Int))
  show (Str.ofString (toString (a : Int))).length ≤ 25
  omega
theorem rowL_len {q : Pc} (h : SmallP q) : (rowL q).length ≤ 100 := by
  cases q with
  | leaf z =>
    have h : z.length ≤ 8 := h
    have := wc_len (x := z)
    show ([108, 101, 97, 102, 32] ++ z.flatMap wc).length ≤ 100
    rw [List.length_append]
    simp only [List.length_cons, List.length_nil]
    omega
  | fork a b =>
    have h : a ≤ 1000000 ∧ b ≤ 1000000 := h
    have := numS_len h.1
    have := numS_len h.2
    show ([102, 111, 114, 107, 32] ++ numS (a : Int) ++ [32] ++ numS (b : Int)).length ≤ 100
    rw [List.length_append, List.length_append, List.length_append]
    simp only [List.length_cons, List.length_nil]
    omega
theorem log1920 {a : Nat} (h : a ≤ 1000000) : ((a : Int).natAbs).log2 < 1920 := by
  show a.log2 < 1920
  by_cases h0 : a = 0
  · subst h0; decide
  · exact Nat.lt_trans ((Nat.log2_lt h0).mpr (show a < 2 ^ 24 by omega)) (by decide)
def p_prow : ASp
  | [d], s, Q, _ => ∃ q, Rq (d = pcD q ∧ SmallP q) (Q (.str (rowL q)) s) ⟨⟩
  | _, _, _, _ => False
end Sk
local macro_rules | `(tactic| walk_at "go20") => `(tactic| repeat (first | walk_at "sg1" | simp -dsimp -implicitDefEqProofs only [Sk.Ask, Sk.fl_pieces, Sk.fl_numbers, Sk.fl_signs, Sk.fl_ends, Sk.fl_leaves, Sk.fl_heights, Sk.fl_firsts, Sk.fl_lasts, Sk.fldA_r, Sk.recvO_i, Sk.p_is_plain, Sk.p_ends_in, Sk.p_many, Sk.p_ask, Sk.p_piece, Sk.p_leaf, Sk.p_fork, Sk.p_loose, Sk.p_mixed, Sk.p_digit, Sk.p_stream, Sk.recP_s, Sk.p_tree, Sk.p_lengths, Sk.p_letters, Sk.p_text, Sk.p_long, Sk.u_mRpl, Sk.strD1_s, Sk.p_written, Sk.u_aFmt, Sk.u_aJl0, Sk.u_aJl1, Sk.fmtL_s, Sk.fmtL_i] | walk_at "sg2"))
local macro_rules | `(tactic| walk_at "st20") => `(tactic| simp -dsimp -implicitDefEqProofs only [Sk.Ask, Sk.p_wantp_o, Sk.p_laid_o, Sk.p_loose_o, Sk.p_Shelf])
namespace Sk
open PySem PySem.Spec PyProof.Rows L2
theorem ok_piece_row {P : Program} {w : World} {K : PySem.W.Frag} {mg : Str → Option Value} {base : Heap} (T : Tx K mg) : Cal P w K mg base (1 + 1) "piece_row" ["piece"] (spA K p_prow) := by
  have nd := sc_piece_row.nd
  have C_written := ok_written (P := P) (w := w) (base := base) T
  refine calA T.fn_piece_row T.glo_piece_row sc_piece_row (fun _ _ _ _ _ _ us hl => match us, hl with | [_], _ => rfl) (tl := [none, none, none]) rfl (by intro ds s Q E h; unfold p_prow at h; split at h; rfl; exact h.elim) ⟨_, fun cdv A outer s H E hr => (as_cons (as_if (at_cmp (op_eqAll hr.units) sr_eq (ae_ix (ix_all (Room.units1 hr)) sr_ix (av 0) ae_int (fun _ _ => rfl)) (ae_strL (z := [108, 101, 97, 102]) (by first | rfl | kernel_rfl)) (nomark _)) (as_one (as_ret (ae_op op_addAll sr_add (ae_strL (z := [108, 101, 97, 102, 32]) (by first | rfl | kernel_rfl)) (ae_call C_written (hr.mono (by first | omega | decide | exact Nat.le_refl _ | exact Nat.le_trans (by decide) (Nat.le_add_right _ _))) (takes_of rfl rfl rfl rfl) (aa_cons (ae_ix (ix_all (Room.units1 hr)) sr_ix (av 0) ae_int (fun _ _ => rfl)) aa_nil))))) as_nil)
      (as_cons (as_asg (av 0) (ag_tup (n := 3) (by rfl) (ags_cons (ag_name (i := 1) nd rfl (Or.inl rfl)) (ags_cons (ag_name (i := 2) nd rfl (Or.inl rfl)) (ags_cons (ag_name (i := 3) nd rfl (Or.inl rfl)) ags_nil)))))
      (as_one (as_ret (ae_joined (AJ.cons (ae_strL (z := [102, 111, 114, 107, 32]) (by first | rfl | kernel_rfl)) (AJ.cons (ae_fmt (av 2)) (AJ.cons (ae_strL (z := [32]) (by first | rfl | kernel_rfl)) (AJ.cons (ae_fmt (av 3)) AJ.nil))))))))), fun ds s Q E h => ?_⟩
  clear nd C_written
  unfold p_prow at h
  split at h
  case h_2 => exact h.elim
  rename_i d
  obtain ⟨q, ⟨rfl, sm⟩, hq⟩ := h
  cases q with
  | leaf z =>
    have z8 : z.length ≤ 8 := sm
    have wl := wc_len (x := z)
    have wl2 : 5 + (z.flatMap wc).length ≤ 16777216 := by omega
    unfold rowL at hq
    unfold pcD
    walk_at "go20"
    try exact .of hq
  | fork a b =>
    obtain ⟨a1, b1⟩ : a ≤ 1000000 ∧ b ≤ 1000000 := sm
    have l1 := numS_len a1
    have l2 := numS_len b1
    have g1 := log1920 a1
    have g2 := log1920 b1
    unfold rowL at hq
    unfold pcD
    walk_at "go20"
    try exact .of hq

/-! a shelf's text -/
theorem alc_rng9 {lo : Int} {n : Nat} {v : Nat → D} {G : Ah → Prop} {g : ATG} {te : ATE} {as : ASt} {s : Ah} {Q : AVK} (hl : n < 16777216) (hG : G s)
    (hs : ∀ i < n, ∀ k : AVK, k (v i) s → g (.int (lo + i)) as s fun as2 s2 => te as2 s2 k noX) (hq : Q (.lst ((List.range n).map v)) s) : AskLc (rng lo n) G g aYes te as s Q ⟨⟩ :=
  alc_map (l := List.range n) (e := fun i : Nat => .int (lo + i)) (v := v) (by rw [List.length_range]; exact hl) hG (fun i hi k hk => hs i (List.mem_range.mp hi) k hk) hq
def txS (S : Sh) : List Nat := TL.joinL [10] (S.ps.map rowL)
def SmS (S : Sh) : Prop := ∀ q ∈ S.ps, SmallP q
theorem smS {S : Sh} (ok : S.Ok) (n : S.n ≤ 1000000) : SmS S := fun q hq => by
  obtain ⟨i, hi, e⟩ := List.mem_iff_getElem.mp hq
  obtain ⟨r, at_⟩ := ok.at_ (i + 1) (by omega) (by show i + 1 ≤ S.ps.length; omega)
  have e2 : S.ps[i]? = some r := at_.det
  rw [List.getElem?_eq_getElem hi, e] at e2
  cases e2
  cases q with
  | leaf z => cases at_; assumption
  | fork a b =>
    have : i < S.n := hi
    cases at_
    exact ⟨by omega, by omega⟩
theorem pc_sm {S : Sh} (h : SmS S) {k : Nat} (hk : k < S.n) : SmallP (S.pc (0 + (k : Int) + 1)) := by
  refine h _ ?_
  unfold Sh.pc
  have hk : k < S.ps.length := hk
  rw [show (0 + (k : Int) + 1).toNat - 1 = k by omega, List.getD_eq_getElem?_getD, List.getElem?_eq_getElem hk]
  exact List.getElem_mem hk
theorem rows_rng {S : Sh} : (List.range S.n).map (fun k : Nat => rowL (S.pc (0 + (k : Int) + 1))) = S.ps.map rowL := by
  refine List.ext_getElem? fun j => ?_
  rw [List.getElem?_map, List.getElem?_map]
  by_cases h : j < S.n
  · have hj : j < S.ps.length := h
    rw [List.getElem?_range h, List.getElem?_eq_getElem hj]
    show some (rowL (S.pc (0 + (j : Int) + 1))) = _
    unfold Sh.pc
    rw [show (0 + (j : Int) + 1).toNat - 1 = j by omega, List.getD_eq_getElem?_getD, List.getElem?_eq_getElem hj]
    rfl
  · have hj : ¬ j < S.ps.length := h
    rw [List.getElem?_eq_none (by rw [List.length_range]; omega), List.getElem?_eq_none (by omega)]
    rfl
theorem strsD_m {α : Type} {f : α → List Nat} : ∀ l : List α, strsD (l.map fun x => D.str (f x)) = some (l.map f)
  | [] => rfl
  | a :: l => by show (strsD _).map _ = _; rw [strsD_m l]; rfl
theorem sum_rows {S : Sh} (h : SmS S) : ((S.ps.map rowL).map List.length).sum ≤ 100 * S.n := by
  have : ∀ l : List Pc, (∀ q ∈ l, SmallP q) → ((l.map rowL).map List.length).sum ≤ 100 * l.length := by
    intro l
    induction l with
    | nil => intro _; exact Nat.le_refl _
    | cons q l ih =>
      intro h
      have h1 := rowL_len (h q List.mem_cons_self)
      have h2 := ih fun r hr => h r (List.mem_cons_of_mem _ hr)
      rw [List.map_cons, List.map_cons, List.sum_cons, List.length_cons]
      omega
  exact this _ h
def p_shtext (K : PySem.W.Frag) : ASp
  | [.ref x], s, Q, _ => opt (shO (s x)) (fun r => Rq (r.2.Ok ∧ r.2.n ≤ 10000) (Q (.str (txS r.2)) s) ⟨⟩) ⟨⟩
  | _, _, _, _ => False
end Sk
local macro_rules | `(tactic| walk_at "go21") => `(tactic| repeat (first | walk_at "sg1" | simp -dsimp -implicitDefEqProofs only [Sk.Ask, Sk.fl_pieces, Sk.fl_numbers, Sk.fl_signs, Sk.fl_ends, Sk.fl_leaves, Sk.fl_heights, Sk.fl_firsts, Sk.fl_lasts, Sk.fldA_r, Sk.recvO_i, Sk.p_is_plain, Sk.p_ends_in, Sk.p_many, Sk.p_ask, Sk.p_piece, Sk.p_leaf, Sk.p_fork, Sk.p_loose, Sk.p_mixed, Sk.p_digit, Sk.p_stream, Sk.recP_s, Sk.p_tree, Sk.p_lengths, Sk.p_letters, Sk.p_text, Sk.p_long, Sk.u_mRpl, Sk.strD1_s, Sk.p_written, Sk.u_aFmt, Sk.u_aJl0, Sk.u_aJl1, Sk.fmtL_s, Sk.fmtL_i, Sk.p_prow] | walk_at "sg2"))
local macro_rules | `(tactic| walk_at "st21") => `(tactic| simp -dsimp -implicitDefEqProofs only [Sk.Ask, Sk.p_wantp_o, Sk.p_laid_o, Sk.p_loose_o, Sk.p_Shelf])
namespace Sk
open PySem PySem.Spec PyProof.Rows L2
theorem ok_shelf_text {P : Program} {w : World} {K : PySem.W.Frag} {mg : Str → Option Value} {base : Heap} (T : Tx K mg) : Cal P w K mg base (2 + 1) "shelf_text" ["shelf"] (spA K (p_shtext K)) := by
  have nd := sc_shelf_text.nd
  have C_piece_row := ok_piece_row (P := P) (w := w) (base := base) T
  have M_Shelf_piece := ok_Shelf_piece (P := P) (w := w) (base := base) T
  have M_Shelf_many := ok_Shelf_many (P := P) (w := w) (base := base) T
  refine calA T.fn_shelf_text T.glo_shelf_text sc_shelf_text (fun _ _ _ _ _ _ us hl => match us, hl with | [_], _ => rfl) (tl := [none]) rfl (by intro ds s Q E h; unfold p_shtext at h; split at h; rfl; exact h.elim) ⟨_, fun cdv A outer s H E hr => (as_one (as_ret (ae_sm PySem.F.slot_str_join PySem.F.type_str_join mt_join srs_join (ae_strL (z := [10]) (by first | rfl | kernel_rfl)) (ae_lc (own := [("number", 1)]) rfl nd (ai_rng1 (by rfl) T.free_range (aa_cons (ae_meth0K M_Shelf_many rfl (nsOk shNames (by decide)) (av 0) (hr.mono (by first | omega | decide | exact Nat.le_refl _ | exact Nat.le_trans (by decide) (Nat.le_add_right _ _))) (takes_of rfl rfl rfl rfl)) aa_nil)) (blkOk_by (own := [("number", 1)]) (N := ["shelf", "number"]) (sc := defScope s_shelf_text) (by decide +kernel)) (by decide) (fun _ _ _ _ _ => (ag_name (i := 1) nd rfl (Or.inl rfl))) (fun _ _ _ _ _ => ats_nil) (fun _ _ _ _ _ => (ae_call C_piece_row (hr.mono (by first | omega | decide | exact Nat.le_refl _ | exact Nat.le_trans (by decide) (Nat.le_add_right _ _))) takes0 (aa_cons (ae_methK M_Shelf_piece rfl (nsOk shNames (by decide)) (av 0) (hr.mono (by first | omega | decide | exact Nat.le_refl _ | exact Nat.le_trans (by decide) (Nat.le_add_right _ _))) takes0 (aa_cons (ae_op op_addAll sr_add (av 1) ae_int) aa_nil)) aa_nil))))))), fun ds s Q E h => ?_⟩
  clear nd C_piece_row M_Shelf_piece M_Shelf_many
  unfold p_shtext at h
  split at h
  case h_2 => exact h.elim
  rename_i x
  obtain ⟨ad, sh, e1, q⟩ := sh_of h
  dsimp only at q
  obtain ⟨⟨ok, nn⟩, hq⟩ := q
  clear h
  have sm := smS ok (by omega)
  have sr := sum_rows sm
  walk_at "go21"
  refine alc_rng9 (G := tt_) (n := sh.n) (v := fun i : Nat => .str (rowL (sh.pc (0 + (i : Int) + 1)))) (by omega) trivial (fun i hi k hk => ?_) ?_
  · have hp : sh.hasP (0 + (i : Int) + 1) := ⟨by omega, by omega⟩
    have sp := pc_sm sm hi
    clear hq
    walk_at "go21"
    refine ⟨_, rq_in ⟨rfl, sp⟩ ?_⟩
    walk_at "go21"
    try exact hk
  have sd := strsD_m (f := fun i : Nat => rowL (sh.pc (0 + (i : Int) + 1))) (List.range sh.n)
  rw [rows_rng] at sd
  have szl : ((sh.ps.map rowL).map List.length).sum + (sh.ps.map rowL).length * 1 ≤ 16777216 := by rw [List.length_map]; have : sh.ps.length = sh.n := rfl; omega
  walk_at "go21"
  refine rq_in (by rw [List.length_map] at szl; exact szl) ?_
  walk_at "go21"
  try exact .of hq
end Sk
namespace Sk
open PySem PySem.Spec PyProof.Rows L2
/-! ### k86: written here -/
def kv86 : List (Key × D) := putA (putA [] (Sum.inr (ofL [10])) (.str [92, 110])) (Sum.inr (ofL [92])) (.str [92, 92])
theorem kv86_10 : valA kv86 (Sum.inr (ofL [10])) = some (.str [92, 110]) := rfl
theorem kv86_92 : valA kv86 (Sum.inr (ofL [92])) = some (.str [92, 92]) := rfl
theorem kv86_c {c : Nat} (h1 : c ≠ 10) (h2 : c ≠ 92) : valA kv86 (Sum.inr (ofL [c])) = none := by
  have e : kv86 = [(Sum.inr (ofL [10]), .str [92, 110]), (Sum.inr (ofL [92]), .str [92, 92])] := rfl
  have n1 : ¬ (Sum.inr (ofL [10]) : Key) = Sum.inr (ofL [c]) := fun z => h1 (List.cons.inj (ofL_inj (Sum.inr.inj z))).1.symm
  have n2 : ¬ (Sum.inr (ofL [92]) : Key) = Sum.inr (ofL [c]) := fun z => h2 (List.cons.inj (ofL_inj (Sum.inr.inj z))).1.symm
  rw [e, valA_neg (p := ((Sum.inr (ofL [10]) : Key), D.str [92, 110])) n1, valA_neg (p := ((Sum.inr (ofL [92]) : Key), D.str [92, 92])) n2]
  rfl
theorem getA_86 {t : Ah} {q : Addr} {y : List Nat} : getA (aup t q (.dK (putA (putA [] (Sum.inr (ofL [10])) (.str [92, 110])) (Sum.inr (ofL [92])) (.str [92, 92])))) q (.str y) = some (valA kv86 (Sum.inr (ofL y))) := by
  unfold getA
  rw [aup_same]
  rfl
def p_lwritten : ASp
  | [.str z], s, Q, _ => Rq (z.length ≤ 8) (Q (.str (z.flatMap wc)) s) ⟨⟩
  | _, _, _, _ => False
end Sk
local macro_rules | `(tactic| walk_at "go22") => `(tactic| repeat (first | walk_at "sg1" | simp -dsimp -implicitDefEqProofs only [Sk.Ask, Sk.fl_pieces, Sk.fl_numbers, Sk.fl_signs, Sk.fl_ends, Sk.fl_leaves, Sk.fl_heights, Sk.fl_firsts, Sk.fl_lasts, Sk.fldA_r, Sk.recvO_i, Sk.p_is_plain, Sk.p_ends_in, Sk.p_many, Sk.p_ask, Sk.p_piece, Sk.p_leaf, Sk.p_fork, Sk.p_loose, Sk.p_mixed, Sk.p_digit, Sk.p_stream, Sk.recP_s, Sk.p_tree, Sk.p_lengths, Sk.p_letters, Sk.p_text, Sk.p_long, Sk.u_mRpl, Sk.strD1_s, Sk.p_written, Sk.u_aFmt, Sk.u_aJl0, Sk.u_aJl1, Sk.fmtL_s, Sk.fmtL_i, Sk.p_prow, Sk.p_shtext, Sk.getA_86, Sk.kv86_10, Sk.kv86_92] | walk_at "sg2"))
local macro_rules | `(tactic| walk_at "st22") => `(tactic| simp -dsimp -implicitDefEqProofs only [Sk.Ask, Sk.p_wantp_o, Sk.p_laid_o, Sk.p_loose_o, Sk.p_Shelf])
namespace Sk
open PySem PySem.Spec PyProof.Rows L2
theorem ok_law_written {P : Program} {w : World} {K : PySem.W.Frag} {mg : Str → Option Value} {base : Heap} (T : Tx K mg) : Cal P w K mg base (0 + 1) "_law_written" ["plain"] (spA K p_lwritten) := by
  have nd := sc_law_written.nd
  refine calA T.fn_law_written T.glo_law_written sc_law_written (fun _ _ _ _ _ _ us hl => match us, hl with | [_], _ => rfl) (tl := [none, none]) rfl (by intro ds s Q E h; unfold p_lwritten at h; split at h; rfl; exact h.elim) ⟨_, fun cdv A outer s H E hr => (as_cons (as_set (i := 1) nd rfl (Or.inl rfl) (ae_strL (z := []) (by first | rfl | kernel_rfl)))
      (as_cons (as_for (passes_of rfl) rfl (ai_any (av 0)) (ag_name (i := 2) nd rfl (Or.inl rfl)) (as_one (as_set (i := 1) nd rfl (Or.inl rfl) (ae_op op_addAll sr_add (av 1) (ae_dget2 (Room.units1 hr) (ae_disp (aps_cons (ae_strL (z := [10]) (by first | rfl | kernel_rfl)) (ae_strL (z := [92, 110]) (by first | rfl | kernel_rfl)) (aps_cons (ae_strL (z := [92]) (by first | rfl | kernel_rfl)) (ae_strL (z := [92, 92]) (by first | rfl | kernel_rfl)) aps_nil)) rfl rfl (List.cons_ne_nil _ _) (by decide)) (av 2) (av 2) ⟨by rfl, by rfl, by rfl, by rfl⟩)))))
      (as_one (as_ret (av 1))))), fun ds s Q E h => ?_⟩
  clear nd
  unfold p_lwritten at h
  split at h
  case h_2 => exact h.elim
  rename_i z
  obtain ⟨z8, hq⟩ := h
  have ln := wc_len (x := z)
  walk_at "go22"
  refine for_lst (fun i as s' => s' = s ∧ ∃ v, as = [some (.str z), some (.str ((z.take i).flatMap wc)), v]) (.of ⟨rfl, _, rfl⟩) ?_ ?_
  · rintro i d as s' hd ⟨rfl, v, rfl⟩
    unfold sgs at hd
    rw [List.getElem?_map] at hd
    obtain ⟨c, hc, rfl⟩ := Option.map_eq_some_iff.mp hd
    have hi := (List.getElem?_eq_some_iff.mp hc).1
    have et : (z.take (i + 1)).flatMap wc = (z.take i).flatMap wc ++ wc c := by
      rw [List.take_add_one, hc, List.flatMap_append]
      show _ ++ ([c].flatMap wc) = _
      rw [List.flatMap_cons, List.flatMap_nil, List.append_nil]
    have li := wc_len (x := z.take i)
    have lt := List.length_take_le i z
    have l20 : ((z.take i).flatMap wc).length ≤ 16 := by omega
    clear hd hq
    have l21 : ((z.take i).flatMap wc).length + 2 ≤ 16777216 := by omega
    have l22 : ((z.take i).flatMap wc).length + 1 ≤ 16777216 := by omega
    by_cases c10 : c = 10
    · subst c10
      have ew : wc 10 = [92, 110] := rfl
      rw [ew] at et
      clear ew
      walk_at "go22"
      exact .less (Le.aup (by assumption)) ⟨rfl, _, rfl⟩
    by_cases c92 : c = 92
    · subst c92
      have ew : wc 92 = [92, 92] := rfl
      rw [ew] at et
      clear ew
      walk_at "go22"
      exact .less (Le.aup (by assumption)) ⟨rfl, _, rfl⟩
    have kc := kv86_c c10 c92
    have ew : wc c = [c] := by unfold wc; rw [if_neg c92, if_neg c10]
    rw [ew] at et
    clear ew
    walk_at "go22"
    exact .less (Le.aup (by assumption)) ⟨rfl, _, rfl⟩
  · rintro as s' ⟨rfl, v, rfl⟩
    have e : z.take (sgs z).length = z := by unfold sgs; rw [List.length_map, List.take_length]
    rw [e]
    walk_at "go22"
    try exact .of hq
def p_lshtext (K : PySem.W.Frag) : ASp
  | [.ref x], s, Q, _ => opt (shO (s x)) (fun r => Rq (r.2.Ok ∧ r.2.n ≤ 10000) (Q (.str (txS r.2)) s) ⟨⟩) ⟨⟩
  | _, _, _, _ => False
theorem take_pc {S : Sh} {i : Nat} (h : i < S.n) : (S.ps.take (i + 1)).map (fun q => D.str (rowL q)) = (S.ps.take i).map (fun q => D.str (rowL q)) ++ [.str (rowL (S.pc (1 + (i : Int))))] := by
  have hj : i < S.ps.length := h
  rw [List.take_add_one, List.map_append, List.getElem?_eq_getElem hj]
  have e : S.pc (1 + (i : Int)) = S.ps[i] := by
    unfold Sh.pc
    rw [show (1 + (i : Int)).toNat - 1 = i by omega, List.getD_eq_getElem?_getD, List.getElem?_eq_getElem hj]
    rfl
  rw [e]
  rfl
end Sk
local macro_rules | `(tactic| walk_at "go23") => `(tactic| repeat (first | walk_at "sg1" | simp -dsimp -implicitDefEqProofs only [Sk.Ask, Sk.fl_pieces, Sk.fl_numbers, Sk.fl_signs, Sk.fl_ends, Sk.fl_leaves, Sk.fl_heights, Sk.fl_firsts, Sk.fl_lasts, Sk.fldA_r, Sk.recvO_i, Sk.p_is_plain, Sk.p_ends_in, Sk.p_many, Sk.p_ask, Sk.p_piece, Sk.p_leaf, Sk.p_fork, Sk.p_loose, Sk.p_mixed, Sk.p_digit, Sk.p_stream, Sk.recP_s, Sk.p_tree, Sk.p_lengths, Sk.p_letters, Sk.p_text, Sk.p_long, Sk.u_mRpl, Sk.strD1_s, Sk.p_written, Sk.u_aFmt, Sk.u_aJl0, Sk.u_aJl1, Sk.fmtL_s, Sk.fmtL_i, Sk.p_prow, Sk.p_shtext, Sk.getA_86, Sk.kv86_10, Sk.kv86_92, Sk.p_lwritten] | walk_at "sg2"))
local macro_rules | `(tactic| walk_at "st23") => `(tactic| simp -dsimp -implicitDefEqProofs only [Sk.Ask, Sk.p_wantp_o, Sk.p_laid_o, Sk.p_loose_o, Sk.p_Shelf])
namespace Sk
open PySem PySem.Spec PyProof.Rows L2
theorem ok_law_shelf_text {P : Program} {w : World} {K : PySem.W.Frag} {mg : Str → Option Value} {base : Heap} (T : Tx K mg) : Cal P w K mg base (2 + 1) "_law_shelf_text" ["shelf"] (spA K (p_lshtext K)) := by
  have nd := sc_law_shelf_text.nd
  have M_Shelf_piece := ok_Shelf_piece (P := P) (w := w) (base := base) T
  have M_Shelf_many := ok_Shelf_many (P := P) (w := w) (base := base) T
  have C_law_written := ok_law_written (P := P) (w := w) (base := base) T
  refine calA T.fn_law_shelf_text T.glo_law_shelf_text sc_law_shelf_text (fun _ _ _ _ _ _ us hl => match us, hl with | [_], _ => rfl) (tl := [none, none, none]) rfl (by intro ds s Q E h; unfold p_lshtext at h; split at h; rfl; exact h.elim) ⟨_, fun cdv A outer s H E hr => (as_cons (as_set (i := 1) nd rfl (Or.inl rfl) (ae_lstO aa_nil))
      (as_cons (as_for (passes_of rfl) rfl (ai_rng2 (by rfl) T.free_range (aa_cons ae_int (aa_cons (ae_op op_addAll sr_add (ae_meth0K M_Shelf_many rfl (nsOk shNames (by decide)) (av 0) (hr.mono (by first | omega | decide | exact Nat.le_refl _ | exact Nat.le_trans (by decide) (Nat.le_add_right _ _))) (takes_of rfl rfl rfl rfl)) ae_int) aa_nil))) (ag_name (i := 2) nd rfl (Or.inl rfl)) (as_cons (as_set (i := 3) nd rfl (Or.inl rfl) (ae_methK M_Shelf_piece rfl (nsOk shNames (by decide)) (av 0) (hr.mono (by first | omega | decide | exact Nat.le_refl _ | exact Nat.le_trans (by decide) (Nat.le_add_right _ _))) (takes_of rfl rfl rfl rfl) (aa_cons (av 2) aa_nil)))
      (as_one (as_if (at_cmp (op_eqAll hr.units) sr_eq (ae_ix (ix_all (Room.units1 hr)) sr_ix (av 3) ae_int (fun _ _ => rfl)) (ae_strL (z := [108, 101, 97, 102]) (by first | rfl | kernel_rfl)) (nomark _)) (as_one (as_expr (ae_lm PySem.F.slot_list_append PySem.F.type_list_append mt_append srm_append (av 1) (aa_cons (ae_op op_addAll sr_add (ae_strL (z := [108, 101, 97, 102, 32]) (by first | rfl | kernel_rfl)) (ae_call C_law_written (hr.mono (by first | omega | decide | exact Nat.le_refl _ | exact Nat.le_trans (by decide) (Nat.le_add_right _ _))) (takes_of rfl rfl rfl rfl) (aa_cons (ae_ix (ix_all (Room.units1 hr)) sr_ix (av 3) ae_int (fun _ _ => rfl)) aa_nil))) aa_nil)))) (as_one (as_expr (ae_lm PySem.F.slot_list_append PySem.F.type_list_append mt_append srm_append (av 1) (aa_cons (ae_op op_addAll sr_add (ae_op op_addAll sr_add (ae_op op_addAll sr_add (ae_strL (z := [102, 111, 114, 107, 32]) (by first | rfl | kernel_rfl)) (ae_ty call_str_int srl_str T.free_str bt_str (aa_cons (ae_ix (ix_all (Room.units1 hr)) sr_ix (av 3) ae_int (fun _ _ => rfl)) aa_nil))) (ae_strL (z := [32]) (by first | rfl | kernel_rfl))) (ae_ty call_str_int srl_str T.free_str bt_str (aa_cons (ae_ix (ix_all (Room.units1 hr)) sr_ix (av 3) ae_int (fun _ _ => rfl)) aa_nil))) aa_nil))))))))
      (as_one (as_ret (ae_sm PySem.F.slot_str_join PySem.F.type_str_join mt_join srs_join (ae_strL (z := [10]) (by first | rfl | kernel_rfl)) (av 1)))))), fun ds s Q E h => ?_⟩
  clear nd M_Shelf_piece M_Shelf_many C_law_written
  unfold p_lshtext at h
  split at h
  case h_2 => exact h.elim
  rename_i x
  obtain ⟨ad, sh, e1, q⟩ := sh_of h
  dsimp only at q
  obtain ⟨⟨ok, nn⟩, hq⟩ := q
  clear h
  have sm := smS ok (by omega)
  have sr := sum_rows sm
  walk_at "go23"
  rename_i p hp
  have px : p ≠ x := fun z => by rw [← z, hp] at e1; cases e1
  have xp : x ≠ p := fun z => px z.symm
  refine for_rng (fun i as s' => ∃ v w, s' = aup s p (.lst ((sh.ps.take i).map fun q => D.str (rowL q))) ∧ as = [some (.ref x), some (.ref p), v, w]) (.of ⟨_, _, rfl, rfl⟩) ?_ ?_
  · rintro i as s' hi ⟨v, w, rfl, rfl⟩
    have hi2 : i < sh.n := by omega
    have hp : sh.hasP (1 + (i : Int)) := ⟨by omega, by omega⟩
    have et := take_pc hi2
    have sq := pc_sm sm hi2
    rw [show (0 : Int) + (i : Int) + 1 = 1 + (i : Int) by omega] at sq
    have lt : ((sh.ps.take i).map fun q => D.str (rowL q)).length < 16777216 := by rw [List.length_map]; have := List.length_take_le i sh.ps; omega
    obtain ⟨q, eq⟩ : ∃ q, sh.pc (1 + (i : Int)) = q := ⟨_, rfl⟩
    rw [eq] at sq et
    cases q with
    | leaf z =>
      have z8 : z.length ≤ 8 := sq
      have wl := wc_len (x := z)
      have wl2 : 5 + (z.flatMap wc).length ≤ 16777216 := by omega
      have er : rowL (.leaf z) = [108, 101, 97, 102, 32] ++ z.flatMap wc := rfl
      rw [er] at et
      clear er hq sr
      walk_at "go23"
      exact .of ⟨_, _, rfl, rfl⟩
    | fork a b =>
      obtain ⟨a1, b1⟩ : a ≤ 1000000 ∧ b ≤ 1000000 := sq
      have l1 := numS_len a1
      have l2 := numS_len b1
      have g1 := log1920 a1
      have g2 := log1920 b1
      have er : rowL (.fork a b) = [102, 111, 114, 107, 32] ++ numS (a : Int) ++ [32] ++ numS (b : Int) := rfl
      rw [er] at et
      clear er hq sr
      walk_at "go23"
      exact .of ⟨_, _, rfl, rfl⟩
  · rintro as s' ⟨v, w, rfl, rfl⟩
    rw [show (((sh.n : Nat) : Int) + 1 - 1).toNat = sh.ps.length by have : sh.ps.length = sh.n := rfl; omega, List.take_length]
    have sd := strsD_m (f := rowL) sh.ps
    have szl : ((sh.ps.map rowL).map List.length).sum + (sh.ps.map rowL).length * 1 ≤ 16777216 := by rw [List.length_map]; have : sh.ps.length = sh.n := rfl; omega
    walk_at "go23"
    refine rq_in (by rw [List.length_map] at szl; exact szl) ?_
    walk_at "go23"
    exact .less (Le.aup hp) hq
def p_drawnS : ASp
  | [d], s, Q, _ => ∃ ns : List Int, Rq (d = .scr (ns.map D.int) ∧ ns.length ≤ 63) (∀ p, s p = none → ∀ ad S, S.Ok → S.n ≤ 1000 → Q (.ref p) (aup s p (.shf ad S))) ⟨⟩
  | _, _, _, _ => False
end Sk
local macro_rules | `(tactic| walk_at "go24") => `(tactic| repeat (first | walk_at "sg1" | simp -dsimp -implicitDefEqProofs only [Sk.Ask, Sk.fl_pieces, Sk.fl_numbers, Sk.fl_signs, Sk.fl_ends, Sk.fl_leaves, Sk.fl_heights, Sk.fl_firsts, Sk.fl_lasts, Sk.fldA_r, Sk.recvO_i, Sk.p_is_plain, Sk.p_ends_in, Sk.p_many, Sk.p_ask, Sk.p_piece, Sk.p_leaf, Sk.p_fork, Sk.p_loose, Sk.p_mixed, Sk.p_digit, Sk.p_stream, Sk.recP_s, Sk.p_tree, Sk.p_lengths, Sk.p_letters, Sk.p_text, Sk.p_long, Sk.u_mRpl, Sk.strD1_s, Sk.p_written, Sk.u_aFmt, Sk.u_aJl0, Sk.u_aJl1, Sk.fmtL_s, Sk.fmtL_i, Sk.p_prow, Sk.p_shtext, Sk.getA_86, Sk.kv86_10, Sk.kv86_92, Sk.p_lwritten, Sk.p_lshtext] | walk_at "sg2"))
local macro_rules | `(tactic| walk_at "st24") => `(tactic| simp -dsimp -implicitDefEqProofs only [Sk.Ask, Sk.p_wantp_o, Sk.p_laid_o, Sk.p_loose_o, Sk.p_Shelf])
namespace Sk
open PySem PySem.Spec PyProof.Rows L2
theorem ok_law_drawn_shelf {P : Program} {w : World} {K : PySem.W.Frag} {mg : Str → Option Value} {base : Heap} (T : Tx K mg) : Cal P w K mg base (17 + 1) "_law_drawn_shelf" ["script"] (spA K p_drawnS) := by
  have nd := sc_law_drawn_shelf.nd
  have K_Shelf := ok_Shelf_init (P := P) (w := w) (base := base) T
  have C_law_stream := ok_law_stream (P := P) (w := w) (base := base) T
  have C_law_digit := ok_law_digit (P := P) (w := w) (base := base) T
  have C_law_text := ok_law_text (P := P) (w := w) (base := base) T
  have C_law_long := ok_law_long (P := P) (w := w) (base := base) T
  refine calA T.fn_law_drawn_shelf T.glo_law_drawn_shelf sc_law_drawn_shelf (fun _ _ _ _ _ _ us hl => match us, hl with | [_], _ => rfl) (tl := [none, none, none]) rfl (by intro ds s Q E h; unfold p_drawnS at h; split at h; rfl; exact h.elim) ⟨_, fun cdv A outer s H E hr => (as_cons (as_set (i := 1) nd rfl (Or.inl rfl) (ae_make0K K_Shelf rfl (hr.mono (by first | omega | decide | exact Nat.le_refl _ | exact Nat.le_trans (by decide) (Nat.le_add_right _ _))) (takes_of rfl rfl rfl rfl)))
      (as_cons (as_set (i := 2) nd rfl (Or.inl rfl) (ae_call C_law_stream (hr.mono (by first | omega | decide | exact Nat.le_refl _ | exact Nat.le_trans (by decide) (Nat.le_add_right _ _))) (takes_of rfl rfl rfl rfl) (aa_cons (av 0) (aa_cons ae_int aa_nil))))
      (as_cons (as_for (passes_of rfl) rfl (ai_rng1 (by rfl) T.free_range (aa_cons (ae_call C_law_digit (hr.mono (by first | omega | decide | exact Nat.le_refl _ | exact Nat.le_trans (by decide) (Nat.le_add_right _ _))) (takes_of rfl rfl rfl rfl) (aa_cons (av 2) (aa_cons ae_int aa_nil))) aa_nil)) (ag_name (i := 3) nd rfl (Or.inl rfl)) (as_one (as_expr (ae_call C_law_text (hr.mono (by first | omega | decide | exact Nat.le_refl _ | exact Nat.le_trans (by decide) (Nat.le_add_right _ _))) (takes_of rfl rfl rfl rfl) (aa_cons (av 1) (aa_cons (av 2) (aa_cons ae_int aa_nil)))))))
      (as_cons (as_if (at_cmp (op_eqAll hr.units) sr_eq (ae_call C_law_digit (hr.mono (by first | omega | decide | exact Nat.le_refl _ | exact Nat.le_trans (by decide) (Nat.le_add_right _ _))) (takes_of rfl rfl rfl rfl) (aa_cons (av 2) (aa_cons ae_int aa_nil))) ae_int (nomark _)) (as_one (as_expr (ae_call C_law_long (hr.mono (by first | omega | decide | exact Nat.le_refl _ | exact Nat.le_trans (by decide) (Nat.le_add_right _ _))) (takes_of rfl rfl rfl rfl) (aa_cons (av 1) (aa_cons (ae_call C_law_stream (hr.mono (by first | omega | decide | exact Nat.le_refl _ | exact Nat.le_trans (by decide) (Nat.le_add_right _ _))) (takes_of rfl rfl rfl rfl) (aa_cons (av 0) (aa_cons ae_int aa_nil))) aa_nil))))) as_nil)
      (as_one (as_ret (av 1))))))), fun ds s Q E h => ?_⟩
  clear nd K_Shelf C_law_stream C_law_digit C_law_text C_law_long
  unfold p_drawnS at h
  split at h
  case h_2 => exact h.elim
  rename_i d
  obtain ⟨ns, ⟨rfl, hl⟩, hq⟩ := h
  walk_at "go24"
  walk_at "st24"
  rename_i x dx hx
  refine ⟨_, aup_same, fun ad => ?_⟩
  have hns : ∃ ms : List Int, ns.map D.int = ms.map .int ∧ ms.length ≤ 63 := ⟨ns, rfl, hl⟩
  walk_at "go24"
  intro c hs c0
  rename_i st
  simp only [aup_none] at hs
  obtain ⟨sx, hst⟩ := hs
  have xs : x ≠ st := fun z => sx z.symm
  have ok0 : sh0.Ok := .nil
  walk_at "go24"
  refine for_rng (fun i as s' => ∃ S c' v, s' = aup (aup s x (.shf ad S)) st (.lst [.int c']) ∧ S.Ok ∧ S.n ≤ 32 * i ∧ 0 ≤ c' ∧ as = [some (.scr (ns.map D.int)), some (.ref x), some (.ref st), v]) (.of ⟨sh0, c / 4, _, rfl, ok0, by decide, by omega, rfl⟩) ?_ ?_
  · rintro i as s' hi ⟨S, c', v, rfl, ok, nS, c0', rfl⟩
    have i4 : i < 4 := by omega
    have n1 : S.n ≤ 1000000 := by omega
    have m4 : (0 : Int) ≤ 4 := by decide
    have m11 : (4 : Int) ≤ 11 := by decide
    walk_at "go24"
    intro S2 c2 t z ok2 x2 n2 c20 _
    have n2 : S2.n ≤ S.n + 32 := n2
    walk_at "go24"
    exact .of ⟨S2, c2, _, rfl, ok2, by omega, c20, rfl⟩
  · rintro as s' ⟨S, c', v, rfl, ok, nS, c0', rfl⟩
    have nS2 : S.n ≤ 128 := by omega
    have n1 : S.n ≤ 1000000 := by omega
    walk_at "go24"
    refine br_dec (fun h1 => ?_) (fun h1 => ?_)
    · walk_at "go24"
      intro c2 hs2 c20
      rename_i st2
      simp only [aup_none] at hs2
      obtain ⟨a1, a2, a3⟩ := hs2
      have a2' : x ≠ st2 := fun z => a2 z.symm
      walk_at "go24"
      intro S3 c3 t z k ok3 x3 n3 c30 _
      have n3 : S3.n ≤ S.n + 100 := n3
      have fin := hq x hx ad S3 ok3 (by omega)
      walk_at "go24"
      exact .less ((Le.aup (by rw [aup_ne sx]; exact hst)).trans (Le.aup (by rw [aup_ne a1, aup_ne a2]; exact a3))) fin
    · have fin := hq x hx ad S ok (by omega)
      walk_at "go24"
      exact .less (Le.aup (by rw [aup_ne sx]; exact hst)) fin

def L86 : List (List Nat) := [[92, 110], [10], [92], [32, 92, 110, 32], [10, 10], [32, 32], [110]]
theorem L86_ok : ∀ z ∈ L86, Plain z ∧ 1 ≤ z.length ∧ z.length ≤ 8 := by
  intro z h
  simp only [L86, List.mem_cons, List.not_mem_nil, or_false] at h
  rcases h with rfl | rfl | rfl | rfl | rfl | rfl | rfl <;> exact ⟨plain_of (by decide), by decide, by decide⟩
theorem L86_get {n i : Nat} {d : D} (h : ((L86.map D.str).take n)[i]? = some d) : ∃ z, d = .str z ∧ Plain z ∧ 1 ≤ z.length ∧ z.length ≤ 8 := by
  have m := List.mem_of_mem_take (List.mem_of_getElem? h)
  obtain ⟨z, hz, rfl⟩ := List.mem_map.mp m
  exact ⟨z, rfl, L86_ok z hz⟩
end Sk
local macro_rules | `(tactic| walk_at "go25") => `(tactic| repeat (first | walk_at "sg1" | simp -dsimp -implicitDefEqProofs only [Sk.Ask, Sk.fl_pieces, Sk.fl_numbers, Sk.fl_signs, Sk.fl_ends, Sk.fl_leaves, Sk.fl_heights, Sk.fl_firsts, Sk.fl_lasts, Sk.fldA_r, Sk.recvO_i, Sk.p_is_plain, Sk.p_ends_in, Sk.p_many, Sk.p_ask, Sk.p_piece, Sk.p_leaf, Sk.p_fork, Sk.p_loose, Sk.p_mixed, Sk.p_digit, Sk.p_stream, Sk.recP_s, Sk.p_tree, Sk.p_lengths, Sk.p_letters, Sk.p_text, Sk.p_long, Sk.u_mRpl, Sk.strD1_s, Sk.p_written, Sk.u_aFmt, Sk.u_aJl0, Sk.u_aJl1, Sk.fmtL_s, Sk.fmtL_i, Sk.p_prow, Sk.p_shtext, Sk.getA_86, Sk.kv86_10, Sk.kv86_92, Sk.p_lwritten, Sk.p_lshtext, Sk.p_drawnS] | walk_at "sg2"))
local macro_rules | `(tactic| walk_at "st25") => `(tactic| simp -dsimp -implicitDefEqProofs only [Sk.Ask, Sk.p_wantp_o, Sk.p_laid_o, Sk.p_loose_o, Sk.p_Shelf])
namespace Sk
open PySem PySem.Spec PyProof.Rows L2
theorem ok_law {P : Program} {w : World} {K : PySem.W.Frag} {mg : Str → Option Value} {base : Heap} (T : Tx K mg) : Cal P w K mg base (18 + 1) "law" ["script"] (spA K p_law) := by
  have nd := sc_law.nd
  have C_law_drawn_shelf := ok_law_drawn_shelf (P := P) (w := w) (base := base) T
  have M_Shelf_many := ok_Shelf_many (P := P) (w := w) (base := base) T
  have C_law_stream := ok_law_stream (P := P) (w := w) (base := base) T
  have C_law_text := ok_law_text (P := P) (w := w) (base := base) T
  have C_shelf_text := ok_shelf_text (P := P) (w := w) (base := base) T
  have M_Shelf_leaf := ok_Shelf_leaf (P := P) (w := w) (base := base) T
  have C_law_shelf_text := ok_law_shelf_text (P := P) (w := w) (base := base) T
  have K_Shelf := ok_Shelf_init (P := P) (w := w) (base := base) T
  have C_law_digit := ok_law_digit (P := P) (w := w) (base := base) T
  refine calA T.fn_law T.glo_law sc_law (fun _ _ _ _ _ _ us hl => match us, hl with | [_], _ => rfl) (tl := [none, none, none, none, none, none]) rfl (by intro ds s Q E h; unfold p_law at h; split at h; rfl; exact h.elim) ⟨_, fun cdv A outer s H E hr => (as_cons (as_if (at_cmp (op_neAll hr.units) sr_ne (ae_call C_shelf_text (hr.mono (by first | omega | decide | exact Nat.le_refl _ | exact Nat.le_trans (by decide) (Nat.le_add_right _ _))) (takes_of rfl rfl rfl rfl) (aa_cons (ae_make0K K_Shelf rfl (hr.mono (by first | omega | decide | exact Nat.le_refl _ | exact Nat.le_trans (by decide) (Nat.le_add_right _ _))) (takes_of rfl rfl rfl rfl)) aa_nil)) (ae_strL (z := []) (by first | rfl | kernel_rfl)) (nomark _)) (as_one (as_ret ae_bl)) as_nil)
      (as_cons (as_set (i := 1) nd rfl (Or.inl rfl) (ae_call C_law_drawn_shelf (hr.mono (by first | omega | decide | exact Nat.le_refl _ | exact Nat.le_trans (by decide) (Nat.le_add_right _ _))) (takes_of rfl rfl rfl rfl) (aa_cons (av 0) aa_nil)))
      (as_cons (as_set (i := 2) nd rfl (Or.inl rfl) (ae_meth0K M_Shelf_many rfl (nsOk shNames (by decide)) (av 1) (hr.mono (by first | omega | decide | exact Nat.le_refl _ | exact Nat.le_trans (by decide) (Nat.le_add_right _ _))) (takes_of rfl rfl rfl rfl)))
      (as_cons (as_for (passes_of rfl) rfl (ai_rng1 (by rfl) T.free_range (aa_cons ae_int aa_nil)) (ag_name (i := 3) nd rfl (Or.inl rfl)) (as_cons (as_set (i := 4) nd rfl (Or.inl rfl) (ae_call C_shelf_text (hr.mono (by first | omega | decide | exact Nat.le_refl _ | exact Nat.le_trans (by decide) (Nat.le_add_right _ _))) (takes_of rfl rfl rfl rfl) (aa_cons (av 1) aa_nil)))
      (as_one (as_if (AW.at_ (aw_or (at_not (at_truth (ae_bi call_isi srl_isi T.free_isinstance bt_isinstance (aa_cons (av 4) (aa_cons (ae_bty (by rfl) T.free_str bt_str) aa_nil))) (by intro _; rfl))) (aw_or (at_cmp (op_neAll hr.units) sr_ne (av 4) (ae_call C_law_shelf_text (hr.mono (by first | omega | decide | exact Nat.le_refl _ | exact Nat.le_trans (by decide) (Nat.le_add_right _ _))) (takes_of rfl rfl rfl rfl) (aa_cons (av 1) aa_nil)) (nomark _)) (aw_or1 (at_cmp (op_neAll hr.units) sr_ne (ae_meth0K M_Shelf_many rfl (nsOk shNames (by decide)) (av 1) (hr.mono (by first | omega | decide | exact Nat.le_refl _ | exact Nat.le_trans (by decide) (Nat.le_add_right _ _))) (takes_of rfl rfl rfl rfl)) (av 2) (nomark _)))))) (as_one (as_ret ae_bl)) as_nil))))
      (as_cons (as_set (i := 5) nd rfl (Or.inl rfl) (ae_call C_law_stream (hr.mono (by first | omega | decide | exact Nat.le_refl _ | exact Nat.le_trans (by decide) (Nat.le_add_right _ _))) (takes_of rfl rfl rfl rfl) (aa_cons (av 0) (aa_cons ae_int aa_nil))))
      (as_cons (as_for (passes_of rfl) rfl (ai_any (ae_slice (ae_lst (aa_cons (ae_strL (z := [92, 110]) (by first | rfl | kernel_rfl)) (aa_cons (ae_strL (z := [10]) (by first | rfl | kernel_rfl)) (aa_cons (ae_strL (z := [92]) (by first | rfl | kernel_rfl)) (aa_cons (ae_strL (z := [32, 92, 110, 32]) (by first | rfl | kernel_rfl)) (aa_cons (ae_strL (z := [10, 10]) (by first | rfl | kernel_rfl)) (aa_cons (ae_strL (z := [32, 32]) (by first | rfl | kernel_rfl)) (aa_cons (ae_strL (z := [110]) (by first | rfl | kernel_rfl)) aa_nil)))))))) ao_none (ao_some (ae_call C_law_digit (hr.mono (by first | omega | decide | exact Nat.le_refl _ | exact Nat.le_trans (by decide) (Nat.le_add_right _ _))) (takes_of rfl rfl rfl rfl) (aa_cons (av 5) (aa_cons ae_int aa_nil)))))) (ag_name (i := 6) nd rfl (Or.inl rfl)) (as_one (as_expr (ae_methK M_Shelf_leaf rfl (nsOk shNames (by decide)) (av 1) (hr.mono (by first | omega | decide | exact Nat.le_refl _ | exact Nat.le_trans (by decide) (Nat.le_add_right _ _))) (takes_of rfl rfl rfl rfl) (aa_cons (av 6) aa_nil)))))
      (as_cons (as_expr (ae_call C_law_text (hr.mono (by first | omega | decide | exact Nat.le_refl _ | exact Nat.le_trans (by decide) (Nat.le_add_right _ _))) (takes_of rfl rfl rfl rfl) (aa_cons (av 1) (aa_cons (av 5) (aa_cons ae_int aa_nil)))))
      (as_one (as_ret (ae_cmp (op_eqAll hr.units) sr_eq (ae_call C_shelf_text (hr.mono (by first | omega | decide | exact Nat.le_refl _ | exact Nat.le_trans (by decide) (Nat.le_add_right _ _))) (takes_of rfl rfl rfl rfl) (aa_cons (av 1) aa_nil)) (ae_call C_law_shelf_text (hr.mono (by first | omega | decide | exact Nat.le_refl _ | exact Nat.le_trans (by decide) (Nat.le_add_right _ _))) (takes_of rfl rfl rfl rfl) (aa_cons (av 1) aa_nil)) (nomark _))))))))))), fun ds s Q E h => ?_⟩
  clear nd C_law_drawn_shelf M_Shelf_many C_law_stream C_law_text C_shelf_text M_Shelf_leaf C_law_shelf_text K_Shelf C_law_digit
  unfold p_law at h
  split at h
  case h_2 => exact h.elim
  rename_i ds
  obtain ⟨⟨ns, rfl, hl⟩, hq⟩ := h
  have ok0 : sh0.Ok := .nil
  have n0 : sh0.n ≤ 10000 := by decide
  have t0 : txS sh0 = [] := rfl
  walk_at "go25"
  walk_at "st25"
  rename_i x0 dx0 hx0
  refine ⟨_, aup_same, fun ad0 => ?_⟩
  walk_at "go25"
  refine ⟨ns, rq_in ⟨rfl, hl⟩ ?_⟩
  intro x hx ad S ok nS
  simp only [aup_none] at hx
  obtain ⟨xx, hx⟩ := hx
  have xx' : x0 ≠ x := fun z => xx z.symm
  have n1 : S.n ≤ 10000 := by omega
  have hns : ∃ ms : List Int, ns.map D.int = ms.map .int ∧ ms.length ≤ 63 := ⟨ns, rfl, hl⟩
  walk_at "go25"
  refine for_rng (fun i as s' => s' = aup (aup s x0 (.shf ad0 sh0)) x (.shf ad S) ∧ ∃ v3 v4, as = [some (.scr (ns.map D.int)), some (.ref x), some (.int (S.n : Nat)), v3, v4, none, none]) (.of ⟨rfl, _, _, rfl⟩) ?_ ?_
  · rintro i as s' hi ⟨rfl, v3, v4, rfl⟩
    walk_at "go25"
    exact .of ⟨rfl, _, _, rfl⟩
  rintro as s' ⟨rfl, v3, v4, rfl⟩
  walk_at "go25"
  intro c hs c0
  rename_i st
  simp only [aup_none] at hs
  obtain ⟨a1, a2, a3⟩ := hs
  have a1' : x ≠ st := fun z => a1 z.symm
  have a2' : x0 ≠ st := fun z => a2 z.symm
  obtain ⟨n, en⟩ : ∃ n : Nat, c % 8 = n := ⟨(c % 8).toNat, by omega⟩
  walk_at "go25"
  rw [show cut [D.str [92, 110], D.str [10], D.str [92], D.str [32, 92, 110, 32], D.str [10, 10], D.str [32, 32], D.str [110]] none (some (n : Int)) = (L86.map D.str).take n from cut_take n]
  have c8 : 0 ≤ c / 8 := by omega
  refine for_lst (fun i as s' => ∃ S' v, s' = aup (aup (aup s x0 (.shf ad0 sh0)) x (.shf ad S')) st (.lst [.int (c / 8)]) ∧ S'.Ok ∧ S'.n ≤ S.n + i ∧ as = [some (.scr (ns.map D.int)), some (.ref x), some (.int (S.n : Nat)), v3, v4, some (.ref st), v]) (.of ⟨S, _, rfl, ok, by omega, rfl⟩) ?_ ?_
  · rintro i d as s' hd ⟨S', v, rfl, ok', nS', rfl⟩
    have hi : i < 7 := by
      have h1 := (List.getElem?_eq_some_iff.mp hd).1
      have h2 := List.length_take_le' n (L86.map D.str)
      have h3 : (L86.map D.str).length = 7 := rfl
      omega
    obtain ⟨z, rfl, z1, z2, z3⟩ := L86_get hd
    have g : S'.good (.leaf z) := ⟨z1, z2, z3⟩
    have nz : S'.n < 16000000 := by omega
    have z16 : z.length < 16777216 := by omega
    have ok2 := ok'.put g
    have n2 := put_n S' (.leaf z)
    clear hd hns
    walk_at "go25"
    exact .of ⟨_, _, rfl, ok2, by omega, rfl⟩
  rintro as s' ⟨S', v, rfl, ok', nS', rfl⟩
  have h2 := List.length_take_le' n (L86.map D.str)
  have h3 : (L86.map D.str).length = 7 := rfl
  have nz : S'.n ≤ 1000000 := by omega
  have m3 : (0 : Int) ≤ 3 := by decide
  have m11 : (3 : Int) ≤ 11 := by decide
  have nq : S'.n ≤ 1007 := by omega
  clear h2 h3 hns
  walk_at "go25"
  intro S2 c2 t z ok2 x2 n2 c20 _
  have n2 : S2.n ≤ S'.n + 16 := n2
  have n3 : S2.n ≤ 10000 := by omega
  walk_at "go25"
  exact .of (hq _)
end Sk
namespace Sk
open PySem PySem.Spec PyProof.Rows L2
theorem facts {P : Program} {w : World} {K : PySem.W.Frag} {h : Heap} {mg : Str → Option Value} {f : Addr} (X : K.In h) (G : h.Ns mainGlobals mg) (hfa : mg ("law" : Str) = some (.ref f)) (c : SaysX fa fn exs K) :
    ∃ fd : FuncData, (∀ (s : Shared) (v : Value), BindsTo s fd ⟨[v], []⟩ [("script", v)]) ∧ ∀ base : Heap, K.In base → base.Ns mainGlobals mg → FnOk P w K mg base CX0 19 f fd ["script"] (spLaw K) := by
  have T : Tx K mg := ⟨c, h, X, G⟩
  obtain ⟨fd, F⟩ := T.fn_law
  have e := hfa.symm.trans T.glo_law
  cases e
  have b := FunD.bindsA (ps := ["script"]) F fun _ _ _ _ _ _ us hl => match us, hl with | [_], _ => rfl
  refine ⟨fd, fun s v => b s [v] rfl, fun base _ _ => ?_⟩
  obtain ⟨⟨fd2, F2, _, i2⟩, _, _⟩ := ok_law (P := P) (w := w) (base := base) T
  have e2 := (IsF.of F).one i2
  subst e2
  exact to0 (fnW (F2.mono (by decide)) fun _ _ _ _ z => law_spA z) fun _ _ _ _ z => z
end Sk
open PySem PySem.W PySem.Calls PyProof.Rows
theorem PySem.Challenge.cw_skeinwood_k86_shelves_written_holds : PySem.Challenge.rw_skeinwood_k86_shelves_written.Holds := by
  w_on; o_law
  refine HandSHeadRun.head_any (r := OpenLaw.row PySem.Challenge.rw_skeinwood_k86_shelves_written) (q := PySem.W.view (OpenLaw.row PySem.Challenge.rw_skeinwood_k86_shelves_written).prog [30]) (H := Sk.hk) (ob := Sk.ob) (M := Sk.steps) (loose := Sk.los) (d := HandSHeadRun.topDef (OpenLaw.row PySem.Challenge.rw_skeinwood_k86_shelves_written).prog 30) (kwd := []) Sk.ob_eq
    (by kernel_rfl) (fun s => by kernel_rfl) Sk.run (by kernel_rfl) (by kernel_rfl) (by kernel_rfl) (by rfl) (by first | assumption | decide +kernel) (by decide +kernel) ⟨rfl, rfl, rfl, rfl, rfl, by decide +kernel⟩ ?hw ?hc
  case hw => w_witness2
  case hc =>
    refine L2.walk_ofE (l := PySem.Challenge.rw_skeinwood_k86_shelves_written) (n := 63) (k := 19) (x := "script") (CX := L2.CX0) rfl (by decide) (by kernel_rfl) ⟨rfl, by decide, by decide⟩ ?F (fun _ _ _ _ z => z)
    intro w mg fa h Y G hmg0
    obtain ⟨K, KX, c⟩ := Y
    have hmg : mg ("law" : PySem.Str) = some (.ref fa) := by
      have e : (HandSHeadRun.topDef (OpenLaw.row PySem.Challenge.rw_skeinwood_k86_shelves_written).prog 30).name = ("law" : PySem.Str) := by kernel_rfl
      rw [← e]
      exact hmg0
    obtain ⟨fd, hb, hF⟩ := Sk.facts (P := (PySem.Challenge.rw_skeinwood_k86_shelves_written).prog) (w := w) KX G hmg c
    exact ⟨K, fd, Sk.spLaw K, KX, hb, fun H a ns hl _ hS => ⟨a, ns, rfl, hS, hl, fun _ => rfl⟩, hF⟩
#print axioms PySem.Challenge.cw_skeinwood_k86_shelves_written_holds
