import PyProof.Rows.All
import Wide.All
import OpenK.AllK
import Wide.FinOn
import HandS.ForMost
import HandS.ForExc
import HandS.ExcInit
import HandS.ExcField
import HandS.IsInst
import HandS.Property
import HandS.Defaults
import HandS.MakeKw
import HandS.MakeKwOnly
import HandS.FStr
import HandS.Wide
import HandS.RaiseMore
import KE.KOpsOwn
import KE.KIsAll
import KE.KTryMore
import HandS.ExcIs
import KE.KExcIs
import HandS.Words
import HandS.Ends
import PyProof.Rows.ReprR
import HandS.Style
import HandS.Walk
import HandS.Conv
import HandS.Dict
import PyProof.ReprLen
import PyProof.Rows.RegStrFacts
import PySem.Challenge.RW_widestkind_k01_exceptions_apart
set_option Elab.async false
set_option linter.all false
set_option maxRecDepth 100000
set_option maxHeartbeats 4000000
/-! Shared by the proofs over this package: KindError.__init__(self, ..) in an exception's own __init__. -/
namespace Wk
open PySem L2
/-- what the top says of the base class of the package's exceptions -/
structure KBase (K : PySem.W.Frag) (mg : Str → Option Value) (CK : Addr) : Prop where
  mgK : mg "KindError" = some (.ref CK)
  rd : PySem.W.readsIn K CK (.type "type") = true
  ga : PySem.W.specialIn K (.ref CK) "__getattribute__" = some (some (.builtin "type.__getattribute__"))
  fv : PySem.W.findCls K (.ref CK) (.type "type") "__init__" = some (.val (.builtin "ValueError.__init__"))
section
variable {X : Cx} {e : Expr} {es : List Expr} {ta : TA} {p1 p2 pos : Pos} {CK : Addr}
theorem pe_kinit {pl : Sem Bool} (B : KBase X.K X.mg CK) (ha : PA X (e :: es) ta) (hg : Gl X "KindError" := by rfl)
    (hc : eval (.Call (.Attribute (.Name "KindError" p1) "__init__" p2) (e :: es) [] pos) X.env = (do
      let ov ← eval (.Name "KindError" p1) X.env
      standAt p2.atName
      let (f, first) ← holding [ov] (getMethod ov "__init__" pl)
      callWith pos f first (backTo pos (starEach (e :: es) X.env)) (backToKw pos (keywordEach [] X.env))) := by rfl)
    (he : starEach (e :: es) X.env = (false, eval e X.env) :: starEach es X.env := by rfl)
    (hpl : (backTo pos (starEach es X.env)).any (·.1) = false := by rfl) :
    PE X (.Call (.Attribute (.Name "KindError" p1) "__init__" p2) (e :: es) [] pos) (tVeI X.K ta) := by
  refine ⟨fun pins s σ H Q I h => ?_⟩
  refine PySem.W.methodCall_KW (ld_glob I hg B.mgK ?_) hc
  refine PySem.W.method_cls I.kIn B.ga (PySem.W.cls_value I.kIn B.rd B.fv (by decide +kernel) ?_)
  show wpAny _ _ (callWith pos (Value.builtin "ValueError.__init__") [] (backTo pos (starEach (e :: es) X.env)) []) _ _ _
  refine PyProof.Rows.callWith_method1 (thn (ha.run pos pins _ σ H _ (I.tok _) h) fun us s1 ⟨vs, H1, I1, r1, a, C, ws, ev, hl, T, ea, q⟩ => ?_) he hpl
  subst ev
  cases r1 with
  | @cons _ u0 _ ur ra rw' =>
    obtain rfl : u0 = Value.ref a := ra
    have hlen : ur.length ≤ sizeLine := by
      have l := Paired.length rw'
      rw [sizeLine_eq]
      omega
    exact oinit_ok T I1 ea hlen fun s' J => ⟨.non, H1, J, rfl, q⟩
end
end Wk
namespace Wk
open PySem L2
/-- a def of the top -/
structure FnT (K : PySem.W.Frag) (mg : Str → Option Value) (x : Str) (st : Stmt) (f : Addr) (fd : FuncData) : Prop where
  F : Fun K x x st f fd
  g : mg x = some (.ref f)
theorem fn_here {K : PySem.W.Frag} {h : Heap} {mg : Str → Option Value} {x : Str} {st : Stmt} {f : Addr} {oc : Value} {od an : Option Addr} {osl : Array (Option Value)} {kV doc pm cdv ct : Value} (X : K.In h) (G : h.Ns mainGlobals mg)
    (a : PySem.W.nsIn K mainGlobals x = some (some (.ref f)))
    (l : K.lookup f = some ⟨oc, od, .func (PySem.W.fnOf x x (defArgs st) (defBody st) (defScope st) .none kV doc pm an cdv ct), osl⟩)
    (c : PySem.W.codeIn K cdv x = true) (k : PySem.W.keepIn K (.ref f) = true) :
    FnT K mg x st f (PySem.W.fnOf x x (defArgs st) (defBody st) (defScope st) .none kV doc pm an cdv ct) :=
  ⟨fun_mk l c k, PySem.W.mg_of X G a⟩
theorem kb_mk {K : PySem.W.Frag} {h : Heap} {mg : Str → Option Value} {CK : Addr} (X : K.In h) (G : h.Ns mainGlobals mg)
    (a : PySem.W.nsIn K mainGlobals "KindError" = some (some (.ref CK))) (rd : PySem.W.readsIn K CK (.type "type") = true)
    (ga : PySem.W.specialIn K (.ref CK) "__getattribute__" = some (some (.builtin "type.__getattribute__")))
    (fv : PySem.W.findCls K (.ref CK) (.type "type") "__init__" = some (.val (.builtin "ValueError.__init__"))) : KBase K mg CK :=
  ⟨PySem.W.mg_of X G a, rd, ga, fv⟩
/-- an exception class x of the package, at C, its own __init__ at fI -/
structure ExcT (K : PySem.W.Frag) (mg : Str → Option Value) (x : Str) (C fI : Addr) : Prop where
  g : mg x = some (.ref C)
  o : OexC K C
  xf : XfC K C
  iC : PySem.W.findIn K (.ref C) "__init__" = some (some (.ref fI))
  tI : PySem.W.typeIn K (.ref fI) = some (.type "function")
  te : PySem.W.exmOne K (.ref C) (.ref C) = some true
theorem exm_own {K : PySem.W.Frag} {S : Addr} (h1 : PySem.W.subIn K (.ref S) (.type "BaseException") = some true) (h2 : PySem.W.isClsIn K S = true)
    (h3 : PySem.W.typeIn K (.ref S) = some (.type "type")) (h4 : PySem.W.subIn K (.ref S) (.ref S) = some true) : PySem.W.exmOne K (.ref S) (.ref S) = some true := by
  have h2' : (PySem.W.clsIn K S).isSome = true := h2
  unfold PySem.W.exmOne PySem.W.kitCls
  simp only [h1, h3, h4, h2']
  rfl
theorem exc_mk {K : PySem.W.Frag} {h : Heap} {mg : Str → Option Value} {x : Str} {C fI : Addr} {nm q : Str} {N : Addr} {bs bm : List Value} {sn : List Str} {sub : List Value} {ab : Bool} {col : Option Bool} {dd : Option Addr} {m0 m1 m2 m3 m5 : Option Value}
    (X : K.In h) (G : h.Ns mainGlobals mg) (aC : PySem.W.nsIn K mainGlobals x = some (some (.ref C)))
    (xL : K.lookup C = some (excClassObj nm q C N bs bm true sn sub ab col dd m0 m1 m2 m3 m5 "ValueError.__new__")) (hb : PySem.HandSPX.refsVE bm = true)
    (sa : PySem.W.findIn K (.ref C) "__setattr__" = some (some (.builtin "object.__setattr__")))
    (ga : PySem.W.findIn K (.ref C) "__getattribute__" = some (some (.builtin "BaseException.__getattribute__")))
    (gg : PySem.W.findIn K (.ref C) "__getattr__" = some none) (a1 : PySem.W.findIn K (.ref C) "__init__" = some (some (.ref fI)))
    (t1 : PySem.W.typeIn K (.ref fI) = some (.type "function")) (kC : PySem.W.keepIn K (.ref C) = true)
    (eC : PySem.W.subIn K (.ref C) (.type "BaseException") = some true) (tC : PySem.W.typeIn K (.ref C) = some (.type "type"))
    (hC : PySem.W.hasDictIn K C = true) (iC : PySem.W.isClsIn K C = true) (sC : PySem.W.subIn K (.ref C) (.ref C) = some true) : ExcT K mg x C fI :=
  { g := PySem.W.mg_of X G aC, o := ⟨⟨nm, q, N, bs, bm, sn, sub, ab, col, dd, m0, m1, m2, m3, m5, xL, hb⟩, sa, eC, tC, kC⟩, xf := ⟨ga, gg, eC, hC⟩, iC := a1, tI := t1, te := exm_own eC iC tC sC }
theorem sqT_mk {K : PySem.W.Frag} {a : Addr} {xs : List V} {its : List Value} {n : Nat} {dd : Option Addr} {sl : Array (Option Value)}
    (l : K.lookup a = some ⟨.type "tuple", dd, .seq its.toArray n, sl⟩) (z : its.toArray.size ≤ sizeLine) (r : Vals xs its) : ∀ H, SqT K H a xs := fun _ =>
  .inr ⟨_, its.toArray, n, l, rfl, rfl, z, by simpa using r⟩
end Wk
namespace Wk
open PySem L2
section
variable {X : Cx} {x : Str} {pos : Pos}
theorem pe_gstr {z : Str} {t : Tok} (hm : X.mg x = some (.str z t)) (hg : Gl X x := by rfl) (hdb : (x == ("__debug__" : Str)) = false := by decide) : PE X (.Name x pos) (tC (.str z)) := pe_glob hg hm (v := .str z) ⟨t, rfl⟩ hdb
theorem pe_gint {i : Int} {t : Tok} (hm : X.mg x = some (.int i t)) (hg : Gl X x := by rfl) (hdb : (x == ("__debug__" : Str)) = false := by decide) : PE X (.Name x pos) (tC (.int i)) := pe_glob hg hm (v := .int i) ⟨t, rfl⟩ hdb
theorem pe_gref {b : Addr} (hm : X.mg x = some (.ref b)) (hg : Gl X x := by rfl) (hdb : (x == ("__debug__" : Str)) = false := by decide) : PE X (.Name x pos) (tC (.ref b)) := pe_glob hg hm (v := .ref b) rfl hdb
end
end Wk
namespace Wk
open PySem L2
/-- a loop's turn: the next state is in the invariant, with a smaller number -/
theorem turn_to {W : Nat → L2.St → Hp → Prop} {m : Nat} {tb : TS} {D : Ends} {σ : L2.St} {H : Hp}
    (h : tb { D with nx := fun σ' H' => ∃ m', m' < m ∧ W m' σ' H', ct := fun σ' H' => ∃ m', m' < m ∧ W m' σ' H', bk := D.nx } σ H) :
    ∃ N : L2.St → Hp → Prop, (∀ σ' H', N σ' H' → ∃ m', m' < m ∧ W m' σ' H') ∧ tb { D with nx := N, ct := N, bk := D.nx } σ H :=
  ⟨_, fun _ _ z => z, h⟩
theorem ite_b {b : Bool} {A B : Prop} (h1 : b = true → A) (h2 : b = false → B) : if b = true then A else B := by
  cases b
  · exact iteF (h2 rfl)
  · exact iteT (h1 rfl)
end Wk
namespace Wk
open PySem L2
abbrev cs (z : Str) : List Nat := z.cps.toList
abbrev S (l : List Nat) : Str := ⟨l.toArray⟩
theorem S_cs (z : Str) : S (cs z) = z := by
  cases z
  simp
theorem cs_S (l : List Nat) : cs (S l) = l := by simp
theorem cs_len (z : Str) : (cs z).length = z.length := by simp [Str.length]
theorem S_len (l : List Nat) : (S l).length = l.length := by simp [Str.length]
theorem S_inj {l m : List Nat} : S l = S m ↔ l = m := by
  constructor
  · intro h
    have := congrArg (fun z : Str => z.cps.toList) h
    simpa using this
  · intro h; rw [h]
theorem one_inj {x c : Nat} : ((⟨#[x]⟩ : Str) = ⟨#[c]⟩) = (x = c) := propext ⟨fun h => by
  have := congrArg (fun z : Str => z.cps.toList) h
  simpa using this, fun h => by rw [h]⟩
theorem atI_eq {α : Type} (l : List α) (n : Nat) : atI l (n : Int) = l[n]? := by
  cases h : l[n]? with
  | some v => exact atI_nat h
  | none =>
    have hl : l.length ≤ n := by simpa using h
    unfold atI ixN
    rw [if_pos (by omega), if_neg (by omega)]
    rfl
theorem sz_of {n : Nat} (h : n ≤ 100000) : n ≤ sizeLine := Nat.le_trans h (by decide)
theorem sz_lt {n : Nat} (h : n < 100000) : n < sizeLine := Nat.lt_of_lt_of_le h (by decide)
theorem cut_to (z : Str) (n : Nat) : cutS z none (some (n : Int)) = S ((cs z).take n) := by
  unfold cutS
  rw [HT.sIx_none, HT.sIx_nat]
  congr 1
  simp only [List.drop_zero, Nat.sub_zero]
  congr 1
  rw [List.take_eq_take_iff, cs_len]
  omega
theorem cut_mid (z : Str) (n m : Nat) : cutS z (some (n : Int)) (some (m : Int)) = S (((cs z).drop n).take (m - n)) := by
  unfold cutS
  rw [HT.sIx_nat, HT.sIx_nat]
  congr 1
  congr 1
  by_cases h : n ≤ z.length
  · rw [Nat.min_eq_left h, List.take_eq_take_iff, List.length_drop, cs_len]
    omega
  · rw [List.drop_of_length_le (by rw [cs_len]; omega), List.drop_of_length_le (by rw [cs_len]; omega)]
    simp
theorem cut_from (z : Str) (n : Nat) : cutS z (some (n : Int)) none = S ((cs z).drop n) := by
  unfold cutS
  rw [HT.sIx_nat, HT.sIx_none]
  congr 1
  congr 1
  by_cases h : n ≤ z.length
  · rw [Nat.min_eq_left h, List.take_of_length_le (by rw [List.length_drop, cs_len]; omega)]
  · rw [List.drop_of_length_le (by rw [cs_len]; omega), List.drop_of_length_le (by rw [cs_len]; omega)]
    simp
end Wk
namespace Wk
open PySem L2
section
variable {K : PySem.W.Frag} {H : Hp} {Q : VK}
theorem rin_t {p : Addr} {xs : List V} {x : V} {neg : Bool} (h : SqT K H p xs) (hx : flatV x = true) (ha : xs.all flatV = true)
    (q : Q (.bl (if neg then !inV x xs else inV x xs)) H) : rIn K neg x (.ref p) H Q := ⟨p, xs, rfl, .inr h, hx, ha, q⟩
theorem rin_l {p : Addr} {xs : List V} {x : V} {neg : Bool} (h : SqL K H p xs) (hx : flatV x = true) (ha : xs.all flatV = true)
    (q : Q (.bl (if neg then !inV x xs else inV x xs)) H) : rIn K neg x (.ref p) H Q := ⟨p, xs, rfl, .inl h, hx, ha, q⟩
theorem inV_strs (z : Str) : ∀ ls : List (List Nat), inV (.str z) (ls.map fun l => V.str (S l)) = decide (cs z ∈ ls)
  | [] => by simp [inV]
  | l :: ls => by
    have ih := inV_strs z ls
    have e : eqV (.str (S l)) (.str z) = decide (cs z = l) := by
      show (S l == z) = _
      rw [Bool.eq_iff_iff, beq_iff_eq, decide_eq_true_eq]
      constructor
      · intro h; rw [← h, cs_S]
      · intro h; rw [← h, S_cs]
    show (eqV (.str (S l)) (.str z) || inV (.str z) (ls.map fun l => V.str (S l))) = _
    rw [e, ih, Bool.eq_iff_iff, Bool.or_eq_true, decide_eq_true_eq, decide_eq_true_eq, decide_eq_true_eq, List.mem_cons]
theorem isi_str {z : Str} (q : Q (.bl true) H) : rIsi K [.str z, .ty "str"] H Q := ⟨_, _, _, _, true, rfl, .ty _, .base (.str _), kit_ty (by decide +kernel), q⟩
end
end Wk
namespace Wk
open PySem L2
/-- tuples stay -/
def TSame (H H' : Hp) : Prop := ∀ q xs, H q = some (.tup xs) → H' q = some (.tup xs)
theorem TSame.of {H H' : Hp} (h : Same H H') : TSame H H' := fun q _ e => h q _ e
theorem TSame.trans {H H1 H2 : Hp} (a : TSame H H1) (b : TSame H1 H2) : TSame H H2 := fun q xs e => b q xs (a q xs e)
theorem TSame.lst {H : Hp} {l : Addr} {vs ws : List V} (h : H l = some (.lst vs)) : TSame H (upd H l (.lst ws)) := fun q xs e => by
  rw [upd_ne (ne_of e h (by intro z; cases z))]
  exact e
theorem Same.new {H : Hp} {p : Addr} {o : HO} (h : H p = none) : Same H (upd H p o) := fun b u e => by
  rw [upd_ne (ne_of_none e h)]
  exact e
/-- an object that H does not know may change -/
theorem Same.mut {H H' : Hp} {p : Addr} {o : HO} (e : Same H H') (h : H p = none) : Same H (upd H' p o) := fun b u q => by
  rw [upd_ne (ne_of_none q h)]
  exact e b u q
end Wk
namespace Wk
open PySem L2
/-- the heap behind a made exception: nothing that stood has changed -/
theorem exc_heap {H : Hp} {e d : Addr} {o1 o2 o3 o4 : HO} (he : H e = none) (hd : H d = none) : Same H (upd (del (upd (upd (upd H e o1) d o2) e o3) e) d o4) := fun b o q => by
  have n1 : b ≠ e := ne_of_none q he
  have n2 : b ≠ d := ne_of_none q hd
  rw [upd_ne n2, del_ne n1, upd_ne n1, upd_ne n2, upd_ne n1]
  exact q
end Wk
namespace Wk
open PySem L2
/-! rules over tracked lists and tuples alone: what they ask is settled by the heap -/
theorem atI_lit {α : Type} (l : List α) (n : Nat) : atI l (@OfNat.ofNat Int n instOfNat) = l[n]? := atI_eq l n
section
variable {X : Cx}
def rIxLT : R2 := fun x y H Q => ∃ p xs i v, x = .ref p ∧ y = .int i ∧ H p = some (.lst xs) ∧ atI xs i = some v ∧ Q v H
def rIxTT : R2 := fun x y H Q => ∃ p xs i v, x = .ref p ∧ y = .int i ∧ H p = some (.tup xs) ∧ atI xs i = some v ∧ Q v H
theorem ix_listT : IxR X rIxLT := fun value slice pins s σ H x y v u Q I rx ry ⟨p, xs, i, z, e1, e2, e3, e4, q⟩ hs =>
  ix_list value slice pins s σ H x y v u Q I rx ry ⟨p, xs, i, z, e1, e2, SqL.of e3, e4, q⟩ hs
theorem ix_tupT : IxR X rIxTT := fun value slice pins s σ H x y v u Q I rx ry ⟨p, xs, i, z, e1, e2, e3, e4, q⟩ hs =>
  ix_tup value slice pins s σ H x y v u Q I rx ry ⟨p, xs, i, z, e1, e2, SqT.of e3, e4, q⟩ hs
def rLenLT : List V → Hp → VK → Prop := fun xs H Q => ∃ p ys, xs = [.ref p] ∧ H p = some (.lst ys) ∧ Q (.int ys.length) H
def rLenTT : List V → Hp → VK → Prop := fun xs H Q => ∃ p ys, xs = [.ref p] ∧ H p = some (.tup ys) ∧ Q (.int ys.length) H
theorem call_lenLT : CallR X (.builtin "len") rLenLT := fun pins s σ H xs us Q I r ⟨p, ys, e1, e2, q⟩ =>
  call_len_seq pins s σ H xs us Q I r ⟨p, ys, e1, .inl (SqL.of e2), q⟩
theorem call_lenTT : CallR X (.builtin "len") rLenTT := fun pins s σ H xs us Q I r ⟨p, ys, e1, e2, q⟩ =>
  call_len_seq pins s σ H xs us Q I r ⟨p, ys, e1, .inr (SqT.of e2), q⟩
end
theorem cxK {CX : CXT} {P : Program} {w : World} {K : PySem.W.Frag} {mg : Str → Option Value} {base : Heap} {N : List Str} {q : Str} {sc : Scope} {f : Addr} {cd : Value} {A : Around} {o : List Env} {s : Shared} {H : Hp} {E : XK} :
    (cxOf CX P w K mg base N q sc f cd A o s H E).K = K := rfl
theorem cxKn {CX : CXT} {P : Program} {w : World} {K : PySem.W.Frag} {mg : Str → Option Value} {base : Heap} {N : List Str} {q : Str} {sc : Scope} {f : Addr} {cd : Value} {A : Around} {o : List Env} {s : Shared} {H : Hp} {E : XK} :
    (cxOf CX P w K mg base N q sc f cd A o s H E).nox.K = K := rfl
end Wk
namespace Wk
open PySem L2
theorem atI_lits {α : Type} (l : List α) : atI l 0 = l[0]? ∧ atI l 1 = l[1]? ∧ atI l 2 = l[2]? ∧ atI l 3 = l[3]? ∧ atI l 4 = l[4]? ∧ atI l 5 = l[5]? ∧ atI l 6 = l[6]? ∧ atI l 7 = l[7]? ∧ atI l 8 = l[8]? ∧ atI l 9 = l[9]? ∧ atI l 10 = l[10]? ∧ atI l 11 = l[11]? ∧ atI l 12 = l[12]? ∧ atI l 13 = l[13]? ∧ atI l 14 = l[14]? ∧ atI l 15 = l[15]? ∧ atI l 16 = l[16]? ∧ atI l 17 = l[17]? ∧ atI l 18 = l[18]? ∧ atI l 19 = l[19]? ∧ atI l 20 = l[20]? ∧ atI l 21 = l[21]? ∧ atI l 22 = l[22]? ∧ atI l 23 = l[23]? := ⟨atI_eq l 0, atI_eq l 1, atI_eq l 2, atI_eq l 3, atI_eq l 4, atI_eq l 5, atI_eq l 6, atI_eq l 7, atI_eq l 8, atI_eq l 9, atI_eq l 10, atI_eq l 11, atI_eq l 12, atI_eq l 13, atI_eq l 14, atI_eq l 15, atI_eq l 16, atI_eq l 17, atI_eq l 18, atI_eq l 19, atI_eq l 20, atI_eq l 21, atI_eq l 22, atI_eq l 23⟩
theorem ixN_0 (n : Nat) : ixN (n + 1) 0 = some 0 := by
  unfold ixN
  rw [if_pos (by decide), if_pos (by omega)]
  rfl
theorem ixN_1 (n : Nat) : ixN (n + 1 + 1) 1 = some 1 := by
  unfold ixN
  rw [if_pos (by decide), if_pos (by omega)]
  rfl
theorem ixN_2 (n : Nat) : ixN (n + 1 + 1 + 1) 2 = some 2 := by
  unfold ixN
  rw [if_pos (by decide), if_pos (by omega)]
  rfl
end Wk
namespace Wk
open PySem L2
/-- the body of a for and what follows it, put aside while its head is read -/
theorem for_hide {wi : TI} {g : TG} {tb : TS} {D : Ends} {σ : L2.St} {H : Hp} (h : ∀ (tb' : TS) (D' : Ends), tb' = tb → D' = D → tFor wi g tb' D' σ H) : tFor wi g tb D σ H := h tb D rfl rfl
end Wk
namespace Wk
open PySem PySem.Spec PyProof.Rows L2
section
variable {X : Cx}
/-- o.m(e, ..) by a built-in type's method; the written part given by an equation, so that it may stand in a comprehension -/
theorem pe_bmK {K : PySem.W.Frag} {T id : String} {name : Str} {r : V → List V → Hp → VK → Prop} {o e : Expr} {es : List Expr} {to : TE} {t : TA} {apos cpos : Pos} (hK : X.K = K) (pa : PlainAttrs T) (slot : Slot T name id) (hty : typeOf (.builtin id) = pure (.type "method_descriptor")) (hm : MtR X id r) (ho : PE X o to) (ha : PA X (e :: es) t)
    (hbase : attributeBase o name X.env (eval o X.env) = eval o X.env := by rfl)
    (hfew : ((backTo cpos (starEach (e :: es) X.env)).all (fun x => !x.1) && (backToKw cpos (keywordEach [] X.env)).all (fun x => x.1.isSome)
      && decide ((e :: es).length + ([] : List Keyword).length + (if ([] : List Keyword).isEmpty then 0 else 1) < 30)) = true := by rfl)
    (hline : (apos.endLine == cpos.line) = true := by rfl) (hs : starEach (e :: es) X.env = (false, eval e X.env) :: starEach es X.env := by rfl) (hplain : (backTo cpos (starEach es X.env)).any (·.1) = false := by rfl) :
    PE X (.Call (.Attribute o name apos) (e :: es) [] cpos) (tBM K T r to t) := by
  subst hK
  exact pe_bm pa slot hty hm ho ha hbase hfew hline hs hplain
end
end Wk
set_option Elab.async false
set_option linter.all false
set_option maxRecDepth 100000
set_option maxHeartbeats 4000000
/-! Exceptions without values; own operators and own ==. -/
namespace Wk
open PySem PySem.Spec PyProof.Rows L2
/-- C(), C's own __init__ keeping sp and storing nothing -/
def tMkO0 (C : Addr) (sp : Sp) : L2.St → Hp → XK → Prop := fun _ H Q => ∀ a, H a = none → sp [.ref a] (upd H a (exo a C none))
  (fun v H2 => v = .non ∧ H2 a = some (exo a C none) ∧ Q (.ref C) none (del H2 a)) (fun _ _ _ => False)
section
variable {X : Cx}
theorem mk_bare {pins : List (Addr × Obj)} {σ : L2.St} {H1 H2 : Hp} {hp hp2 h2 : Heap} {g1 g2 : Array GenState} {d1 d2 : Drawn} {t1 t2 : Nat} {os1 os2 : OsState} {a C : Addr}
    (I1 : Inv X pins σ H1 ⟨hp, g1, d1, t1, os1⟩) (ha : hp.objs.size ≤ a) (k : ∀ b o, hp.get? b = some o → hp2.get? b = some o)
    (un : Un (frs X.stack) [] (upd H1 a (exo a C none)) H2 hp2 h2) (hok : HOk X.prog X.w H2 h2) (ho : os2 = os1) (hb : AllBare g2) (ea : H2 a = some (exo a C none)) :
    ∃ (t0 : Addr) (G : Heap), Inv X pins σ (del H2 a) ⟨G, g2, d2, t2, os2⟩ ∧ (∀ b o, G.get? b = some o → h2.get? b = some o) ∧ G.get? a = none ∧
      h2.get? a = some ({ cls := .ref C, dict := none, data := .fields #[.ref t0, .none, .none, .none, .bool false, .none] } : Obj) := by
  obtain ⟨t0, hoe⟩ := exo_at hok ea
  have hn : H1 a = none := I1.hok.fresh ha
  obtain ⟨G, g1', g2'⟩ := restrict h2 fun b => decide (b ≠ a)
  have gk : ∀ b, b ≠ a → G.get? b = h2.get? b := fun b hb => g1' b (decide_eq_true hb)
  have ge : G.get? a = none := g2' a (by simp)
  have nha : ∀ {b : Addr} {o : Obj}, hp.get? b = some o → b ≠ a := fun z => Nat.ne_of_lt (Nat.lt_of_lt_of_le (Heap.lt_size z) ha)
  have up : ∀ {b : Addr}, b ≠ a → H1 b = none → upd H1 a (exo a C none) b = none := fun hb n => (upd_ne hb).trans n
  have U : Un (frs X.stack) [] H1 (del H2 a) hp G := {
    keep := fun b o z n hf hx => (gk b (nha z)).trans (un.keep b o (k b o z) (up (nha z) n) hf hx)
    slot := fun b o z n hf hx => by
      rw [gk b (nha z)]
      exact un.slot b o (k b o z) (up (nha z) n) hf hx
    free := fun b o z n hx => (del_ne (nha z)).trans (un.free b o (k b o z) (up (nha z) n) hx)
    there := fun b o z hx => by
      rw [gk b (nha z)]
      exact un.there b o (k b o z) hx
    tups := fun b xs z => (del_ne (ne_of_none z hn)).trans (un.tups b xs ((upd_ne (ne_of_none z hn)).trans z))
    frzs := fun b o v z => (del_ne (ne_of_none z hn)).trans (un.frzs b o v ((upd_ne (ne_of_none z hn)).trans z))
    tbls := fun b ps z => by
      rw [del_ne (ne_of_none z hn)]
      exact un.tbls b ps ((upd_ne (ne_of_none z hn)).trans z) }
  have hok3 : HOk X.prog X.w (del H2 a) G := fun b o z => by
    have hba : b ≠ a := fun e => by
      rw [e, del_same] at z
      cases z
    rw [del_ne hba] at z
    have noa : ∀ {c : Addr}, H2 c = some (.own b) → c ≠ a := fun hc => at_ne ea hc exo_own
    refine (hok b o z).stay (fun c v hc y => ?_) (fun c hc => (del_ne (noa hc)).trans hc) (fun c xs hc => (del_ne (at_ne ea hc exo_tup)).trans hc)
    have hca : c ≠ a := by
      rcases hc with hc | hc
      · rw [hc]
        exact hba
      · exact noa hc
    exact (gk c hca).trans y
  refine ⟨t0, G, I1.call' (ch := []) ho U hok3 hb (fun b z => absurd z (by simp)), fun b o z => ?_, ge, hoe⟩
  by_cases hba : b = a
  · rw [hba, ge] at z
    cases z
  · exact (gk b hba).symm.trans z
theorem pmk_oex0 {CX : CXT} {x : Str} {C fI : Addr} {k : Nat} {fd : FuncData} {ps : List Str} {sp : Sp} {p pos : Pos} (T : OexC X.K C)
    (iC : PySem.W.findIn X.K (.ref C) "__init__" = some (some (.ref fI))) (tI : PySem.W.typeIn X.K (.ref fI) = some (.type "function"))
    (F1 : FnOk X.prog X.w X.K X.mg X.base CX k fI fd ps sp) (hr : Room (k + 1) X.A) (hb : Binds X.K fd ps []) (hx : Passes CX X (fun _ _ _ => False)) (hg : Gl X x)
    (hm : X.mg x = some (.ref C)) (hdb : (x == ("__debug__" : Str)) = false := by decide) : PMk X (.Call (.Name x p) [] [] pos) (tMkO0 C sp) := by
  intro pins s σ H Q I h
  obtain ⟨nm, q, N, bs, bm, sn, sub, ab, col, dd, k0, k1, k2, k3, k5, hC, hbm⟩ := T.cls
  refine wpAny_Call_Name_kw (ld_glob I hg hm ?_ hdb)
  refine PySem.W.callWith_K0 I.kIn T.kC ?_
  show wpAny _ _ (call (.ref C) []) _ _ _
  obtain ⟨hp, g, dr, tk, os⟩ := s
  have hsz : hp.objs.size ≤ hp.objs.size + 1 := Nat.le_succ _
  have hn : H (hp.objs.size + 1) = none := I.hok.fresh hsz
  have hq := h (hp.objs.size + 1) hn
  have kk : ∀ b o, hp.get? b = some o → ((hp.push (PySem.W.kdv_tup [])).push (PySem.HandSPX.excO C hp.objs.size)).get? b = some o := fun b o e => Heap.get?_push_of_some _ (Heap.get?_push_of_some _ e)
  have hget : ((hp.push (PySem.W.kdv_tup [])).push (PySem.HandSPX.excO C hp.objs.size)).get? (hp.objs.size + 1) = some (PySem.HandSPX.excO C hp.objs.size) := by heap_get
  have I2 : Inv X pins σ (upd H (hp.objs.size + 1) (exo (hp.objs.size + 1) C none)) ⟨(hp.push (PySem.W.kdv_tup [])).push (PySem.HandSPX.excO C hp.objs.size), g, dr, tk, os⟩ :=
    I.laid (t' := tk) (a := hp.objs.size + 1) (o := exo (hp.objs.size + 1) C none) (h' := (hp.push (PySem.W.kdv_tup [])).push (PySem.HandSPX.excO C hp.objs.size)) kk hsz (exo_ok hget)
  have r2 : Vals [V.ref (hp.objs.size + 1)] [Value.ref (hp.objs.size + 1)] := .cons rfl .nil
  have hl : ([Value.ref (hp.objs.size + 1)] ++ []).length = ps.length := F1.len _ _ _ _ hq
  refine wpAny_call (PySem.HandSPX.call_own F.excBase_ValueError (fun Y => PySem.HandSPX.refsVE_contains Y bm hbm) (I.kIn _ _ hC) (PySem.W.looks_findIn I.kIn iC) (fun self => PySem.W.bind_fn I.kIn self tI) (Nat.zero_le _)
    (codeAny_mono (F1.run _ X.stack _ _ ⟨[Value.ref (hp.objs.size + 1)], []⟩ [Value.ref (hp.objs.size + 1)] _ _ (fun _ _ _ => False) (hr.make C [] []) (I2.env0.make C [] []) (hb _ [Value.ref (hp.objs.size + 1)] I2.kIn hl) r2 hq) fun r s' hq' => ?_))
  cases r with
  | error er => exact hx pins σ _ _ er s' I2 hq'
  | ok fl =>
    cases fl with
    | ret u =>
      obtain ⟨v, H2, os2, bare2, un2, hok2, rv, ev, ea, q2⟩ := hq'
      subst ev
      obtain ⟨h2, g2, d2, t2, os'⟩ := s'
      obtain ⟨t0, G, J, kG, ge, hoe⟩ := mk_bare (d2 := d2) (t2 := t2) I hsz kk un2 hok2 os2 bare2 ea
      exact ⟨rv, ⟨hp.objs.size + 1, _, _, ⟨G, g2, d2, t2, os'⟩, _, .ref C, none, rfl, J, kG, ge, hoe, ⟨rfl, rfl⟩, rfl, rfl, del_same, rfl, bare2, raises_own T.exC T.tyC, q2⟩⟩
    | next => exact False.elim hq'
    | brk => exact False.elim hq'
    | cont => exact False.elim hq'
/-! ### own operators -/
theorem cmpBack_of {pins : List (Addr × Obj)} {σ : L2.St} {Q : VK} {u : Value} {s' : Shared} (h : EP X pins σ Q u s') : PySem.W.CmpBack (EP X pins σ Q) u s' := by
  obtain ⟨v, H', I, r, q⟩ := h
  cases v with
  | non => cases (show u = Value.none from r); exact ⟨.non, H', I, rfl, q⟩
  | bl b => cases (show u = Value.bool b from r); exact ⟨.bl b, H', I, rfl, q⟩
  | int i => obtain ⟨t, e⟩ := (show ∃ t, u = Value.int i t from r); cases e; exact ⟨.int i, H', I, ⟨t, rfl⟩, q⟩
  | str x => obtain ⟨t, e⟩ := (show ∃ t, u = Value.str x t from r); cases e; exact ⟨.str x, H', I, ⟨t, rfl⟩, q⟩
  | byt x => obtain ⟨t, e⟩ := (show ∃ t, u = Value.bytes x t from r); cases e; exact ⟨.byt x, H', I, ⟨t, rfl⟩, q⟩
  | flt x => obtain ⟨t, e⟩ := (show ∃ t, u = Value.float x t from r); cases e; exact ⟨.flt x, H', I, ⟨t, rfl⟩, q⟩
  | ref b => cases (show u = Value.ref b from r); exact ⟨.ref b, H', I, rfl, q⟩
  | ty n => cases (show u = Value.type n from r); exact ⟨.ty n, H', I, rfl, q⟩
/-- what the written part says of an own operator of the class at C -/
structure OwnOp (K : PySem.W.Frag) (C f : Addr) (op : Operator) : Prop where
  sf : PySem.W.selfFirst K C = true
  at_ : PySem.W.findIn K (.ref C) (PySem.dunder op.info.2) = some (some (.ref f))
  fn : PySem.W.isFn K (.ref f) = true
  nor : PySem.W.findIn K (.ref C) (dunderR op.info.2) = some none
  i1 : ∃ fo, PySem.W.findIn K (.type "int") (PySem.dunder op.info.2) = some fo
  i2 : ∃ ro, PySem.W.findIn K (.type "int") (dunderR op.info.2) = some ro
  sub : PySem.W.subIn K (.type "int") (.ref C) = some false
/-- a op b: a an instance of the class at C, b another one or an int -/
def rOwn (C : Addr) (sp : Sp) (E : XK) : R2 := fun x y H Q => ∃ a dx fs, x = .ref a ∧ H a = some (.ins C dx fs) ∧
  ((∃ b dy gs, y = .ref b ∧ H b = some (.ins C dy gs)) ∨ ∃ i, y = .int i) ∧ sp [x, y] H Q E
theorem op_own {CX : CXT} {op : Operator} {C f : Addr} {k : Nat} {fd : FuncData} {ps : List Str} {sp : Sp} {E : XK} (T : OwnOp X.K C f op) (F1 : FnOk X.prog X.w X.K X.mg X.base CX k f fd ps sp) (hr : Room k X.A)
    (hb : Binds X.K fd ps []) (hx : Passes CX X E) : OpR X (binaryOp op) (rOwn C sp E) := by
  intro pins s σ H x y v u Q I rx ry h
  obtain ⟨a, dx, fs, rfl, ea, hy, h⟩ := h
  cases (show v = Value.ref a from rx)
  obtain ⟨mA, O, _, _, _, _⟩ := ins_get I.hok ea
  obtain ⟨od, J, _⟩ := O.look
  obtain ⟨m, hF⟩ := I.fr
  have run : wpAny (model X.prog X.w) X.A (call (.ref f) [.ref a, u]) (PySem.W.CmpBack (EP X pins σ Q)) X.xe s :=
    wpAny_mono (run_fn (us := [.ref a, u]) (vs := [.ref a, y]) F1 hr hb .nil hx I (.cons rfl (.cons ry .nil)) h) (fun w s' z => cmpBack_of z) fun _ _ z => z
  rcases hy with ⟨b, dy, gs, rfl, eb⟩ | ⟨i, rfl⟩
  · cases (show u = Value.ref b from ry)
    obtain ⟨mB, O', _, _, _, _⟩ := ins_get I.hok eb
    obtain ⟨od', J', _⟩ := O'.look
    exact PySem.W.binop_K hF I.ok.mod.kin J J'.type T.sf T.at_ T.fn run
  · obtain ⟨t, e⟩ := (show ∃ t, u = Value.int i t from ry)
    cases e
    obtain ⟨fo, h1⟩ := T.i1
    obtain ⟨ro, h2⟩ := T.i2
    exact PySem.W.ksp_binT hF I.ok.mod.kin J rfl T.sf T.at_ T.fn T.nor (.inl rfl) h1 h2 T.sub run
/-- a == b by a's own ==, b of any told type that is no subclass of it -/
def rOwnEq (K : PySem.W.Frag) (C : Addr) (sp : Sp) (E : XK) : R2 := fun x y H Q => ∃ a dx fs t, x = .ref a ∧ H a = some (.ins C dx fs) ∧ TyX K H y t ∧ PySem.W.notFirst K C t = true ∧ sp [x, y] H Q E
theorem op_ownEq {CX : CXT} {C f : Addr} {k : Nat} {fd : FuncData} {ps : List Str} {sp : Sp} {E : XK} (at_ : PySem.W.findIn X.K (.ref C) "__eq__" = some (some (.ref f))) (fn : PySem.W.isFn X.K (.ref f) = true)
    (F1 : FnOk X.prog X.w X.K X.mg X.base CX k f fd ps sp) (hr : Room k X.A) (hb : Binds X.K fd ps []) (hx : Passes CX X E) : OpR X (compareOp .Eq) (rOwnEq X.K C sp E) := by
  intro pins s σ H x y v u Q I rx ry h
  obtain ⟨a, dx, fs, t, rfl, ea, ty, nf, h⟩ := h
  cases (show v = Value.ref a from rx)
  obtain ⟨mA, O, _, _, _, _⟩ := ins_get I.hok ea
  obtain ⟨od, J, _⟩ := O.look
  obtain ⟨m, hF⟩ := I.fr
  have run : wpAny (model X.prog X.w) X.A (call (.ref f) [.ref a, u]) (PySem.W.CmpBack (EP X pins σ Q)) X.xe s :=
    wpAny_mono (run_fn (us := [.ref a, u]) (vs := [.ref a, y]) F1 hr hb .nil hx I (.cons rfl (.cons ry .nil)) h) (fun w s' z => cmpBack_of z) fun _ _ z => z
  obtain ⟨P, Z, hp, _⟩ := kit_of I ry ty
  show wpAny (model X.prog X.w) X.A (richCompare .Eq (.ref a) u) _ _ _
  exact PySem.W.cmp_K (op := .Eq) hr.units0 hF I.ok.mod.kin J (Z.ty _ _ I.kIn hp) nf at_ fn run
theorem op_ownEqK {CX : CXT} {K : PySem.W.Frag} {C f : Addr} {k : Nat} {fd : FuncData} {ps : List Str} {sp : Sp} {E : XK} (hK : X.K = K) (at_ : PySem.W.findIn K (.ref C) "__eq__" = some (some (.ref f))) (fn : PySem.W.isFn K (.ref f) = true)
    (F1 : FnOk X.prog X.w K X.mg X.base CX k f fd ps sp) (hr : Room k X.A) (hb : Binds K fd ps []) (hx : Passes CX X E) : OpR X (compareOp .Eq) (rOwnEq K C sp E) := by
  subst hK
  exact op_ownEq at_ fn F1 hr hb hx
end
end Wk
namespace Wk
open PySem PySem.Spec PyProof.Rows L2
section
variable {X : Cx}
theorem call_repr_bool : CallR X (.builtin "repr") (fun xs H Q => ∃ b, xs = [.bl b] ∧ Q (.str (if b then "True" else "False")) H) := by
  intro pins s σ H xs us Q I r h
  obtain ⟨b, rfl, q⟩ := h
  obtain ⟨u, rfl, e⟩ := vals1 r
  cases (show u = Value.bool b from e)
  exact PySem.P.repr_of_bool ⟨.str _, H, I.tok _, ⟨_, rfl⟩, q⟩
end
/-- a def of the text with one default value, an int written in the text -/
abbrev FunD1 (K : PySem.W.Frag) (x qual : Str) (st : Stmt) (f : Addr) (fd : FuncData) : Prop := FunD K x qual (defArgs st) (defBody st) (defScope st) [.int 1] [] f fd
theorem fund_mk {K : PySem.W.Frag} {x qual : Str} {st : Stmt} {f T : Addr} {oc : Value} {od an dd : Option Addr} {osl sl : Array (Option Value)} {kV doc pm cdv ct cc u : Value} {n : Nat}
    (l : K.lookup f = some ⟨oc, od, .func (PySem.W.fnOf x qual (defArgs st) (defBody st) (defScope st) (.ref T) kV doc pm an cdv ct), osl⟩) (c : PySem.W.codeIn K cdv qual = true)
    (k : PySem.W.keepIn K (.ref f) = true) (t : K.lookup T = some ⟨cc, dd, .seq [u].toArray n, sl⟩) (r : RelV (.int 1) u) :
    FunD1 K x qual st f (PySem.W.fnOf x qual (defArgs st) (defBody st) (defScope st) (.ref T) kV doc pm an cdv ct) :=
  ⟨⟨oc, od, .ref T, kV, doc, pm, an, cdv, ct, osl, rfl, l, c, .inr ⟨by simp, T, _, [u], n, rfl, t, rfl, .cons r .nil⟩, .inl rfl⟩, k⟩
end Wk
namespace Wk
open PySem L2
/-- a comprehension's parts and what follows it, put aside while its head is read -/
theorem lc_hide {wi : TI} {g : TG} {tt : TT} {te : TE} {vs : List Nat} {σ : L2.St} {H : Hp} {Q : VK} (h : ∀ (g' : TG) (tt' : TT) (te' : TE) (Q' : VK), g' = g → tt' = tt → te' = te → Q' = Q → tLc wi g' tt' te' vs σ H Q') : tLc wi g tt te vs σ H Q := h g tt te Q rfl rfl rfl rfl
end Wk
namespace Wk
open PySem L2
theorem kit_own {K : PySem.W.Frag} {t : Value} {C : Addr} {b : Bool} (h0 : (t == Value.ref C) = false) (h1 : PySem.W.isClsIn K C = true) (h2 : PySem.W.typeIn K (.ref C) = some (.type "type")) (h3 : PySem.W.subIn K t (.ref C) = some b) : PySem.W.kitOne K t (.ref C) = some b := by
  have h1' : (PySem.W.clsIn K C).isSome = true := h1
  unfold PySem.W.kitOne PySem.W.kitCls
  rw [h0]
  simp only [h1', h2, h3]
  rfl
theorem kit_blt {K : PySem.W.Frag} {C : Addr} {T : String} {b : Bool} (h0 : (Value.ref C == Value.type T) = false) (h1 : PySem.W.kitMeta T = true) (h3 : PySem.W.subIn K (.ref C) (.type T) = some b) : PySem.W.kitOne K (.ref C) (.type T) = some b := by
  unfold PySem.W.kitOne PySem.W.kitCls
  rw [h0]
  simp only [h1, h3]
  rfl
theorem kit_self {K : PySem.W.Frag} {C : Addr} : PySem.W.kitOne K (.ref C) (.ref C) = some true := by
  unfold PySem.W.kitOne
  rw [if_pos (by simp)]
end Wk
namespace Wk
open PySem L2
theorem prop_mk {K : PySem.W.Frag} {C p g : Addr} {f : Str} {rest : List Value} (h1 : PySem.W.findIn K (.ref C) f = some (some (.ref p))) (h2 : PySem.W.specialIn K (.ref p) "__get__" = some (some (.builtin "property.__get__")))
    (h3 : PySem.W.takesIn K (.ref p) = some true) (h4 : PySem.W.recIn K p "property" = some (.ref g :: rest)) : PropOf K C f p g := ⟨h1, h2, h3, _, h4⟩
theorem ownop_mk {K : PySem.W.Frag} {C f : Addr} {op : Operator} {fo ro : Option Value} (h1 : PySem.W.selfFirst K C = true) (h2 : PySem.W.findIn K (.ref C) (PySem.dunder op.info.2) = some (some (.ref f))) (h3 : PySem.W.isFn K (.ref f) = true)
    (h4 : PySem.W.findIn K (.ref C) (dunderR op.info.2) = some none) (h5 : PySem.W.findIn K (.type "int") (PySem.dunder op.info.2) = some fo) (h6 : PySem.W.findIn K (.type "int") (dunderR op.info.2) = some ro) (h7 : PySem.W.subIn K (.type "int") (.ref C) = some false) : OwnOp K C f op :=
  ⟨h1, h2, h3, h4, ⟨_, h5⟩, ⟨_, h6⟩, h7⟩
end Wk
set_option Elab.async false
set_option linter.all false
set_option maxRecDepth 100000
set_option maxHeartbeats 4000000
/-! Exceptions of the package held as values: made, asked for their class, read. -/
namespace Wk
open PySem PySem.Spec PySem.Calls PyProof.Rows L2
section
variable {X : Cx} {e : Expr} {es : List Expr} {ta : TA} {p pos : Pos}
/-- C(e, ..), kept as a value -/
def tMkV (C : Addr) (sp : Sp) (dvs : List V) (ta : TA) : TE := fun σ H Q => ta σ H fun vs H1 => vs.length ≤ 1000 ∧ ∀ a, H1 a = none → sp (.ref a :: (vs ++ dvs)) (upd H1 a (exo a C none)) (fun v H2 => v = .non ∧ Q (.ref a) H2) (fun _ _ _ => False)
def tMkV0 (C : Addr) (sp : Sp) : TE := fun σ H Q => ∀ a, H a = none → sp [.ref a] (upd H a (exo a C none)) (fun v H2 => v = .non ∧ Q (.ref a) H2) (fun _ _ _ => False)
theorem mkv_run {CX : CXT} {C fI : Addr} {k : Nat} {fd : FuncData} {ps : List Str} {sp : Sp} {ds us : List Value} {dvs vs : List V} {pins : List (Addr × Obj)} {s : Shared} {σ : L2.St} {H : Hp} {Q : VK} (T : OexC X.K C)
    (iC : PySem.W.findIn X.K (.ref C) "__init__" = some (some (.ref fI))) (tI : PySem.W.typeIn X.K (.ref fI) = some (.type "function"))
    (F1 : FnOk X.prog X.w X.K X.mg X.base CX k fI fd ps sp) (hr : Room (k + 1) X.A) (hb : Binds X.K fd ps ds) (hd : Vals dvs ds) (hx : Passes CX X (fun _ _ _ => False)) (I : Inv X pins σ H s) (r : Vals vs us) (hz : vs.length ≤ 1000)
    (h : ∀ a, H a = none → sp (.ref a :: (vs ++ dvs)) (upd H a (exo a C none)) (fun v H2 => v = .non ∧ Q (.ref a) H2) (fun _ _ _ => False)) :
    wpAny (model X.prog X.w) X.A (call (.ref C) us) (EP X pins σ Q) X.xe s := by
  obtain ⟨nm, q, N, bs, bm, sn, sub, ab, col, dd, k0, k1, k2, k3, k5, hC, hbm⟩ := T.cls
  obtain ⟨hp, g, dr, tk, os⟩ := s
  have hsz : hp.objs.size ≤ hp.objs.size + 1 := Nat.le_succ _
  have hq := h (hp.objs.size + 1) (I.hok.fresh hsz)
  have kk : ∀ b o, hp.get? b = some o → ((hp.push (PySem.W.kdv_tup us)).push (PySem.HandSPX.excO C hp.objs.size)).get? b = some o := fun b o e => Heap.get?_push_of_some _ (Heap.get?_push_of_some _ e)
  have hget : ((hp.push (PySem.W.kdv_tup us)).push (PySem.HandSPX.excO C hp.objs.size)).get? (hp.objs.size + 1) = some (PySem.HandSPX.excO C hp.objs.size) := by heap_get
  have I2 : Inv X pins σ (upd H (hp.objs.size + 1) (exo (hp.objs.size + 1) C none)) ⟨(hp.push (PySem.W.kdv_tup us)).push (PySem.HandSPX.excO C hp.objs.size), g, dr, tk, os⟩ :=
    I.laid (t' := tk) (a := hp.objs.size + 1) (o := exo (hp.objs.size + 1) C none) (h' := (hp.push (PySem.W.kdv_tup us)).push (PySem.HandSPX.excO C hp.objs.size)) kk hsz (exo_ok hget)
  have r2 : Vals (V.ref (hp.objs.size + 1) :: (vs ++ dvs)) (Value.ref (hp.objs.size + 1) :: (us ++ ds)) := .cons rfl (r.append hd)
  have hl : (Value.ref (hp.objs.size + 1) :: us ++ ds).length = ps.length := r2.length.symm.trans (F1.len _ _ _ _ hq)
  have hus : us.length ≤ sizeLine := by
    rw [← Paired.length r, sizeLine_eq]
    omega
  refine wpAny_call (PySem.HandSPX.call_own F.excBase_ValueError (fun Y => PySem.HandSPX.refsVE_contains Y bm hbm) (I.kIn _ _ hC) (PySem.W.looks_findIn I.kIn iC) (fun self => PySem.W.bind_fn I.kIn self tI) hus
    (codeAny_mono (F1.run _ X.stack _ _ ⟨Value.ref (hp.objs.size + 1) :: us, []⟩ (Value.ref (hp.objs.size + 1) :: (us ++ ds)) _ _ (fun _ _ _ => False) (hr.make C us []) (I2.env0.make C us []) (hb _ (Value.ref (hp.objs.size + 1) :: us) I2.kIn hl) r2 hq) fun r s' hq' => ?_))
  cases r with
  | error er => exact hx pins σ _ _ er s' I2 hq'
  | ok fl =>
    cases fl with
    | ret u =>
      obtain ⟨v, H2, os2, bare2, un2, hok2, rv, ev, q2⟩ := hq'
      subst ev
      obtain ⟨h2, g2, d2, t2, os'⟩ := s'
      exact ⟨rv, .ref _, H2, I2.call' (ch := []) os2 un2 hok2 bare2 (fun b z => absurd z (by simp)), rfl, q2⟩
    | next => exact False.elim hq'
    | brk => exact False.elim hq'
    | cont => exact False.elim hq'
theorem pe_mkV {CX : CXT} {x : Str} {C fI : Addr} {k : Nat} {fd : FuncData} {ps : List Str} {sp : Sp} {ds : List Value} {dvs : List V} (T : OexC X.K C) (iC : PySem.W.findIn X.K (.ref C) "__init__" = some (some (.ref fI))) (tI : PySem.W.typeIn X.K (.ref fI) = some (.type "function"))
    (F1 : FnOk X.prog X.w X.K X.mg X.base CX k fI fd ps sp) (hr : Room (k + 1) X.A) (hb : Binds X.K fd ps ds) (hd : Vals dvs ds) (hx : Passes CX X (fun _ _ _ => False)) (hg : Gl X x) (hm : X.mg x = some (.ref C)) (ha : PA X (e :: es) ta)
    (hdb : (x == ("__debug__" : Str)) = false := by decide) (he : starEach (e :: es) X.env = (false, eval e X.env) :: starEach es X.env := by rfl) (hpl : (backTo pos (starEach es X.env)).any (·.1) = false := by rfl) :
    PE X (.Call (.Name x p) (e :: es) [] pos) (tMkV C sp dvs ta) := by
  refine ⟨fun pins s σ H Q I h => ?_⟩
  refine wpAny_Call_Name_kw (ld_glob I hg hm ?_ hdb)
  exact PySem.W.callWith_K (h₀ := X.base) I.ok.mod.kin T.kC (thn (ha.run pos pins s σ H _ I h) fun us s1 ⟨vs, H1, I1, r1, hz, q1⟩ => ⟨I1.kIn, mkv_run T iC tI F1 hr hb hd hx I1 r1 hz q1⟩) he hpl
theorem pe_mkV0 {CX : CXT} {x : Str} {C fI : Addr} {k : Nat} {fd : FuncData} {ps : List Str} {sp : Sp} (T : OexC X.K C) (iC : PySem.W.findIn X.K (.ref C) "__init__" = some (some (.ref fI))) (tI : PySem.W.typeIn X.K (.ref fI) = some (.type "function"))
    (F1 : FnOk X.prog X.w X.K X.mg X.base CX k fI fd ps sp) (hr : Room (k + 1) X.A) (hb : Binds X.K fd ps []) (hx : Passes CX X (fun _ _ _ => False)) (hg : Gl X x) (hm : X.mg x = some (.ref C)) (hdb : (x == ("__debug__" : Str)) = false := by decide) :
    PE X (.Call (.Name x p) [] [] pos) (tMkV0 C sp) := by
  refine ⟨fun pins s σ H Q I h => ?_⟩
  refine wpAny_Call_Name_kw (ld_glob I hg hm ?_ hdb)
  refine PySem.W.callWith_K0 I.kIn T.kC ?_
  exact mkv_run (dvs := []) T iC tI F1 hr hb .nil hx I .nil (Nat.zero_le _) h
/-- an exception of the class at C, held; its fields -/
def ExV (H : Hp) (a C : Addr) (fs : Option (List (Str × V))) : Prop := match fs with
  | none => H a = some (exo a C none)
  | some l => ∃ d, H a = some (exo a C (some d)) ∧ H d = some (exd d l)
theorem exv_inst {pins : List (Addr × Obj)} {s : Shared} {σ : L2.St} {H : Hp} {a C : Addr} {fs : Option (List (Str × V))} (I : Inv X pins σ H s) (h : ExV H a C fs) :
    ∃ (ox : Obj) (od : Option Obj), PySem.W.InstAt s.heap a ox C od ∧ ∀ l, fs = some l → ∃ (o : Obj) (mA : Str → Option Value), od = some o ∧ (∀ f, PySem.W.lookIn f o = some (mA f)) ∧ ∀ f, RelO (l.lookup f) (mA f) := by
  cases fs with
  | none =>
    obtain ⟨t1, ho⟩ := exo_at I.hok h
    exact ⟨_, none, ⟨ho, rfl, rfl, trivial⟩, fun l q => by cases q⟩
  | some l =>
    obtain ⟨d, h1, h2⟩ := h
    obtain ⟨t1, ho⟩ := exo_at I.hok h1
    obtain ⟨mA, hns, rel⟩ := exd_at I.hok h2
    obtain ⟨od, hod, hl⟩ := lookIn_ns hns
    refine ⟨_, some od, ⟨ho, rfl, rfl, hod⟩, fun l' q => ?_⟩
    cases q
    exact ⟨od, mA, rfl, hl, rel⟩
/-- isinstance(e, c), e a held exception -/
def rIsX (K : PySem.W.Frag) : List V → Hp → VK → Prop := fun xs H Q => ∃ (a C : Addr) (fs : Option (List (Str × V))) (c : V) (u : Value) (b : Bool), xs = [.ref a, c] ∧ ClsV c u ∧ ExV H a C fs ∧ ExcC K C ∧ PySem.W.kitOne K (.ref C) u = some b ∧ Q (.bl b) H
theorem call_isX : CallR X (.builtin "isinstance") (rIsX X.K) := by
  intro pins s σ H xs us Q I r h
  obtain ⟨a, C, fs, c, u, b, rfl, k, hE, T, e, q⟩ := h
  obtain ⟨u1, u2, rfl, r1, r2⟩ := vals2 r
  have e2 := k.eq r2
  subst e2
  cases (show u1 = Value.ref a from r1)
  obtain ⟨ox, od, J, _⟩ := exv_inst I hE
  have hcl : (PySem.W.clsIn X.K C).isSome = true := by
    obtain ⟨cd, hc, _⟩ := PySem.W.any_some T.hd
    rw [hc]
    rfl
  exact PySem.W.kia_one (PySem.W.kitx_exc (od := od) (ox := ox) hcl T.hg T.hk T.hs T.ha T.hn T.ht T.hm) I.kIn J e (fun z => nomatch z) fun tk => ⟨.bl b, H, I.tok _, rfl, q⟩
/-- e.f, e a held exception -/
def tXfV (K : PySem.W.Frag) (f : Str) (te : TE) : TE := fun σ H Q => te σ H fun x H1 => ∃ (a C : Addr) (l : List (Str × V)) (v : V), x = .ref a ∧ ExV H1 a C (some l) ∧ XfC K C ∧ PySem.W.findIn K (.ref C) f = some none ∧ l.lookup f = some v ∧ Q v H1
theorem pe_xfV {n : Str} {te : TE} (he : PE X e te) (hb : attributeBase e n X.env (eval e X.env) = eval e X.env := by rfl) : PE X (.Attribute e n pos) (tXfV X.K n te) := by
  refine ⟨fun pins s σ H Q I h => ?_⟩
  refine attr_of hb (thn (he.run pins s σ H _ I h) fun u s1 hh => ?_)
  obtain ⟨x, H1, I1, rx, a, C, l, v, ex, hE, T, hno, hl, q⟩ := hh
  subst ex
  obtain rfl : u = Value.ref a := rx
  obtain ⟨ox, od, J, hf⟩ := exv_inst I1 hE
  obtain ⟨o, mA, rfl, hlk, hr⟩ := hf l rfl
  obtain ⟨u, hu, ru⟩ := RelO.some_of (v := v) (o := mA n) (by rw [← hl]; exact hr n)
  exact HandSPX.exc_get I1.kIn J T.ga T.gg T.exC (PySem.W.findObj_own T.hdC hno rfl (by rw [hlk, hu])) (handed_of ru) ⟨v, H1, I1.tok _, ru, q⟩
end
end Wk
namespace Wk
open PySem L2
/-- the classes over an exception class of the package -/
def MroX (K : PySem.W.Frag) (C CK : Addr) : Prop := ∀ b, PySem.W.mroIn K C b = some ([Value.ref C, .ref CK, .type "ValueError", .type "Exception", .type "BaseException", .type "object"].contains b)
theorem mro_mk {K : PySem.W.Frag} {C CK : Addr} {nm q : Str} {N : Addr} {bs : List Value} {sn : List Str} {sub : List Value} {ab : Bool} {col : Option Bool} {dd : Option Addr} {m0 m1 m2 m3 m5}
    (xL : K.lookup C = some (excClassObj nm q C N bs [.ref CK, .type "ValueError", .type "Exception", .type "BaseException", .type "object"] true sn sub ab col dd m0 m1 m2 m3 m5 "ValueError.__new__")) : MroX K C CK := by
  intro b
  have hc : ∃ cd, PySem.W.clsIn K C = some cd ∧ cd.mro = [Value.ref C, .ref CK, .type "ValueError", .type "Exception", .type "BaseException", .type "object"] := by
    unfold PySem.W.clsIn
    rw [xL]
    exact ⟨_, rfl, rfl⟩
  obtain ⟨cd, h1, h2⟩ := hc
  unfold PySem.W.mroIn
  rw [h1, Option.bind_some, h2]
  rfl
end Wk
set_option Elab.async false
set_option linter.all false
set_option maxRecDepth 100000
set_option maxHeartbeats 4000000
/-! A def's promise where no repr is under way around the call, and repr of data. -/
namespace Wk
open PySem PySem.Spec PyProof.Rows L2
structure FnG (P : Program) (w : World) (K : PySem.W.Frag) (mg : Str → Option Value) (base : Heap) (CX : CXT) (k : Nat) (f : Addr) (fd : FuncData) (ps : List Str) (sp : Sp) : Prop where
  len : ∀ vs H Q E, sp vs H Q E → vs.length = ps.length
  run : ∀ (A : Around) (outer : List Env) (s : Shared) (H : Hp) (args : Args) (us : List Value) (vs : List V) (Q : VK) (E : XK), Room k A → A.guards = some [] → Env0 P w K mg base A outer s H → BindsTo s fd args (ps.zip us) → Vals vs us → sp vs H Q E →
    codeAny (model P w) A (.call (.ref f) args) (CR CX outer P w H s Q E) s
theorem fnG_of {P : Program} {w : World} {K : PySem.W.Frag} {mg : Str → Option Value} {base : Heap} {CX : CXT} {k : Nat} {f : Addr} {fd : FuncData} {ps : List Str} {sp : Sp} (F : FnOk P w K mg base CX k f fd ps sp) : FnG P w K mg base CX k f fd ps sp :=
  ⟨F.len, fun A outer s H args us vs Q E hr _ => F.run A outer s H args us vs Q E hr⟩
section
variable {X : Cx} {CX : CXT} {k : Nat} {f : Addr} {fd : FuncData} {ps : List Str} {sp : Sp} {E : XK} {ds : List Value} {dvs : List V} {x : Str} {e : Expr} {es : List Expr} {t : TA} {p pos : Pos}
theorem run_fnG {pins : List (Addr × Obj)} {σ : L2.St} {H : Hp} {s : Shared} {Q : VK} {us : List Value} {vs : List V} (F : FnG X.prog X.w X.K X.mg X.base CX k f fd ps sp) (hr : Room k X.A) (hgd : X.A.guards = some []) (hb : Binds X.K fd ps ds) (hd : Vals dvs ds) (hx : Passes CX X E)
    (I : Inv X pins σ H s) (r : Vals vs us) (h : sp (vs ++ dvs) H Q E) : wpAny (model X.prog X.w) X.A (call (.ref f) us) (EP X pins σ Q) X.xe s := by
  have r2 : Vals (vs ++ dvs) (us ++ ds) := r.append hd
  have hl : (us ++ ds).length = ps.length := by rw [← r2.length]; exact F.len _ _ _ _ h
  refine wpAny_call (codeAny_mono (F.run X.A X.stack s H ⟨us, []⟩ (us ++ ds) (vs ++ dvs) Q E hr hgd I.env0 (hb s us I.kIn hl) r2 h) fun r s' hq => ?_)
  match r with
  | .error e => exact hx pins σ H s e s' I hq
  | .ok (.ret u) => exact I.after hq
  | .ok .next => exact False.elim hq
  | .ok .brk => exact False.elim hq
  | .ok .cont => exact False.elim hq
theorem pe_callG (F : FnG X.prog X.w X.K X.mg X.base CX k f fd ps sp) (hr : Room k X.A) (hgd : X.A.guards = some []) (hg : Gl X x) (hm : X.mg x = some (.ref f)) (hk : PySem.W.keepIn X.K (.ref f) = true) (hb : Binds X.K fd ps ds) (hd : Vals dvs ds) (hx : Passes CX X E)
    (ha : PA X (e :: es) t) (hdb : (x == ("__debug__" : Str)) = false := by decide) (he : starEach (e :: es) X.env = (false, eval e X.env) :: starEach es X.env := by rfl) (hpl : (backTo pos (starEach es X.env)).any (·.1) = false := by rfl) :
    PE X (.Call (.Name x p) (e :: es) [] pos) (tCall sp dvs E t) := by
  refine ⟨fun pins s σ H Q I h => ?_⟩
  refine wpAny_Call_Name_kw (ld_glob I hg hm ?_ hdb)
  exact PySem.W.callWith_K (h₀ := X.base) I.ok.mod.kin hk (thn (ha.run pos pins s σ H _ I h) fun us s1 ⟨vs, H1, I1, r, q⟩ => ⟨I1.kIn, run_fnG F hr hgd hb hd hx I1 r q⟩) he hpl
/-- repr of data -/
def rRepr (K : PySem.W.Frag) : List V → Hp → VK → Prop := fun xs H Q => ∃ (v : V) (d : PyData), xs = [v] ∧ Dp K H v d ∧ d.showable = true ∧ d.shown.length ≤ sizeLine ∧ d.depth ≤ 60 ∧ d.hasDict = false ∧ Q (.str d.shown) H
theorem call_repr (hgd : X.A.guards = some []) (hu : X.A.units + 64 < cLine) : CallR X (.builtin "repr") (rRepr X.K) := by
  intro pins s σ H xs us Q I r h
  obtain ⟨v, d, rfl, hd, hs, hz, hdp, hnd, q⟩ := h
  obtain ⟨u, rfl, ru⟩ := vals1 r
  have key : ∀ a : Addr, u = Value.ref a → wpAny (model X.prog X.w) X.A (call (.builtin "repr") [u]) (EP X pins σ Q) X.xe s := by
    rintro a rfl
    obtain ⟨as, rd⟩ := Dp.reads I d v _ hd ru
    exact repr_of_reads' rd hs (PyData.noDict_hsm hnd) hgd (by omega) (fun _ _ e => e) (fun h' u tk hk => ⟨.str d.shown, H, I.kept (t' := tk) hk, ⟨_, rfl⟩, q⟩) hz
  cases hd with
  | non =>
    cases (show u = Value.none from ru)
    exact PySem.P.repr_of_none ⟨.str _, H, I.tok _, ⟨_, rfl⟩, q⟩
  | bl b =>
    cases (show u = Value.bool b from ru)
    exact PySem.P.repr_of_bool ⟨.str _, H, I.tok _, ⟨_, rfl⟩, q⟩
  | int i =>
    obtain ⟨t, rfl⟩ := (show ∃ t, u = Value.int i t from ru)
    exact PySem.P.repr_of_int (by simpa [PyData.showable] using hs) ⟨.str _, H, I.tok _, ⟨_, rfl⟩, q⟩
  | str x =>
    obtain ⟨t, rfl⟩ := (show ∃ t, u = Value.str x t from ru)
    exact PySem.P.repr_of_str ⟨.str _, H, I.tok _, ⟨_, rfl⟩, q⟩ (by simpa only [PyData.shown] using hz)
  | lst h1 h2 => exact key _ ru
  | tup h1 h2 => exact key _ ru
end
end Wk
namespace Wk
open PySem PySem.Spec PyProof.Rows L2
/-- a def of the text, walked where no repr is under way -/
theorem okG_any {CX : CXT} {P : Program} {w : World} {K : PySem.W.Frag} {mg : Str → Option Value} {base : Heap} {k : Nat} {f : Addr} {name qual : Str} {params : Arguments} {body : List Stmt} {scope : Scope} {dV kV doc pm cdv ct oc : Value} {an od : Option Addr}
    {osl : Array (Option Value)} {N ps : List Str} {sp : Sp} (lk : K.lookup f = some ⟨oc, od, .func (PySem.W.fnOf name qual params body scope dV kV doc pm an cdv ct), osl⟩) (hcd : PySem.W.codeIn K cdv qual = true) (S : FnScope N ps scope)
    (len : ∀ vs H Q E, sp vs H Q E → vs.length = ps.length)
    (hbody : ∀ (A : Around) (outer : List Env) (s : Shared) (H : Hp) (vs : List V) (Q : VK) (E : XK), Room k (A.deeper (envOfC qual scope s.heap.objs.size f cdv)) → (A.deeper (envOfC qual scope s.heap.objs.size f cdv)).guards = some [] → sp vs H Q E →
      ∃ t, PSs (cxOf CX P w K mg base N qual scope f cdv A outer s H E) body t ∧ t { nx := fun _ H' => Q .non H', rt := Q } (L2.start N vs) H) :
    FnG P w K mg base CX (k + 1) f (PySem.W.fnOf name qual params body scope dV kV doc pm an cdv ct) ps sp where
  len := len
  run := fun A outer s H args us vs Q E hr hgd e0 hb r hsp => by
    have KX : K.In s.heap := e0.mod.kin.keeps fun b o e => (e0.bs b o e).1
    have lim : s.heap.NoLimit := e0.mod.nolimit.keeps fun b o e => (e0.bs b o e).1
    obtain ⟨t, ht, hq⟩ := hbody A outer s H vs Q E (hr.deeper _) hgd hsp
    refine codeAny_call_function hr.depth (KX _ _ lk) rfl S.co S.gen rfl (PySem.W.codeRec_of KX hcd) (hb _ _ _ _ ?_)
    refine wpAny_newFunctionEnv_cells S.kind (fun y hy => ?_) fun env he s1 x => ?_
    · obtain ⟨n, v⟩ := y
      exact (S.par n (List.of_mem_zip hy).1).elim .inl fun q => .inr ⟨q, PySem.W.cellsFrom_some _ _ _ (.inl q)⟩
    · subst he
      refine ⟨lim.keeps x.toInCall.keep, codeAny_func ?_⟩
      have I : Inv (cxOf CX P w K mg base N qual scope f cdv A outer s H E) [] (L2.start N vs) H s1 := inv_start S hr.hd e0 (len _ _ _ _ hsp) r x
      refine wpAny_mono (ht.run [] s1 (L2.start N vs) H _ I hq) (fun fl s' hs => ?_) fun e s' hs => hs
      match fl with
      | .ret u =>
        obtain ⟨v, σ', H', J, rv, q⟩ := hs
        exact ⟨v, H', J.os, J.bare, J.base, J.hok, rv, q⟩
      | .next =>
        obtain ⟨σ', H', J, q⟩ := hs
        exact ⟨V.non, H', J.os, J.bare, J.base, J.hok, rfl, q⟩
      | .brk => exact hs.elim fun _ z => z.elim fun _ z => False.elim z.2
      | .cont => exact hs.elim fun _ z => z.elim fun _ z => False.elim z.2
section
variable {P : Program} {w : World} {K : PySem.W.Frag} {mg : Str → Option Value} {base : Heap}
theorem okG {x qual : Str} {st : Stmt} {f : Addr} {fd : FuncData} {N ps : List Str} {k : Nat} {sp : Sp} (F : Fun K x qual st f fd) (S : FnScope N ps (defScope st)) (len : ∀ vs H Q E, sp vs H Q E → vs.length = ps.length)
    (hbody : ∀ (cdv : Value) (A : Around) (outer : List Env) (s : Shared) (H : Hp) (vs : List V) (Q : VK) (E : XK), Room k (A.deeper (envOfC qual (defScope st) s.heap.objs.size f cdv)) → (A.deeper (envOfC qual (defScope st) s.heap.objs.size f cdv)).guards = some [] → sp vs H Q E →
      ∃ t, PSs (cxOf CX0 P w K mg base N qual (defScope st) f cdv A outer s H E).nox (defBody st) t ∧ t { nx := fun _ H' => Q .non H', rt := Q } (L2.start N vs) H) : FnG P w K mg base CX0 (k + 1) f fd ps sp := by
  obtain ⟨oc, od, kV, doc, pm, an, cdv, ct, osl, rfl, lk, hcd⟩ := F.ex
  refine okG_any lk hcd S len fun A outer s H vs Q E hr hgd hsp => ?_
  obtain ⟨t, h, q⟩ := hbody cdv A outer s H vs Q E hr hgd hsp
  exact ⟨t, h.nox, q⟩
end
end Wk
namespace Wk
open PySem PySem.Spec PyProof.Rows L2
/-- the law's call: its promise where no repr is under way; H tracks the script at most -/
theorem lawG_at {P : Program} {w : World} {K : PySem.W.Frag} {mg mb : Str → Option Value} {CX : CXT} {k : Nat} {fa a : Addr} {fd : FuncData} {x : Str} {sp : Sp} {s : Shared} {vs : List Value} {ns : List Int} {H : Hp}
    (KX : K.In s.heap) (hns : s.heap.Ns mainGlobals mg) (hb : s.heap.Ns builtinsNs mb) (hbb : ∀ x : Str, x ≠ "__name__" → mb x = bootBuiltins x) (hlim : s.heap.NoLimit) (hg : s.gens = #[])
    (ha : s.heap.get? a = some { cls := .type "list", data := .seq vs.toArray }) (hr : Room k callerA)
    (F : ∀ base : Heap, K.In base → base.Ns mainGlobals mg → FnG P w K mg base CX k fa fd [x] sp) (hbind : ∀ (s : Shared) (u : Value), BindsTo s fd ⟨[u], []⟩ [(x, u)])
    (hO : Only H) (hok : HOk P w H s.heap) (hA : ∀ b, H b ≠ none → b = a) (hK : H a ≠ none → K.lookup a = none)
    (hsp : sp [.ref a] H (fun v _ => v = .bl true) fun _ _ _ => False) (hCX : ∀ e s', CX [] H s (fun _ _ _ => False) e s' → False) :
    codeAny (model P w) callerA (.call (.ref fa) ⟨[.ref a], []⟩) (fun r s' => r = .ok (.ret (.bool true)) ∧ OldK s.heap s'.heap ∧ s'.os = s.os ∧ AllBare s'.gens) s := by
  have free : ∀ {b : Addr} {o : Obj}, s.heap.get? b = some o → (b = a → K.lookup a = none → False) ∨ H b = none → H b = none := fun {b o} e z => by
    rcases z with z | z
    · cases q : H b with
      | none => rfl
      | some u =>
        have e1 : b = a := hA b (by rw [q]; simp)
        exact (z e1 (hK (by rw [← e1, q]; simp))).elim
    · exact z
  have nsK : ∀ {b : Addr} {m : Str → Option Value}, s.heap.Ns b m → (hidT s.heap H).Ns b m := fun {b m} ⟨o, es, ep, e, d, r⟩ => by
    refine ⟨o, es, ep, hidT_get e ?_, d, r⟩
    cases q : H b with
    | none => rfl
    | some u =>
      have e1 : b = a := hA b (by rw [q]; simp)
      rw [e1, ha] at e
      cases e
      cases (show Data.seq vs.toArray _ = Data.dict es ep from d)
  have hKb : K.In (hidT s.heap H) := fun b o e => hidT_get (KX b o e) (free (KX b o e) (.inl fun e1 z => by
    rw [e1, z] at e
    cases e))
  obtain ⟨mc, l1, l2⟩ := hlim
  have e0 : Env0 P w K mg (hidT s.heap H) callerA [] s H :=
    ⟨rfl, ⟨hKb, nsK hns, ⟨mb, nsK hb, hbb⟩, ⟨mc, nsK l1, l2⟩⟩, fun b o e => of_hidT e, Nat.le_of_eq (hidT_size _ _), trivial, fun b hb => absurd (show b ∈ ([] : List Addr) from hb) (by simp), hok, .of_eq hg⟩
  refine codeAny_mono ((F _ hKb (nsK hns)).run callerA [] s H ⟨[.ref a], []⟩ [.ref a] [.ref a] _ _ hr rfl e0 (hbind s (.ref a)) (.cons rfl .nil) hsp) fun r s' h => ?_
  match r with
  | .error e => exact (hCX e s' h).elim
  | .ok .next => exact False.elim h
  | .ok .brk => exact False.elim h
  | .ok .cont => exact False.elim h
  | .ok (.ret u) =>
    obtain ⟨v, H', os, bare, un, hok', r', q⟩ := h
    obtain rfl : v = .bl true := q
    obtain rfl : u = Value.bool true := r'
    refine ⟨rfl, OldK.of_keep fun b o e => ?_, os, bare⟩
    rcases hO b with z | ⟨ob, xs, z⟩
    · exact un.keep b o e z (by intro y; exact absurd (show b ∈ ([] : List Addr) from y) (by simp)) (by simp)
    · obtain ⟨e1, _⟩ := hok b _ z
      obtain ⟨e2, _⟩ := hok' b _ (un.frzs b ob _ z)
      rw [e] at e1
      cases e1
      exact e2
theorem lawG_call {P : Program} {w : World} {K : PySem.W.Frag} {mg mb : Str → Option Value} {CX : CXT} {k : Nat} {fa a : Addr} {fd : FuncData} {x : Str} {sp : Sp} {s : Shared} {vs : List Value} {ns : List Int}
    (KX : K.In s.heap) (hns : s.heap.Ns mainGlobals mg) (hb : s.heap.Ns builtinsNs mb) (hbb : ∀ x : Str, x ≠ "__name__" → mb x = bootBuiltins x) (hlim : s.heap.NoLimit) (hg : s.gens = #[])
    (ha : s.heap.get? a = some { cls := .type "list", data := .seq vs.toArray }) (hi : IntsAre vs ns) (hl : ns.length ≤ sizeLine) (hr : Room k callerA)
    (F : ∀ base : Heap, K.In base → base.Ns mainGlobals mg → FnG P w K mg base CX k fa fd [x] sp) (hbind : ∀ (s : Shared) (u : Value), BindsTo s fd ⟨[u], []⟩ [(x, u)])
    (hsp : ∀ H : Hp, Only H → SqL K H a (ns.map V.int) → sp [.ref a] H (fun v _ => v = .bl true) fun _ _ _ => False) (hCX : ∀ H e s', CX [] H s (fun _ _ _ => False) e s' → False) :
    codeAny (model P w) callerA (.call (.ref fa) ⟨[.ref a], []⟩) (fun r s' => r = .ok (.ret (.bool true)) ∧ OldK s.heap s'.heap ∧ s'.os = s.os ∧ AllBare s'.gens) s := by
  have rv := vals_ints hi
  have lenV := hi.length
  have run := fun H hO hok hA hK hS => lawG_at (H := H) (ns := ns) KX hns hb hbb hlim hg ha hr F hbind hO hok hA hK (hsp H hO hS) (hCX H)
  cases hk : K.lookup a with
  | some o =>
    have e := KX a o hk
    rw [ha] at e
    cases e
    exact run (fun _ => none) (fun _ => .inl rfl) (fun b u z => nomatch z) (fun b z => absurd rfl z) (fun z => absurd rfl z) (.inr ⟨_, vs.toArray, _, hk, rfl, rfl, rfl, by rw [List.size_toArray, lenV]; exact hl, by simpa using rv⟩)
  | none =>
    have u1 : upd (fun _ => none) a (.frz { cls := .type "list", data := .seq vs.toArray } (.lst (ns.map V.int))) a = some (.frz { cls := .type "list", data := .seq vs.toArray } (.lst (ns.map V.int))) := upd_same
    have u2 : ∀ b, b ≠ a → upd (fun _ => none) a (.frz { cls := .type "list", data := .seq vs.toArray } (.lst (ns.map V.int))) b = none := fun b hb => upd_ne hb
    refine run (upd (fun _ => none) a (.frz { cls := .type "list", data := .seq vs.toArray } (.lst (ns.map V.int)))) (fun b => ?_) (fun b u z => ?_) (fun b z => ?_) (fun _ => hk) (.inl (.inr ⟨_, u1⟩))
    · by_cases hb : b = a
      · rw [hb]
        exact .inr ⟨_, _, u1⟩
      · exact .inl (u2 b hb)
    · by_cases hb : b = a
      · subst hb
        rw [u1] at z
        cases z
        exact ⟨ha, by rw [List.length_map]; exact hl, vs, _, rv, ha⟩
      · rw [u2 b hb] at z
        cases z
    · by_cases hb : b = a
      · exact hb
      · exact absurd (u2 b hb) z
theorem walk_ofG {l : PySem.W.OpenLaw} {n k : Nat} {q : Program} {loose : List Str} {XP : (Str → Option Value) → Heap → Prop} {YP : World → Heap → Prop} {d : DefRec} {K : Params → PySem.W.Frag} {CX : World → CXT} {sp : World → Sp} {x : Str}
    (hn : l.most = some n) (hn2 : n ≤ sizeLine) (hdf : d.params.defaults = []) (hr : Room k callerA) (hY : ∀ (w : World) (h : Heap), YP w h → (K w.params).In h)
    (F : ∀ (w : World) (mg : Str → Option Value) (fa : Addr) (h : Heap), (K w.params).In h → h.Ns mainGlobals mg → mg d.name = some (.ref fa) →
      ∃ fd : FuncData, (∀ (s : Shared) (u : Value), BindsTo s fd ⟨[u], []⟩ [(x, u)]) ∧ ∀ base : Heap, (K w.params).In base → base.Ns mainGlobals mg → FnG l.prog w (K w.params) mg base (CX w) k fa fd [x] (sp w))
    (hsp : ∀ (w : World) (H : Hp) (a : Addr) (ns : List Int), ns.length ≤ n → Only H → SqL (K w.params) H a (ns.map V.int) → sp w [.ref a] H (fun v _ => v = .bl true) fun _ _ _ => False)
    (hCX : ∀ (w : World) (H : Hp) (s : Shared) (e : Value) (s' : Shared), CX w [] H s (fun _ _ _ => False) e s' → False) :
    PySem.W.WalkO q loose XP YP l.row.toRowW d [] (fun f vs => PySem.call f vs) := by
  refine Att.attach_call hn hdf fun w s₀ s₁ mg mb fa o pm cd doc a vs ns G Y ho hd hcd hmg hobj hints hlen hg => ?_
  obtain ⟨fd, hb, hF⟩ := F w mg fa _ (hY w _ Y) G.T.g hmg
  exact lawG_call (hY w _ Y) G.T.g G.T.b G.T.builtins G.T.nolimit hg hobj hints (Nat.le_trans hlen hn2) hr hF hb (fun H hO hS => hsp w H a ns hlen hO hS) fun H e s' => hCX w H s₁ e s'
end Wk
namespace Wk
open PySem PySem.Spec PyProof.Rows L2
def keyD : Key → PyData
  | .inl i => .int i
  | .inr x => .str x
/-- a dict's entries, ints by keys -/
def kvI (l : List (Key × Int)) : List (Key × V) := l.map fun p => (p.1, V.int p.2)
def kvD (l : List (Key × Int)) : List (PyData × PyData) := l.map fun p => (keyD p.1, .int p.2)
theorem kv_reads {P : Program} {w : World} {h : Heap} : ∀ {l : List (Key × Int)} {vs : List (Key × Value)} {es : List DictEntry}, KV (kvI l) vs → Pairs (mixKind P w) es vs →
    ReadsAll h (es.map (·.key)) ((kvD l).map (·.1)) [] ∧ ReadsAll h (es.map (·.val)) ((kvD l).map (·.2)) []
  | [], _, _, .nil, .nil => ⟨.nil, .nil⟩
  | (k, i) :: l, _, _, .cons ⟨e1, r⟩ kv, .cons hk hv ps => by
    obtain ⟨a1, a2⟩ := kv_reads (h := h) kv ps
    obtain ⟨t, er⟩ := (show ∃ t, _ = Value.int i t from r)
    have e1' : k = _ := e1
    refine ⟨?_, ?_⟩
    · refine ReadsAll.cons (as := []) (bs := []) ?_ a1
      dsimp only
      rcases keyIs_shape (show keyIs _ _ = true from hk) with ⟨j, u, q1, q2⟩ | ⟨x, u, q1, q2⟩
      · rw [q2, e1', q1]
        exact Reads.int j u
      · rw [q2, e1', q1]
        exact Reads.str x u
    · refine ReadsAll.cons (as := []) (bs := []) ?_ a2
      dsimp only
      rw [hv, er]
      exact Reads.int i t
section
variable {X : Cx}
/-- data that repr is asked for: lists, tuples and scalars, or a dict of ints -/
def DQ (K : PySem.W.Frag) (H : Hp) (v : V) (d : PyData) : Prop := (Dp K H v d ∧ d.hasDict = false) ∨ ∃ (a : Addr) (l : List (Key × Int)), v = .ref a ∧ H a = some (.dK (kvI l)) ∧ d = .dict (kvD l)
def rReprQ (K : PySem.W.Frag) : List V → Hp → VK → Prop := fun xs H Q => ∃ (v : V) (d : PyData), xs = [v] ∧ DQ K H v d ∧ d.showable = true ∧ d.shown.length ≤ sizeLine ∧ d.depth ≤ 60 ∧ Q (.str d.shown) H
theorem call_reprQ (hgd : X.A.guards = some []) (hu : X.A.units + 64 < cLine) : CallR X (.builtin "repr") (rReprQ X.K) := by
  intro pins s σ H xs us Q I r h
  obtain ⟨v, d, rfl, hd, hs, hz, hdp, q⟩ := h
  rcases hd with ⟨hd, hnd⟩ | ⟨a, l, rfl, ha, rfl⟩
  · exact call_repr hgd hu pins s σ H _ us Q I r ⟨v, d, rfl, hd, hs, hz, hdp, hnd, q⟩
  · obtain ⟨u, rfl, ru⟩ := vals1 r
    cases (show u = Value.ref a from ru)
    obtain ⟨_, hsm, vs, kv, o, es, ep, e1, e2, e3, _, ps, _⟩ := (show ObjOk X.prog X.w H s.heap a (.dK (kvI l)) from I.hok a _ ha)
    obtain ⟨r1, r2⟩ := kv_reads (h := s.heap) kv ps
    have rd : Reads s.heap (.ref a) (.dict (kvD l)) (a :: [] ++ []) := .dict e1 e2.1 e3 r1 r2
    have ne : sysModules ∉ (a :: [] ++ [] : List Addr) := fun z => by
      have e : sysModules = a := by simpa using z
      rw [← e] at hsm
      simp at hsm
    exact repr_of_reads' rd hs (fun _ => ne) hgd (by omega) (fun _ _ e => e) (fun h' u tk hk => ⟨.str _, H, I.kept (t' := tk) hk, ⟨_, rfl⟩, q⟩) hz
end
end Wk
namespace Wk
open PySem L2
theorem same_seqT {K : PySem.W.Frag} {H H' : Hp} {a : Addr} {xs : List V} (e : Same H H') (h : SqT K H a xs) : SqT K H' a xs := by
  rcases h with (h | ⟨o, h⟩) | h
  · exact .inl (.inl (e _ _ h))
  · exact .inl (.inr ⟨o, e _ _ h⟩)
  · exact .inr h
mutual
theorem dp_same {K : PySem.W.Frag} {H H' : Hp} (e : Same H H') : ∀ {v : V} {d : PyData}, Dp K H v d → Dp K H' v d
  | _, _, .non => .non
  | _, _, .bl b => .bl b
  | _, _, .int i => .int i
  | _, _, .str x => .str x
  | _, _, .lst h a => .lst (e.seq h) (dpAll_same e a)
  | _, _, .tup h a => .tup (same_seqT e h) (dpAll_same e a)
theorem dpAll_same {K : PySem.W.Frag} {H H' : Hp} (e : Same H H') : ∀ {vs : List V} {ds : List PyData}, DpAll K H vs ds → DpAll K H' vs ds
  | _, _, .nil => .nil
  | _, _, .cons h a => .cons (dp_same e h) (dpAll_same e a)
end
end Wk
set_option Elab.async false
set_option linter.all false
set_option maxRecDepth 100000
set_option maxHeartbeats 4000000
namespace Exc1
open PySem L2 Wk
local macro_rules | `(tactic| walk_at "rd") => `(tactic| simp only [tSeq, tAsg, gName, tC, tVar, tOp, tUn, tTest, tB, tAnd, tOr, tNot, tIf, tIfS, tRet, tDrop, tNext, tCB, tCons, tNil, tSl, tPart, tNoPart, tAug, ipI, rI0, rI, rU, tLst, tTup, tBM, rAppend, tCall, tPar, tPar3, gTup, gCons, gNil, tMkO, tMkO0, tCallS, WE, wAs, wOnly, tXf, tMkV, tMkV0, tXfV, rCat, rPopAt, tLstRg, tRg1, tDNewK, tDisp, tPairs, sDPut, tMake, tMakeK, tMeth, tProp, rOwn, rOwnEq, tFld, sFld, tFmt, tJs, rIxS, rIxLT, rIxTT, rLenLT, rLenTT, gSub, rSetL, Wk.ixN_0, Wk.ixN_1, Wk.ixN_2, Wk.cxK, Wk.cxKn, Wk.atI_lits, upd_same, HO.lst.injEq, HO.tup.injEq, rSlS, rEq, rNe, scal, tChain, tYes, tAndV, tOrV, tNotV, tM1, L2.start,
  List.map_nil, List.map_cons, List.replicate, List.length_cons, List.length_nil, List.cons_append, List.nil_append, List.getElem?_cons_zero, List.getElem?_cons_succ, List.set_cons_zero, List.set_cons_succ, Option.some.injEq, V.int.injEq, V.str.injEq, V.ref.injEq, V.bl.injEq, List.cons.injEq, and_true, true_and, and_assoc, exists_eq_left', exists_eq_left, exists_and_left, Wk.one_inj, Wk.atI_eq, Bool.false_eq_true, if_false, if_true, Bool.not_false, Bool.not_true, Bool.not_eq_true', decide_eq_false_iff_not, decide_eq_true_eq])
def top (i : Nat) : Stmt := PySem.Challenge.pw_widestkind_k01_exceptions_apart.main.body.getD i (.Pass ⟨0, 0, 0, 0⟩)
abbrev s_ByZero_init : Stmt := inClass (top 2) 0
abbrev s_BadText_init : Stmt := inClass (top 3) 0
abbrev s_Twice_init : Stmt := inClass (top 4) 0
abbrev s_BadName_init : Stmt := inClass (top 5) 0
abbrev s_BadFilling_init : Stmt := inClass (top 6) 0
abbrev s_BadLine_init : Stmt := inClass (top 7) 0
abbrev s_Unknown_init : Stmt := inClass (top 8) 0
abbrev s_BadMacro_init : Stmt := inClass (top 9) 0
abbrev s_BadPlace_init : Stmt := inClass (top 10) 0
abbrev s_BadKnot_init : Stmt := inClass (top 11) 0
abbrev s_NoKind_init : Stmt := inClass (top 12) 0
abbrev s_BadForm_init : Stmt := inClass (top 13) 0
abbrev s_BadKind_init : Stmt := inClass (top 14) 0
abbrev s_BadTree_init : Stmt := inClass (top 15) 0
abbrev s_BadUnits_init : Stmt := inClass (top 16) 0
abbrev s_BadBudget_init : Stmt := inClass (top 17) 0
abbrev s_BadStep_init : Stmt := inClass (top 18) 0
abbrev s_BadDeeds_init : Stmt := inClass (top 19) 0
abbrev s_BadWeight_init : Stmt := inClass (top 20) 0
abbrev s_TooMany_init : Stmt := inClass (top 21) 0
abbrev s_NoSuch_init : Stmt := inClass (top 22) 0
abbrev s_NothingToUndo_init : Stmt := inClass (top 23) 0
abbrev s_NothingToRedo_init : Stmt := inClass (top 24) 0
abbrev s_l_cell : Stmt := top 26
abbrev s_l_box : Stmt := top 27
abbrev s_l_take : Stmt := top 28
abbrev s_l_mixed : Stmt := top 29
abbrev s_l_value : Stmt := top 30
abbrev s_l_made : Stmt := top 31
abbrev s_l_field : Stmt := top 32
abbrev s_l_classes : Stmt := top 33
abbrev s_l_same : Stmt := top 34
abbrev s_l_right : Stmt := top 35
abbrev s_law : Stmt := top 36
theorem sc_ByZero_init : FnScope ["self"] ["self"] (defScope s_ByZero_init) :=
  ⟨rfl, rfl, rfl, by decide +kernel, rfl, by decide +kernel, by decide +kernel⟩
theorem sc_BadText_init : FnScope ["self", "at"] ["self", "at"] (defScope s_BadText_init) :=
  ⟨rfl, rfl, rfl, by decide +kernel, rfl, by decide +kernel, by decide +kernel⟩
theorem sc_Twice_init : FnScope ["self", "name"] ["self", "name"] (defScope s_Twice_init) :=
  ⟨rfl, rfl, rfl, by decide +kernel, rfl, by decide +kernel, by decide +kernel⟩
theorem sc_BadName_init : FnScope ["self", "name"] ["self", "name"] (defScope s_BadName_init) :=
  ⟨rfl, rfl, rfl, by decide +kernel, rfl, by decide +kernel, by decide +kernel⟩
theorem sc_BadFilling_init : FnScope ["self", "name"] ["self", "name"] (defScope s_BadFilling_init) :=
  ⟨rfl, rfl, rfl, by decide +kernel, rfl, by decide +kernel, by decide +kernel⟩
theorem sc_BadLine_init : FnScope ["self", "number"] ["self", "number"] (defScope s_BadLine_init) :=
  ⟨rfl, rfl, rfl, by decide +kernel, rfl, by decide +kernel, by decide +kernel⟩
theorem sc_Unknown_init : FnScope ["self", "name"] ["self", "name"] (defScope s_Unknown_init) :=
  ⟨rfl, rfl, rfl, by decide +kernel, rfl, by decide +kernel, by decide +kernel⟩
theorem sc_BadMacro_init : FnScope ["self", "name"] ["self", "name"] (defScope s_BadMacro_init) :=
  ⟨rfl, rfl, rfl, by decide +kernel, rfl, by decide +kernel, by decide +kernel⟩
theorem sc_BadPlace_init : FnScope ["self", "given"] ["self", "given"] (defScope s_BadPlace_init) :=
  ⟨rfl, rfl, rfl, by decide +kernel, rfl, by decide +kernel, by decide +kernel⟩
theorem sc_BadKnot_init : FnScope ["self", "given"] ["self", "given"] (defScope s_BadKnot_init) :=
  ⟨rfl, rfl, rfl, by decide +kernel, rfl, by decide +kernel, by decide +kernel⟩
theorem sc_NoKind_init : FnScope ["self"] ["self"] (defScope s_NoKind_init) :=
  ⟨rfl, rfl, rfl, by decide +kernel, rfl, by decide +kernel, by decide +kernel⟩
theorem sc_BadForm_init : FnScope ["self", "number"] ["self", "number"] (defScope s_BadForm_init) :=
  ⟨rfl, rfl, rfl, by decide +kernel, rfl, by decide +kernel, by decide +kernel⟩
theorem sc_BadKind_init : FnScope ["self", "given"] ["self", "given"] (defScope s_BadKind_init) :=
  ⟨rfl, rfl, rfl, by decide +kernel, rfl, by decide +kernel, by decide +kernel⟩
theorem sc_BadTree_init : FnScope ["self", "given"] ["self", "given"] (defScope s_BadTree_init) :=
  ⟨rfl, rfl, rfl, by decide +kernel, rfl, by decide +kernel, by decide +kernel⟩
theorem sc_BadUnits_init : FnScope ["self", "given"] ["self", "given"] (defScope s_BadUnits_init) :=
  ⟨rfl, rfl, rfl, by decide +kernel, rfl, by decide +kernel, by decide +kernel⟩
theorem sc_BadBudget_init : FnScope ["self", "given"] ["self", "given"] (defScope s_BadBudget_init) :=
  ⟨rfl, rfl, rfl, by decide +kernel, rfl, by decide +kernel, by decide +kernel⟩
theorem sc_BadStep_init : FnScope ["self", "given"] ["self", "given"] (defScope s_BadStep_init) :=
  ⟨rfl, rfl, rfl, by decide +kernel, rfl, by decide +kernel, by decide +kernel⟩
theorem sc_BadDeeds_init : FnScope ["self", "given"] ["self", "given"] (defScope s_BadDeeds_init) :=
  ⟨rfl, rfl, rfl, by decide +kernel, rfl, by decide +kernel, by decide +kernel⟩
theorem sc_BadWeight_init : FnScope ["self", "given"] ["self", "given"] (defScope s_BadWeight_init) :=
  ⟨rfl, rfl, rfl, by decide +kernel, rfl, by decide +kernel, by decide +kernel⟩
theorem sc_TooMany_init : FnScope ["self", "count"] ["self", "count"] (defScope s_TooMany_init) :=
  ⟨rfl, rfl, rfl, by decide +kernel, rfl, by decide +kernel, by decide +kernel⟩
theorem sc_NoSuch_init : FnScope ["self", "name"] ["self", "name"] (defScope s_NoSuch_init) :=
  ⟨rfl, rfl, rfl, by decide +kernel, rfl, by decide +kernel, by decide +kernel⟩
theorem sc_NothingToUndo_init : FnScope ["self"] ["self"] (defScope s_NothingToUndo_init) :=
  ⟨rfl, rfl, rfl, by decide +kernel, rfl, by decide +kernel, by decide +kernel⟩
theorem sc_NothingToRedo_init : FnScope ["self"] ["self"] (defScope s_NothingToRedo_init) :=
  ⟨rfl, rfl, rfl, by decide +kernel, rfl, by decide +kernel, by decide +kernel⟩
theorem sc_l_cell : FnScope ["_law_script", "_law_k"] ["_law_script", "_law_k"] (defScope s_l_cell) :=
  ⟨rfl, rfl, rfl, by decide +kernel, rfl, by decide +kernel, by decide +kernel⟩
theorem sc_l_box : FnScope ["_law_cell_here"] ["_law_cell_here"] (defScope s_l_box) :=
  ⟨rfl, rfl, rfl, by decide +kernel, rfl, by decide +kernel, by decide +kernel⟩
theorem sc_l_take : FnScope ["_law_box_here", "_law_many", "_law_digit", "_law_number"] ["_law_box_here", "_law_many"] (defScope s_l_take) :=
  ⟨rfl, rfl, rfl, by decide +kernel, rfl, by decide +kernel, by decide +kernel⟩
theorem sc_l_mixed : FnScope ["_law_box_here", "_law_some", "_law_left", "_law_k"] ["_law_box_here", "_law_some"] (defScope s_l_mixed) :=
  ⟨rfl, rfl, rfl, by decide +kernel, rfl, by decide +kernel, by decide +kernel⟩
theorem sc_l_value : FnScope ["_law_box_here", "_law_number", "_law_some"] ["_law_box_here"] (defScope s_l_value) :=
  ⟨rfl, rfl, rfl, by decide +kernel, rfl, by decide +kernel, by decide +kernel⟩
theorem sc_l_made : FnScope ["_law_way", "_law_value_here", "_law_some"] ["_law_way", "_law_value_here"] (defScope s_l_made) :=
  ⟨rfl, rfl, rfl, by decide +kernel, rfl, by decide +kernel, by decide +kernel⟩
theorem sc_l_field : FnScope ["_law_way", "_law_e"] ["_law_way", "_law_e"] (defScope s_l_field) :=
  ⟨rfl, rfl, rfl, by decide +kernel, rfl, by decide +kernel, by decide +kernel⟩
theorem sc_l_classes : FnScope ["_law_e", "_law_found"] ["_law_e"] (defScope s_l_classes) :=
  ⟨rfl, rfl, rfl, by decide +kernel, rfl, by decide +kernel, by decide +kernel⟩
theorem sc_l_same : FnScope ["_law_one", "_law_other"] ["_law_one", "_law_other"] (defScope s_l_same) :=
  ⟨rfl, rfl, rfl, by decide +kernel, rfl, by decide +kernel, by decide +kernel⟩
theorem sc_l_right : FnScope ["_law_box_here", "_law_way", "_law_value_here", "_law_e", "_law_k", "_law_turn"] ["_law_box_here", "_law_way"] (defScope s_l_right) :=
  ⟨rfl, rfl, rfl, by decide +kernel, rfl, by decide +kernel, by decide +kernel⟩
theorem sc_law : FnScope ["_law_script", "_law_k", "_law_box_here", "_law_way"] ["_law_script"] (defScope s_law) :=
  ⟨rfl, rfl, rfl, by decide +kernel, rfl, by decide +kernel, by decide +kernel⟩
structure Ad where
  CK : Addr
  C_ByZero : Addr
  f_ByZero_init : Addr
  d_ByZero_init : FuncData
  C_BadText : Addr
  f_BadText_init : Addr
  d_BadText_init : FuncData
  C_Twice : Addr
  f_Twice_init : Addr
  d_Twice_init : FuncData
  C_BadName : Addr
  f_BadName_init : Addr
  d_BadName_init : FuncData
  C_BadFilling : Addr
  f_BadFilling_init : Addr
  d_BadFilling_init : FuncData
  C_BadLine : Addr
  f_BadLine_init : Addr
  d_BadLine_init : FuncData
  C_Unknown : Addr
  f_Unknown_init : Addr
  d_Unknown_init : FuncData
  C_BadMacro : Addr
  f_BadMacro_init : Addr
  d_BadMacro_init : FuncData
  C_BadPlace : Addr
  f_BadPlace_init : Addr
  d_BadPlace_init : FuncData
  C_BadKnot : Addr
  f_BadKnot_init : Addr
  d_BadKnot_init : FuncData
  C_NoKind : Addr
  f_NoKind_init : Addr
  d_NoKind_init : FuncData
  C_BadForm : Addr
  f_BadForm_init : Addr
  d_BadForm_init : FuncData
  C_BadKind : Addr
  f_BadKind_init : Addr
  d_BadKind_init : FuncData
  C_BadTree : Addr
  f_BadTree_init : Addr
  d_BadTree_init : FuncData
  C_BadUnits : Addr
  f_BadUnits_init : Addr
  d_BadUnits_init : FuncData
  C_BadBudget : Addr
  f_BadBudget_init : Addr
  d_BadBudget_init : FuncData
  C_BadStep : Addr
  f_BadStep_init : Addr
  d_BadStep_init : FuncData
  C_BadDeeds : Addr
  f_BadDeeds_init : Addr
  d_BadDeeds_init : FuncData
  C_BadWeight : Addr
  f_BadWeight_init : Addr
  d_BadWeight_init : FuncData
  C_TooMany : Addr
  f_TooMany_init : Addr
  d_TooMany_init : FuncData
  C_NoSuch : Addr
  f_NoSuch_init : Addr
  d_NoSuch_init : FuncData
  C_NothingToUndo : Addr
  f_NothingToUndo_init : Addr
  d_NothingToUndo_init : FuncData
  C_NothingToRedo : Addr
  f_NothingToRedo_init : Addr
  d_NothingToRedo_init : FuncData
  f_l_cell : Addr
  d_l_cell : FuncData
  f_l_box : Addr
  d_l_box : FuncData
  f_l_take : Addr
  d_l_take : FuncData
  f_l_mixed : Addr
  d_l_mixed : FuncData
  f_l_value : Addr
  d_l_value : FuncData
  f_l_made : Addr
  d_l_made : FuncData
  f_l_field : Addr
  d_l_field : FuncData
  f_l_classes : Addr
  d_l_classes : FuncData
  f_l_same : Addr
  d_l_same : FuncData
  f_l_right : Addr
  d_l_right : FuncData
  f_law : Addr
  d_law : FuncData
structure Txt (K : PySem.W.Frag) (mg : Str → Option Value) (a : Ad) : Prop where
  kb : Wk.KBase K mg a.CK
  e_ByZero : Wk.ExcT K mg "ByZero" a.C_ByZero a.f_ByZero_init
  F_ByZero_init : Fun K "__init__" "ByZero.__init__" s_ByZero_init a.f_ByZero_init a.d_ByZero_init
  b_ByZero_init : Binds K a.d_ByZero_init ["self"] []
  e_BadText : Wk.ExcT K mg "BadText" a.C_BadText a.f_BadText_init
  F_BadText_init : Fun K "__init__" "BadText.__init__" s_BadText_init a.f_BadText_init a.d_BadText_init
  b_BadText_init : Binds K a.d_BadText_init ["self", "at"] []
  n_BadText_at : PySem.W.findIn K (.ref a.C_BadText) "at" = some none
  e_Twice : Wk.ExcT K mg "Twice" a.C_Twice a.f_Twice_init
  F_Twice_init : Fun K "__init__" "Twice.__init__" s_Twice_init a.f_Twice_init a.d_Twice_init
  b_Twice_init : Binds K a.d_Twice_init ["self", "name"] []
  n_Twice_name : PySem.W.findIn K (.ref a.C_Twice) "name" = some none
  e_BadName : Wk.ExcT K mg "BadName" a.C_BadName a.f_BadName_init
  F_BadName_init : Fun K "__init__" "BadName.__init__" s_BadName_init a.f_BadName_init a.d_BadName_init
  b_BadName_init : Binds K a.d_BadName_init ["self", "name"] []
  n_BadName_name : PySem.W.findIn K (.ref a.C_BadName) "name" = some none
  e_BadFilling : Wk.ExcT K mg "BadFilling" a.C_BadFilling a.f_BadFilling_init
  F_BadFilling_init : Fun K "__init__" "BadFilling.__init__" s_BadFilling_init a.f_BadFilling_init a.d_BadFilling_init
  b_BadFilling_init : Binds K a.d_BadFilling_init ["self", "name"] []
  n_BadFilling_name : PySem.W.findIn K (.ref a.C_BadFilling) "name" = some none
  e_BadLine : Wk.ExcT K mg "BadLine" a.C_BadLine a.f_BadLine_init
  F_BadLine_init : Fun K "__init__" "BadLine.__init__" s_BadLine_init a.f_BadLine_init a.d_BadLine_init
  b_BadLine_init : Binds K a.d_BadLine_init ["self", "number"] []
  n_BadLine_number : PySem.W.findIn K (.ref a.C_BadLine) "number" = some none
  e_Unknown : Wk.ExcT K mg "Unknown" a.C_Unknown a.f_Unknown_init
  F_Unknown_init : Fun K "__init__" "Unknown.__init__" s_Unknown_init a.f_Unknown_init a.d_Unknown_init
  b_Unknown_init : Binds K a.d_Unknown_init ["self", "name"] []
  n_Unknown_name : PySem.W.findIn K (.ref a.C_Unknown) "name" = some none
  e_BadMacro : Wk.ExcT K mg "BadMacro" a.C_BadMacro a.f_BadMacro_init
  F_BadMacro_init : Fun K "__init__" "BadMacro.__init__" s_BadMacro_init a.f_BadMacro_init a.d_BadMacro_init
  b_BadMacro_init : Binds K a.d_BadMacro_init ["self", "name"] []
  n_BadMacro_name : PySem.W.findIn K (.ref a.C_BadMacro) "name" = some none
  e_BadPlace : Wk.ExcT K mg "BadPlace" a.C_BadPlace a.f_BadPlace_init
  F_BadPlace_init : Fun K "__init__" "BadPlace.__init__" s_BadPlace_init a.f_BadPlace_init a.d_BadPlace_init
  b_BadPlace_init : Binds K a.d_BadPlace_init ["self", "given"] []
  n_BadPlace_given : PySem.W.findIn K (.ref a.C_BadPlace) "given" = some none
  e_BadKnot : Wk.ExcT K mg "BadKnot" a.C_BadKnot a.f_BadKnot_init
  F_BadKnot_init : Fun K "__init__" "BadKnot.__init__" s_BadKnot_init a.f_BadKnot_init a.d_BadKnot_init
  b_BadKnot_init : Binds K a.d_BadKnot_init ["self", "given"] []
  n_BadKnot_given : PySem.W.findIn K (.ref a.C_BadKnot) "given" = some none
  e_NoKind : Wk.ExcT K mg "NoKind" a.C_NoKind a.f_NoKind_init
  F_NoKind_init : Fun K "__init__" "NoKind.__init__" s_NoKind_init a.f_NoKind_init a.d_NoKind_init
  b_NoKind_init : Binds K a.d_NoKind_init ["self"] []
  e_BadForm : Wk.ExcT K mg "BadForm" a.C_BadForm a.f_BadForm_init
  F_BadForm_init : Fun K "__init__" "BadForm.__init__" s_BadForm_init a.f_BadForm_init a.d_BadForm_init
  b_BadForm_init : Binds K a.d_BadForm_init ["self", "number"] []
  n_BadForm_number : PySem.W.findIn K (.ref a.C_BadForm) "number" = some none
  e_BadKind : Wk.ExcT K mg "BadKind" a.C_BadKind a.f_BadKind_init
  F_BadKind_init : Fun K "__init__" "BadKind.__init__" s_BadKind_init a.f_BadKind_init a.d_BadKind_init
  b_BadKind_init : Binds K a.d_BadKind_init ["self", "given"] []
  n_BadKind_given : PySem.W.findIn K (.ref a.C_BadKind) "given" = some none
  e_BadTree : Wk.ExcT K mg "BadTree" a.C_BadTree a.f_BadTree_init
  F_BadTree_init : Fun K "__init__" "BadTree.__init__" s_BadTree_init a.f_BadTree_init a.d_BadTree_init
  b_BadTree_init : Binds K a.d_BadTree_init ["self", "given"] []
  n_BadTree_given : PySem.W.findIn K (.ref a.C_BadTree) "given" = some none
  e_BadUnits : Wk.ExcT K mg "BadUnits" a.C_BadUnits a.f_BadUnits_init
  F_BadUnits_init : Fun K "__init__" "BadUnits.__init__" s_BadUnits_init a.f_BadUnits_init a.d_BadUnits_init
  b_BadUnits_init : Binds K a.d_BadUnits_init ["self", "given"] []
  n_BadUnits_given : PySem.W.findIn K (.ref a.C_BadUnits) "given" = some none
  e_BadBudget : Wk.ExcT K mg "BadBudget" a.C_BadBudget a.f_BadBudget_init
  F_BadBudget_init : Fun K "__init__" "BadBudget.__init__" s_BadBudget_init a.f_BadBudget_init a.d_BadBudget_init
  b_BadBudget_init : Binds K a.d_BadBudget_init ["self", "given"] []
  n_BadBudget_given : PySem.W.findIn K (.ref a.C_BadBudget) "given" = some none
  e_BadStep : Wk.ExcT K mg "BadStep" a.C_BadStep a.f_BadStep_init
  F_BadStep_init : Fun K "__init__" "BadStep.__init__" s_BadStep_init a.f_BadStep_init a.d_BadStep_init
  b_BadStep_init : Binds K a.d_BadStep_init ["self", "given"] []
  n_BadStep_given : PySem.W.findIn K (.ref a.C_BadStep) "given" = some none
  e_BadDeeds : Wk.ExcT K mg "BadDeeds" a.C_BadDeeds a.f_BadDeeds_init
  F_BadDeeds_init : Fun K "__init__" "BadDeeds.__init__" s_BadDeeds_init a.f_BadDeeds_init a.d_BadDeeds_init
  b_BadDeeds_init : Binds K a.d_BadDeeds_init ["self", "given"] []
  n_BadDeeds_given : PySem.W.findIn K (.ref a.C_BadDeeds) "given" = some none
  e_BadWeight : Wk.ExcT K mg "BadWeight" a.C_BadWeight a.f_BadWeight_init
  F_BadWeight_init : Fun K "__init__" "BadWeight.__init__" s_BadWeight_init a.f_BadWeight_init a.d_BadWeight_init
  b_BadWeight_init : Binds K a.d_BadWeight_init ["self", "given"] []
  n_BadWeight_given : PySem.W.findIn K (.ref a.C_BadWeight) "given" = some none
  e_TooMany : Wk.ExcT K mg "TooMany" a.C_TooMany a.f_TooMany_init
  F_TooMany_init : Fun K "__init__" "TooMany.__init__" s_TooMany_init a.f_TooMany_init a.d_TooMany_init
  b_TooMany_init : Binds K a.d_TooMany_init ["self", "count"] []
  n_TooMany_count : PySem.W.findIn K (.ref a.C_TooMany) "count" = some none
  e_NoSuch : Wk.ExcT K mg "NoSuch" a.C_NoSuch a.f_NoSuch_init
  F_NoSuch_init : Fun K "__init__" "NoSuch.__init__" s_NoSuch_init a.f_NoSuch_init a.d_NoSuch_init
  b_NoSuch_init : Binds K a.d_NoSuch_init ["self", "name"] []
  n_NoSuch_name : PySem.W.findIn K (.ref a.C_NoSuch) "name" = some none
  e_NothingToUndo : Wk.ExcT K mg "NothingToUndo" a.C_NothingToUndo a.f_NothingToUndo_init
  F_NothingToUndo_init : Fun K "__init__" "NothingToUndo.__init__" s_NothingToUndo_init a.f_NothingToUndo_init a.d_NothingToUndo_init
  b_NothingToUndo_init : Binds K a.d_NothingToUndo_init ["self"] []
  e_NothingToRedo : Wk.ExcT K mg "NothingToRedo" a.C_NothingToRedo a.f_NothingToRedo_init
  F_NothingToRedo_init : Fun K "__init__" "NothingToRedo.__init__" s_NothingToRedo_init a.f_NothingToRedo_init a.d_NothingToRedo_init
  b_NothingToRedo_init : Binds K a.d_NothingToRedo_init ["self"] []
  tG : PySem.W.specialIn K (.builtin "object.__class__") "__get__" = some (some (.builtin "getset_descriptor.__get__"))
  tT : PySem.W.takesIn K (.builtin "object.__class__") = some true
  kc : PySem.W.isClsIn K a.CK = true
  kt : PySem.W.typeIn K (.ref a.CK) = some (.type "type")
  xa_BadText : PySem.W.findIn K (.ref a.C_BadText) "__class__" = some (some (.builtin "object.__class__"))
  mr_BadText : Wk.MroX K a.C_BadText a.CK
  xa_Twice : PySem.W.findIn K (.ref a.C_Twice) "__class__" = some (some (.builtin "object.__class__"))
  mr_Twice : Wk.MroX K a.C_Twice a.CK
  xa_BadName : PySem.W.findIn K (.ref a.C_BadName) "__class__" = some (some (.builtin "object.__class__"))
  mr_BadName : Wk.MroX K a.C_BadName a.CK
  xa_BadFilling : PySem.W.findIn K (.ref a.C_BadFilling) "__class__" = some (some (.builtin "object.__class__"))
  mr_BadFilling : Wk.MroX K a.C_BadFilling a.CK
  xa_BadLine : PySem.W.findIn K (.ref a.C_BadLine) "__class__" = some (some (.builtin "object.__class__"))
  mr_BadLine : Wk.MroX K a.C_BadLine a.CK
  xa_Unknown : PySem.W.findIn K (.ref a.C_Unknown) "__class__" = some (some (.builtin "object.__class__"))
  mr_Unknown : Wk.MroX K a.C_Unknown a.CK
  xa_BadMacro : PySem.W.findIn K (.ref a.C_BadMacro) "__class__" = some (some (.builtin "object.__class__"))
  mr_BadMacro : Wk.MroX K a.C_BadMacro a.CK
  xa_BadTree : PySem.W.findIn K (.ref a.C_BadTree) "__class__" = some (some (.builtin "object.__class__"))
  mr_BadTree : Wk.MroX K a.C_BadTree a.CK
  xa_BadPlace : PySem.W.findIn K (.ref a.C_BadPlace) "__class__" = some (some (.builtin "object.__class__"))
  mr_BadPlace : Wk.MroX K a.C_BadPlace a.CK
  xa_BadKnot : PySem.W.findIn K (.ref a.C_BadKnot) "__class__" = some (some (.builtin "object.__class__"))
  mr_BadKnot : Wk.MroX K a.C_BadKnot a.CK
  xa_BadKind : PySem.W.findIn K (.ref a.C_BadKind) "__class__" = some (some (.builtin "object.__class__"))
  mr_BadKind : Wk.MroX K a.C_BadKind a.CK
  xa_BadForm : PySem.W.findIn K (.ref a.C_BadForm) "__class__" = some (some (.builtin "object.__class__"))
  mr_BadForm : Wk.MroX K a.C_BadForm a.CK
  xa_BadDeeds : PySem.W.findIn K (.ref a.C_BadDeeds) "__class__" = some (some (.builtin "object.__class__"))
  mr_BadDeeds : Wk.MroX K a.C_BadDeeds a.CK
  xa_BadWeight : PySem.W.findIn K (.ref a.C_BadWeight) "__class__" = some (some (.builtin "object.__class__"))
  mr_BadWeight : Wk.MroX K a.C_BadWeight a.CK
  xa_BadUnits : PySem.W.findIn K (.ref a.C_BadUnits) "__class__" = some (some (.builtin "object.__class__"))
  mr_BadUnits : Wk.MroX K a.C_BadUnits a.CK
  xa_BadBudget : PySem.W.findIn K (.ref a.C_BadBudget) "__class__" = some (some (.builtin "object.__class__"))
  mr_BadBudget : Wk.MroX K a.C_BadBudget a.CK
  xa_BadStep : PySem.W.findIn K (.ref a.C_BadStep) "__class__" = some (some (.builtin "object.__class__"))
  mr_BadStep : Wk.MroX K a.C_BadStep a.CK
  xa_TooMany : PySem.W.findIn K (.ref a.C_TooMany) "__class__" = some (some (.builtin "object.__class__"))
  mr_TooMany : Wk.MroX K a.C_TooMany a.CK
  xa_NoSuch : PySem.W.findIn K (.ref a.C_NoSuch) "__class__" = some (some (.builtin "object.__class__"))
  mr_NoSuch : Wk.MroX K a.C_NoSuch a.CK
  xa_ByZero : PySem.W.findIn K (.ref a.C_ByZero) "__class__" = some (some (.builtin "object.__class__"))
  mr_ByZero : Wk.MroX K a.C_ByZero a.CK
  xa_NoKind : PySem.W.findIn K (.ref a.C_NoKind) "__class__" = some (some (.builtin "object.__class__"))
  mr_NoKind : Wk.MroX K a.C_NoKind a.CK
  xa_NothingToUndo : PySem.W.findIn K (.ref a.C_NothingToUndo) "__class__" = some (some (.builtin "object.__class__"))
  mr_NothingToUndo : Wk.MroX K a.C_NothingToUndo a.CK
  xa_NothingToRedo : PySem.W.findIn K (.ref a.C_NothingToRedo) "__class__" = some (some (.builtin "object.__class__"))
  mr_NothingToRedo : Wk.MroX K a.C_NothingToRedo a.CK
  nd : [a.C_BadText, a.C_Twice, a.C_BadName, a.C_BadFilling, a.C_BadLine, a.C_Unknown, a.C_BadMacro, a.C_BadTree, a.C_BadPlace, a.C_BadKnot, a.C_BadKind, a.C_BadForm, a.C_BadDeeds, a.C_BadWeight, a.C_BadUnits, a.C_BadBudget, a.C_BadStep, a.C_TooMany, a.C_NoSuch, a.C_ByZero, a.C_NoKind, a.C_NothingToUndo, a.C_NothingToRedo, a.CK].Nodup
  h_l_cell : Wk.FnT K mg "_law_cell" s_l_cell a.f_l_cell a.d_l_cell
  b_l_cell : Binds K a.d_l_cell ["_law_script", "_law_k"] []
  h_l_box : Wk.FnT K mg "_law_box" s_l_box a.f_l_box a.d_l_box
  b_l_box : Binds K a.d_l_box ["_law_cell_here"] []
  h_l_take : Wk.FnT K mg "_law_take" s_l_take a.f_l_take a.d_l_take
  b_l_take : Binds K a.d_l_take ["_law_box_here", "_law_many"] []
  h_l_mixed : Wk.FnT K mg "_law_mixed" s_l_mixed a.f_l_mixed a.d_l_mixed
  b_l_mixed : Binds K a.d_l_mixed ["_law_box_here", "_law_some"] []
  h_l_value : Wk.FnT K mg "_law_value" s_l_value a.f_l_value a.d_l_value
  b_l_value : Binds K a.d_l_value ["_law_box_here"] []
  h_l_made : Wk.FnT K mg "_law_made" s_l_made a.f_l_made a.d_l_made
  b_l_made : Binds K a.d_l_made ["_law_way", "_law_value_here"] []
  h_l_field : Wk.FnT K mg "_law_field" s_l_field a.f_l_field a.d_l_field
  b_l_field : Binds K a.d_l_field ["_law_way", "_law_e"] []
  h_l_classes : Wk.FnT K mg "_law_classes" s_l_classes a.f_l_classes a.d_l_classes
  b_l_classes : Binds K a.d_l_classes ["_law_e"] []
  h_l_same : Wk.FnT K mg "_law_same" s_l_same a.f_l_same a.d_l_same
  b_l_same : Binds K a.d_l_same ["_law_one", "_law_other"] []
  h_l_right : Wk.FnT K mg "_law_right" s_l_right a.f_l_right a.d_l_right
  b_l_right : Binds K a.d_l_right ["_law_box_here", "_law_way"] []
  h_law : Wk.FnT K mg "law" s_law a.f_law a.d_law
  z_ValueError : mg "ValueError" = none
  z_abs : mg "abs" = none
  z_dict : mg "dict" = none
  z_isinstance : mg "isinstance" = none
  z_len : mg "len" = none
  z_list : mg "list" = none
  z_max : mg "max" = none
  z_min : mg "min" = none
  z_range : mg "range" = none
  z_repr : mg "repr" = none
  z_str : mg "str" = none
section
variable {P : Program} {w : World} {K : PySem.W.Frag} {mg : Str → Option Value} {base : Heap} {a : Ad}
/-- the classes, in the law's order -/
def Cs (a : Ad) : List Addr := [a.C_BadText, a.C_Twice, a.C_BadName, a.C_BadFilling, a.C_BadLine, a.C_Unknown, a.C_BadMacro, a.C_BadTree, a.C_BadPlace, a.C_BadKnot, a.C_BadKind, a.C_BadForm, a.C_BadDeeds, a.C_BadWeight, a.C_BadUnits, a.C_BadBudget, a.C_BadStep, a.C_TooMany, a.C_NoSuch, a.C_ByZero, a.C_NoKind, a.C_NothingToUndo, a.C_NothingToRedo]
def sp_exc (C : Addr) (f : Str) : Sp := fun vs H Q _ => ∃ (e : Addr) (v : V), vs = [.ref e, v] ∧ H e = some (exo e C none) ∧ ∀ d, H d = none → d ≠ e → Q .non (upd (upd H d (exd d [(f, v)])) e (exo e C (some d)))
def sp_exc0 (C : Addr) : Sp := fun vs H Q _ => ∃ e : Addr, vs = [.ref e] ∧ H e = some (exo e C none) ∧ Q .non H
theorem ok_BadText_init (T : Txt K mg a) : FnOk P w K mg base CX0 1 a.f_BadText_init a.d_BadText_init ["self", "at"] (sp_exc a.C_BadText "at") := by
  refine T.F_BadText_init.ok sc_BadText_init (fun vs H Q E h => ?_) (fun cdv A outer s H vs Q E hr h => ?_)
  · obtain ⟨z, v, rfl, _⟩ := h
    rfl
  · obtain ⟨e, v, rfl, he, k⟩ := h
    refine ⟨_, (pss_cons (ps_expr (Wk.pe_kinit T.kb (pa_cons (pv 0) (pa_cons pe_str (pa_nil)))))
  (pss_one (ps_ost (pv 0) (pv 1)))), ?_⟩
    exact ⟨_, rfl, e, a.C_BadText, _, rfl, (by show 1 ≤ 1000; decide), T.e_BadText.o, he, _, rfl, _, rfl, e, a.C_BadText, rfl, T.e_BadText.o, T.n_BadText_at, .inl ⟨he, k⟩⟩
theorem ok_Twice_init (T : Txt K mg a) : FnOk P w K mg base CX0 1 a.f_Twice_init a.d_Twice_init ["self", "name"] (sp_exc a.C_Twice "name") := by
  refine T.F_Twice_init.ok sc_Twice_init (fun vs H Q E h => ?_) (fun cdv A outer s H vs Q E hr h => ?_)
  · obtain ⟨z, v, rfl, _⟩ := h
    rfl
  · obtain ⟨e, v, rfl, he, k⟩ := h
    refine ⟨_, (pss_cons (ps_expr (Wk.pe_kinit T.kb (pa_cons (pv 0) (pa_cons pe_str (pa_nil)))))
  (pss_one (ps_ost (pv 0) (pv 1)))), ?_⟩
    exact ⟨_, rfl, e, a.C_Twice, _, rfl, (by show 1 ≤ 1000; decide), T.e_Twice.o, he, _, rfl, _, rfl, e, a.C_Twice, rfl, T.e_Twice.o, T.n_Twice_name, .inl ⟨he, k⟩⟩
theorem ok_BadName_init (T : Txt K mg a) : FnOk P w K mg base CX0 1 a.f_BadName_init a.d_BadName_init ["self", "name"] (sp_exc a.C_BadName "name") := by
  refine T.F_BadName_init.ok sc_BadName_init (fun vs H Q E h => ?_) (fun cdv A outer s H vs Q E hr h => ?_)
  · obtain ⟨z, v, rfl, _⟩ := h
    rfl
  · obtain ⟨e, v, rfl, he, k⟩ := h
    refine ⟨_, (pss_cons (ps_expr (Wk.pe_kinit T.kb (pa_cons (pv 0) (pa_cons pe_str (pa_nil)))))
  (pss_one (ps_ost (pv 0) (pv 1)))), ?_⟩
    exact ⟨_, rfl, e, a.C_BadName, _, rfl, (by show 1 ≤ 1000; decide), T.e_BadName.o, he, _, rfl, _, rfl, e, a.C_BadName, rfl, T.e_BadName.o, T.n_BadName_name, .inl ⟨he, k⟩⟩
theorem ok_BadFilling_init (T : Txt K mg a) : FnOk P w K mg base CX0 1 a.f_BadFilling_init a.d_BadFilling_init ["self", "name"] (sp_exc a.C_BadFilling "name") := by
  refine T.F_BadFilling_init.ok sc_BadFilling_init (fun vs H Q E h => ?_) (fun cdv A outer s H vs Q E hr h => ?_)
  · obtain ⟨z, v, rfl, _⟩ := h
    rfl
  · obtain ⟨e, v, rfl, he, k⟩ := h
    refine ⟨_, (pss_cons (ps_expr (Wk.pe_kinit T.kb (pa_cons (pv 0) (pa_cons pe_str (pa_nil)))))
  (pss_one (ps_ost (pv 0) (pv 1)))), ?_⟩
    exact ⟨_, rfl, e, a.C_BadFilling, _, rfl, (by show 1 ≤ 1000; decide), T.e_BadFilling.o, he, _, rfl, _, rfl, e, a.C_BadFilling, rfl, T.e_BadFilling.o, T.n_BadFilling_name, .inl ⟨he, k⟩⟩
theorem ok_BadLine_init (T : Txt K mg a) : FnOk P w K mg base CX0 1 a.f_BadLine_init a.d_BadLine_init ["self", "number"] (sp_exc a.C_BadLine "number") := by
  refine T.F_BadLine_init.ok sc_BadLine_init (fun vs H Q E h => ?_) (fun cdv A outer s H vs Q E hr h => ?_)
  · obtain ⟨z, v, rfl, _⟩ := h
    rfl
  · obtain ⟨e, v, rfl, he, k⟩ := h
    refine ⟨_, (pss_cons (ps_expr (Wk.pe_kinit T.kb (pa_cons (pv 0) (pa_cons pe_str (pa_nil)))))
  (pss_one (ps_ost (pv 0) (pv 1)))), ?_⟩
    exact ⟨_, rfl, e, a.C_BadLine, _, rfl, (by show 1 ≤ 1000; decide), T.e_BadLine.o, he, _, rfl, _, rfl, e, a.C_BadLine, rfl, T.e_BadLine.o, T.n_BadLine_number, .inl ⟨he, k⟩⟩
theorem ok_Unknown_init (T : Txt K mg a) : FnOk P w K mg base CX0 1 a.f_Unknown_init a.d_Unknown_init ["self", "name"] (sp_exc a.C_Unknown "name") := by
  refine T.F_Unknown_init.ok sc_Unknown_init (fun vs H Q E h => ?_) (fun cdv A outer s H vs Q E hr h => ?_)
  · obtain ⟨z, v, rfl, _⟩ := h
    rfl
  · obtain ⟨e, v, rfl, he, k⟩ := h
    refine ⟨_, (pss_cons (ps_expr (Wk.pe_kinit T.kb (pa_cons (pv 0) (pa_cons pe_str (pa_nil)))))
  (pss_one (ps_ost (pv 0) (pv 1)))), ?_⟩
    exact ⟨_, rfl, e, a.C_Unknown, _, rfl, (by show 1 ≤ 1000; decide), T.e_Unknown.o, he, _, rfl, _, rfl, e, a.C_Unknown, rfl, T.e_Unknown.o, T.n_Unknown_name, .inl ⟨he, k⟩⟩
theorem ok_BadMacro_init (T : Txt K mg a) : FnOk P w K mg base CX0 1 a.f_BadMacro_init a.d_BadMacro_init ["self", "name"] (sp_exc a.C_BadMacro "name") := by
  refine T.F_BadMacro_init.ok sc_BadMacro_init (fun vs H Q E h => ?_) (fun cdv A outer s H vs Q E hr h => ?_)
  · obtain ⟨z, v, rfl, _⟩ := h
    rfl
  · obtain ⟨e, v, rfl, he, k⟩ := h
    refine ⟨_, (pss_cons (ps_expr (Wk.pe_kinit T.kb (pa_cons (pv 0) (pa_cons pe_str (pa_nil)))))
  (pss_one (ps_ost (pv 0) (pv 1)))), ?_⟩
    exact ⟨_, rfl, e, a.C_BadMacro, _, rfl, (by show 1 ≤ 1000; decide), T.e_BadMacro.o, he, _, rfl, _, rfl, e, a.C_BadMacro, rfl, T.e_BadMacro.o, T.n_BadMacro_name, .inl ⟨he, k⟩⟩
theorem ok_BadTree_init (T : Txt K mg a) : FnOk P w K mg base CX0 1 a.f_BadTree_init a.d_BadTree_init ["self", "given"] (sp_exc a.C_BadTree "given") := by
  refine T.F_BadTree_init.ok sc_BadTree_init (fun vs H Q E h => ?_) (fun cdv A outer s H vs Q E hr h => ?_)
  · obtain ⟨z, v, rfl, _⟩ := h
    rfl
  · obtain ⟨e, v, rfl, he, k⟩ := h
    refine ⟨_, (pss_cons (ps_expr (Wk.pe_kinit T.kb (pa_cons (pv 0) (pa_cons pe_str (pa_nil)))))
  (pss_one (ps_ost (pv 0) (pv 1)))), ?_⟩
    exact ⟨_, rfl, e, a.C_BadTree, _, rfl, (by show 1 ≤ 1000; decide), T.e_BadTree.o, he, _, rfl, _, rfl, e, a.C_BadTree, rfl, T.e_BadTree.o, T.n_BadTree_given, .inl ⟨he, k⟩⟩
theorem ok_BadPlace_init (T : Txt K mg a) : FnOk P w K mg base CX0 1 a.f_BadPlace_init a.d_BadPlace_init ["self", "given"] (sp_exc a.C_BadPlace "given") := by
  refine T.F_BadPlace_init.ok sc_BadPlace_init (fun vs H Q E h => ?_) (fun cdv A outer s H vs Q E hr h => ?_)
  · obtain ⟨z, v, rfl, _⟩ := h
    rfl
  · obtain ⟨e, v, rfl, he, k⟩ := h
    refine ⟨_, (pss_cons (ps_expr (Wk.pe_kinit T.kb (pa_cons (pv 0) (pa_cons pe_str (pa_nil)))))
  (pss_one (ps_ost (pv 0) (pv 1)))), ?_⟩
    exact ⟨_, rfl, e, a.C_BadPlace, _, rfl, (by show 1 ≤ 1000; decide), T.e_BadPlace.o, he, _, rfl, _, rfl, e, a.C_BadPlace, rfl, T.e_BadPlace.o, T.n_BadPlace_given, .inl ⟨he, k⟩⟩
theorem ok_BadKnot_init (T : Txt K mg a) : FnOk P w K mg base CX0 1 a.f_BadKnot_init a.d_BadKnot_init ["self", "given"] (sp_exc a.C_BadKnot "given") := by
  refine T.F_BadKnot_init.ok sc_BadKnot_init (fun vs H Q E h => ?_) (fun cdv A outer s H vs Q E hr h => ?_)
  · obtain ⟨z, v, rfl, _⟩ := h
    rfl
  · obtain ⟨e, v, rfl, he, k⟩ := h
    refine ⟨_, (pss_cons (ps_expr (Wk.pe_kinit T.kb (pa_cons (pv 0) (pa_cons pe_str (pa_nil)))))
  (pss_one (ps_ost (pv 0) (pv 1)))), ?_⟩
    exact ⟨_, rfl, e, a.C_BadKnot, _, rfl, (by show 1 ≤ 1000; decide), T.e_BadKnot.o, he, _, rfl, _, rfl, e, a.C_BadKnot, rfl, T.e_BadKnot.o, T.n_BadKnot_given, .inl ⟨he, k⟩⟩
theorem ok_BadKind_init (T : Txt K mg a) : FnOk P w K mg base CX0 1 a.f_BadKind_init a.d_BadKind_init ["self", "given"] (sp_exc a.C_BadKind "given") := by
  refine T.F_BadKind_init.ok sc_BadKind_init (fun vs H Q E h => ?_) (fun cdv A outer s H vs Q E hr h => ?_)
  · obtain ⟨z, v, rfl, _⟩ := h
    rfl
  · obtain ⟨e, v, rfl, he, k⟩ := h
    refine ⟨_, (pss_cons (ps_expr (Wk.pe_kinit T.kb (pa_cons (pv 0) (pa_cons pe_str (pa_nil)))))
  (pss_one (ps_ost (pv 0) (pv 1)))), ?_⟩
    exact ⟨_, rfl, e, a.C_BadKind, _, rfl, (by show 1 ≤ 1000; decide), T.e_BadKind.o, he, _, rfl, _, rfl, e, a.C_BadKind, rfl, T.e_BadKind.o, T.n_BadKind_given, .inl ⟨he, k⟩⟩
theorem ok_BadForm_init (T : Txt K mg a) : FnOk P w K mg base CX0 1 a.f_BadForm_init a.d_BadForm_init ["self", "number"] (sp_exc a.C_BadForm "number") := by
  refine T.F_BadForm_init.ok sc_BadForm_init (fun vs H Q E h => ?_) (fun cdv A outer s H vs Q E hr h => ?_)
  · obtain ⟨z, v, rfl, _⟩ := h
    rfl
  · obtain ⟨e, v, rfl, he, k⟩ := h
    refine ⟨_, (pss_cons (ps_expr (Wk.pe_kinit T.kb (pa_cons (pv 0) (pa_cons pe_str (pa_nil)))))
  (pss_one (ps_ost (pv 0) (pv 1)))), ?_⟩
    exact ⟨_, rfl, e, a.C_BadForm, _, rfl, (by show 1 ≤ 1000; decide), T.e_BadForm.o, he, _, rfl, _, rfl, e, a.C_BadForm, rfl, T.e_BadForm.o, T.n_BadForm_number, .inl ⟨he, k⟩⟩
theorem ok_BadDeeds_init (T : Txt K mg a) : FnOk P w K mg base CX0 1 a.f_BadDeeds_init a.d_BadDeeds_init ["self", "given"] (sp_exc a.C_BadDeeds "given") := by
  refine T.F_BadDeeds_init.ok sc_BadDeeds_init (fun vs H Q E h => ?_) (fun cdv A outer s H vs Q E hr h => ?_)
  · obtain ⟨z, v, rfl, _⟩ := h
    rfl
  · obtain ⟨e, v, rfl, he, k⟩ := h
    refine ⟨_, (pss_cons (ps_expr (Wk.pe_kinit T.kb (pa_cons (pv 0) (pa_cons pe_str (pa_nil)))))
  (pss_one (ps_ost (pv 0) (pv 1)))), ?_⟩
    exact ⟨_, rfl, e, a.C_BadDeeds, _, rfl, (by show 1 ≤ 1000; decide), T.e_BadDeeds.o, he, _, rfl, _, rfl, e, a.C_BadDeeds, rfl, T.e_BadDeeds.o, T.n_BadDeeds_given, .inl ⟨he, k⟩⟩
theorem ok_BadWeight_init (T : Txt K mg a) : FnOk P w K mg base CX0 1 a.f_BadWeight_init a.d_BadWeight_init ["self", "given"] (sp_exc a.C_BadWeight "given") := by
  refine T.F_BadWeight_init.ok sc_BadWeight_init (fun vs H Q E h => ?_) (fun cdv A outer s H vs Q E hr h => ?_)
  · obtain ⟨z, v, rfl, _⟩ := h
    rfl
  · obtain ⟨e, v, rfl, he, k⟩ := h
    refine ⟨_, (pss_cons (ps_expr (Wk.pe_kinit T.kb (pa_cons (pv 0) (pa_cons pe_str (pa_nil)))))
  (pss_one (ps_ost (pv 0) (pv 1)))), ?_⟩
    exact ⟨_, rfl, e, a.C_BadWeight, _, rfl, (by show 1 ≤ 1000; decide), T.e_BadWeight.o, he, _, rfl, _, rfl, e, a.C_BadWeight, rfl, T.e_BadWeight.o, T.n_BadWeight_given, .inl ⟨he, k⟩⟩
theorem ok_BadUnits_init (T : Txt K mg a) : FnOk P w K mg base CX0 1 a.f_BadUnits_init a.d_BadUnits_init ["self", "given"] (sp_exc a.C_BadUnits "given") := by
  refine T.F_BadUnits_init.ok sc_BadUnits_init (fun vs H Q E h => ?_) (fun cdv A outer s H vs Q E hr h => ?_)
  · obtain ⟨z, v, rfl, _⟩ := h
    rfl
  · obtain ⟨e, v, rfl, he, k⟩ := h
    refine ⟨_, (pss_cons (ps_expr (Wk.pe_kinit T.kb (pa_cons (pv 0) (pa_cons pe_str (pa_nil)))))
  (pss_one (ps_ost (pv 0) (pv 1)))), ?_⟩
    exact ⟨_, rfl, e, a.C_BadUnits, _, rfl, (by show 1 ≤ 1000; decide), T.e_BadUnits.o, he, _, rfl, _, rfl, e, a.C_BadUnits, rfl, T.e_BadUnits.o, T.n_BadUnits_given, .inl ⟨he, k⟩⟩
theorem ok_BadBudget_init (T : Txt K mg a) : FnOk P w K mg base CX0 1 a.f_BadBudget_init a.d_BadBudget_init ["self", "given"] (sp_exc a.C_BadBudget "given") := by
  refine T.F_BadBudget_init.ok sc_BadBudget_init (fun vs H Q E h => ?_) (fun cdv A outer s H vs Q E hr h => ?_)
  · obtain ⟨z, v, rfl, _⟩ := h
    rfl
  · obtain ⟨e, v, rfl, he, k⟩ := h
    refine ⟨_, (pss_cons (ps_expr (Wk.pe_kinit T.kb (pa_cons (pv 0) (pa_cons pe_str (pa_nil)))))
  (pss_one (ps_ost (pv 0) (pv 1)))), ?_⟩
    exact ⟨_, rfl, e, a.C_BadBudget, _, rfl, (by show 1 ≤ 1000; decide), T.e_BadBudget.o, he, _, rfl, _, rfl, e, a.C_BadBudget, rfl, T.e_BadBudget.o, T.n_BadBudget_given, .inl ⟨he, k⟩⟩
theorem ok_BadStep_init (T : Txt K mg a) : FnOk P w K mg base CX0 1 a.f_BadStep_init a.d_BadStep_init ["self", "given"] (sp_exc a.C_BadStep "given") := by
  refine T.F_BadStep_init.ok sc_BadStep_init (fun vs H Q E h => ?_) (fun cdv A outer s H vs Q E hr h => ?_)
  · obtain ⟨z, v, rfl, _⟩ := h
    rfl
  · obtain ⟨e, v, rfl, he, k⟩ := h
    refine ⟨_, (pss_cons (ps_expr (Wk.pe_kinit T.kb (pa_cons (pv 0) (pa_cons pe_str (pa_nil)))))
  (pss_one (ps_ost (pv 0) (pv 1)))), ?_⟩
    exact ⟨_, rfl, e, a.C_BadStep, _, rfl, (by show 1 ≤ 1000; decide), T.e_BadStep.o, he, _, rfl, _, rfl, e, a.C_BadStep, rfl, T.e_BadStep.o, T.n_BadStep_given, .inl ⟨he, k⟩⟩
theorem ok_TooMany_init (T : Txt K mg a) : FnOk P w K mg base CX0 1 a.f_TooMany_init a.d_TooMany_init ["self", "count"] (sp_exc a.C_TooMany "count") := by
  refine T.F_TooMany_init.ok sc_TooMany_init (fun vs H Q E h => ?_) (fun cdv A outer s H vs Q E hr h => ?_)
  · obtain ⟨z, v, rfl, _⟩ := h
    rfl
  · obtain ⟨e, v, rfl, he, k⟩ := h
    refine ⟨_, (pss_cons (ps_expr (Wk.pe_kinit T.kb (pa_cons (pv 0) (pa_cons pe_str (pa_nil)))))
  (pss_one (ps_ost (pv 0) (pv 1)))), ?_⟩
    exact ⟨_, rfl, e, a.C_TooMany, _, rfl, (by show 1 ≤ 1000; decide), T.e_TooMany.o, he, _, rfl, _, rfl, e, a.C_TooMany, rfl, T.e_TooMany.o, T.n_TooMany_count, .inl ⟨he, k⟩⟩
theorem ok_NoSuch_init (T : Txt K mg a) : FnOk P w K mg base CX0 1 a.f_NoSuch_init a.d_NoSuch_init ["self", "name"] (sp_exc a.C_NoSuch "name") := by
  refine T.F_NoSuch_init.ok sc_NoSuch_init (fun vs H Q E h => ?_) (fun cdv A outer s H vs Q E hr h => ?_)
  · obtain ⟨z, v, rfl, _⟩ := h
    rfl
  · obtain ⟨e, v, rfl, he, k⟩ := h
    refine ⟨_, (pss_cons (ps_expr (Wk.pe_kinit T.kb (pa_cons (pv 0) (pa_cons pe_str (pa_nil)))))
  (pss_one (ps_ost (pv 0) (pv 1)))), ?_⟩
    exact ⟨_, rfl, e, a.C_NoSuch, _, rfl, (by show 1 ≤ 1000; decide), T.e_NoSuch.o, he, _, rfl, _, rfl, e, a.C_NoSuch, rfl, T.e_NoSuch.o, T.n_NoSuch_name, .inl ⟨he, k⟩⟩
theorem ok_ByZero_init (T : Txt K mg a) : FnOk P w K mg base CX0 1 a.f_ByZero_init a.d_ByZero_init ["self"] (sp_exc0 a.C_ByZero) := by
  refine T.F_ByZero_init.ok sc_ByZero_init (fun vs H Q E h => ?_) (fun cdv A outer s H vs Q E hr h => ?_)
  · obtain ⟨z, rfl, _⟩ := h
    rfl
  · obtain ⟨e, rfl, he, k⟩ := h
    refine ⟨_, (pss_one (ps_expr (Wk.pe_kinit T.kb (pa_cons (pv 0) (pa_cons pe_str (pa_nil)))))), ?_⟩
    exact ⟨_, rfl, e, a.C_ByZero, _, rfl, (by show 1 ≤ 1000; decide), T.e_ByZero.o, he, k⟩
theorem ok_NoKind_init (T : Txt K mg a) : FnOk P w K mg base CX0 1 a.f_NoKind_init a.d_NoKind_init ["self"] (sp_exc0 a.C_NoKind) := by
  refine T.F_NoKind_init.ok sc_NoKind_init (fun vs H Q E h => ?_) (fun cdv A outer s H vs Q E hr h => ?_)
  · obtain ⟨z, rfl, _⟩ := h
    rfl
  · obtain ⟨e, rfl, he, k⟩ := h
    refine ⟨_, (pss_one (ps_expr (Wk.pe_kinit T.kb (pa_cons (pv 0) (pa_cons pe_str (pa_nil)))))), ?_⟩
    exact ⟨_, rfl, e, a.C_NoKind, _, rfl, (by show 1 ≤ 1000; decide), T.e_NoKind.o, he, k⟩
theorem ok_NothingToUndo_init (T : Txt K mg a) : FnOk P w K mg base CX0 1 a.f_NothingToUndo_init a.d_NothingToUndo_init ["self"] (sp_exc0 a.C_NothingToUndo) := by
  refine T.F_NothingToUndo_init.ok sc_NothingToUndo_init (fun vs H Q E h => ?_) (fun cdv A outer s H vs Q E hr h => ?_)
  · obtain ⟨z, rfl, _⟩ := h
    rfl
  · obtain ⟨e, rfl, he, k⟩ := h
    refine ⟨_, (pss_one (ps_expr (Wk.pe_kinit T.kb (pa_cons (pv 0) (pa_cons pe_str (pa_nil)))))), ?_⟩
    exact ⟨_, rfl, e, a.C_NothingToUndo, _, rfl, (by show 1 ≤ 1000; decide), T.e_NothingToUndo.o, he, k⟩
theorem ok_NothingToRedo_init (T : Txt K mg a) : FnOk P w K mg base CX0 1 a.f_NothingToRedo_init a.d_NothingToRedo_init ["self"] (sp_exc0 a.C_NothingToRedo) := by
  refine T.F_NothingToRedo_init.ok sc_NothingToRedo_init (fun vs H Q E h => ?_) (fun cdv A outer s H vs Q E hr h => ?_)
  · obtain ⟨z, rfl, _⟩ := h
    rfl
  · obtain ⟨e, rfl, he, k⟩ := h
    refine ⟨_, (pss_one (ps_expr (Wk.pe_kinit T.kb (pa_cons (pv 0) (pa_cons pe_str (pa_nil)))))), ?_⟩
    exact ⟨_, rfl, e, a.C_NothingToRedo, _, rfl, (by show 1 ≤ 1000; decide), T.e_NothingToRedo.o, he, k⟩
structure XcF (K : PySem.W.Frag) (CK C : Addr) : Prop where
  e : ExcC K C
  m : Wk.MroX K C CK
  c : PySem.W.isClsIn K C = true
  t : PySem.W.typeIn K (.ref C) = some (.type "type")
  x : XfC K C
theorem xcf_mk {CK C f : Addr} {x : Str} (E : Wk.ExcT K mg x C f) (m : Wk.MroX K C CK) (xa : PySem.W.findIn K (.ref C) "__class__" = some (some (.builtin "object.__class__"))) (tG : PySem.W.specialIn K (.builtin "object.__class__") "__get__" = some (some (.builtin "getset_descriptor.__get__"))) (tT : PySem.W.takesIn K (.builtin "object.__class__") = some true) : XcF K CK C := by
  refine ⟨⟨E.xf.ga, E.xf.gg, E.xf.exC, E.xf.hdC, xa, tG, tT, ?_⟩, m, ?_, E.o.tyC, E.xf⟩
  · rw [m]
    rfl
  · obtain ⟨cd, hc, _⟩ := PySem.W.any_some E.xf.hdC
    show (PySem.W.clsIn K C).isSome = true
    rw [hc]
    rfl
theorem xcf (T : Txt K mg a) : ∀ C ∈ Cs a, XcF K a.CK C := by
  intro C hC
  simp only [Cs, List.mem_cons, List.not_mem_nil, or_false] at hC
  rcases hC with rfl | rfl | rfl | rfl | rfl | rfl | rfl | rfl | rfl | rfl | rfl | rfl | rfl | rfl | rfl | rfl | rfl | rfl | rfl | rfl | rfl | rfl | rfl
  · exact xcf_mk T.e_BadText T.mr_BadText T.xa_BadText T.tG T.tT
  · exact xcf_mk T.e_Twice T.mr_Twice T.xa_Twice T.tG T.tT
  · exact xcf_mk T.e_BadName T.mr_BadName T.xa_BadName T.tG T.tT
  · exact xcf_mk T.e_BadFilling T.mr_BadFilling T.xa_BadFilling T.tG T.tT
  · exact xcf_mk T.e_BadLine T.mr_BadLine T.xa_BadLine T.tG T.tT
  · exact xcf_mk T.e_Unknown T.mr_Unknown T.xa_Unknown T.tG T.tT
  · exact xcf_mk T.e_BadMacro T.mr_BadMacro T.xa_BadMacro T.tG T.tT
  · exact xcf_mk T.e_BadTree T.mr_BadTree T.xa_BadTree T.tG T.tT
  · exact xcf_mk T.e_BadPlace T.mr_BadPlace T.xa_BadPlace T.tG T.tT
  · exact xcf_mk T.e_BadKnot T.mr_BadKnot T.xa_BadKnot T.tG T.tT
  · exact xcf_mk T.e_BadKind T.mr_BadKind T.xa_BadKind T.tG T.tT
  · exact xcf_mk T.e_BadForm T.mr_BadForm T.xa_BadForm T.tG T.tT
  · exact xcf_mk T.e_BadDeeds T.mr_BadDeeds T.xa_BadDeeds T.tG T.tT
  · exact xcf_mk T.e_BadWeight T.mr_BadWeight T.xa_BadWeight T.tG T.tT
  · exact xcf_mk T.e_BadUnits T.mr_BadUnits T.xa_BadUnits T.tG T.tT
  · exact xcf_mk T.e_BadBudget T.mr_BadBudget T.xa_BadBudget T.tG T.tT
  · exact xcf_mk T.e_BadStep T.mr_BadStep T.xa_BadStep T.tG T.tT
  · exact xcf_mk T.e_TooMany T.mr_TooMany T.xa_TooMany T.tG T.tT
  · exact xcf_mk T.e_NoSuch T.mr_NoSuch T.xa_NoSuch T.tG T.tT
  · exact xcf_mk T.e_ByZero T.mr_ByZero T.xa_ByZero T.tG T.tT
  · exact xcf_mk T.e_NoKind T.mr_NoKind T.xa_NoKind T.tG T.tT
  · exact xcf_mk T.e_NothingToUndo T.mr_NothingToUndo T.xa_NothingToUndo T.tG T.tT
  · exact xcf_mk T.e_NothingToRedo T.mr_NothingToRedo T.xa_NothingToRedo T.tG T.tT
theorem isx (T : Txt K mg a) {H : Hp} {e C D : Addr} {fs : Option (List (Str × V))} {Q : VK} (hC : C ∈ Cs a) (hD : D ∈ Cs a) (hE : ExV H e C fs) (q : Q (.bl (decide (C = D))) H) : rIsX K [.ref e, .ref D] H Q := by
  refine ⟨e, C, fs, _, _, decide (C = D), rfl, .own _, hE, (xcf T C hC).e, ?_, q⟩
  by_cases h : C = D
  · subst h
    rw [decide_eq_true rfl]
    exact Wk.kit_self
  · rw [decide_eq_false h]
    have hk : D ≠ a.CK := fun z => by
      have nd : (Cs a ++ [a.CK]).Nodup := T.nd
      rw [List.nodup_append] at nd
      exact nd.2.2 D hD a.CK (by simp) z
    refine Wk.kit_own (by simpa using h) (xcf T D hD).c (xcf T D hD).t ?_
    show PySem.W.mroIn K C (.ref D) = _
    rw [(xcf T C hC).m]
    simp [Ne.symm h, hk]
theorem abs_nat (x : Int) : (if x < 0 then -x else x) = ((x.natAbs : Nat) : Int) := by split <;> omega
def sp_l_cell (K : PySem.W.Frag) : Sp := fun vs H Q _ => ∃ (p : Addr) (ns : List Int) (i : Nat), vs = [.ref p, .int (i : Int)] ∧ SqL K H p (ns.map V.int) ∧ i ≤ 100 ∧ ∀ n : Int, Q (.int n) H
theorem ok_l_cell (T : Txt K mg a) : FnOk P w K mg base CX0 1 a.f_l_cell a.d_l_cell ["_law_script", "_law_k"] (sp_l_cell K) := by
  refine T.h_l_cell.F.ok sc_l_cell (fun vs H Q E h => ?_) (fun cdv A outer s H vs Q E hr h => ?_)
  · obtain ⟨p, ns, i, rfl, _⟩ := h
    rfl
  · obtain ⟨p, ns, i, rfl, hS, hi, k⟩ := h
    refine ⟨_, (pss_cons (ps_if (pt_cmpR op_lt (pv 1) (pe_callB call_len_seq (by rfl) T.z_len (by decide +kernel) (pa_cons (pv 0) (pa_nil))) (nomark _)) (pss_one (ps_ret (pe_ix ix_list (pv 0) (pv 1) (fun _ _ => rfl)))) pss_nil)
  (pss_one (ps_ret (pe_op op_add (pe_op op_mul pe_int (pv 1)) pe_int)))), ?_⟩
    walk_at "rd"
    refine ⟨_, .inl hS, ite2 (fun h1 => ?_) (fun h1 => ⟨.inl (by omega), k _⟩)⟩
    rw [List.length_map] at h1
    obtain ⟨n, hn⟩ : ∃ n, ns[i]? = some n := ⟨_, List.getElem?_eq_getElem (by omega)⟩
    exact ⟨p, _, _, _, rfl, rfl, hS, by rw [atI_eq, List.getElem?_map, hn]; rfl, k n⟩
/-- what the law draws from: three numbers, the last one a count -/
def Box (H : Hp) (p : Addr) (n : Nat) : Prop := ∃ (b0 b1 b2 : Int), H p = some (.lst [.int b0, .int b1, .int b2]) ∧ 0 ≤ b0 ∧ 0 ≤ b1 ∧ b1 < 2147483648 ∧ 0 ≤ b2 ∧ b2 ≤ n
def sp_l_box : Sp := fun vs H Q _ => ∃ n : Int, vs = [.int n] ∧ ∀ H' p, Same H H' → H p = none → Box H' p 0 → Q (.ref p) H'
theorem ok_l_box (T : Txt K mg a) : FnOk P w K mg base CX0 1 a.f_l_box a.d_l_box ["_law_cell_here"] sp_l_box := by
  refine T.h_l_box.F.ok sc_l_box (fun vs H Q E h => ?_) (fun cdv A outer s H vs Q E hr h => ?_)
  · obtain ⟨n, rfl, _⟩ := h
    rfl
  · obtain ⟨n, rfl, k⟩ := h
    refine ⟨_, (pss_one (ps_ret (pe_lst (pa_cons (pe_callB (call_max2 rfl) (by rfl) T.z_max (by decide +kernel) (pa_cons pe_int (pa_cons (pe_op op_sub (pe_callB call_abs (by rfl) T.z_abs (by decide +kernel) (pa_cons (pv 0) (pa_nil))) (pe_op op_pow pe_int pe_int)) (pa_nil)))) (pa_cons (pe_op op_modN (pe_callB call_abs (by rfl) T.z_abs (by decide +kernel) (pa_cons (pv 0) (pa_nil))) pe_int) (pa_cons pe_int (pa_nil))))))), ?_⟩
    walk_at "rd"
    rw [abs_nat]
    refine ⟨⟨by decide, by decide, by decide⟩, by decide, by decide, fun p hp => k _ p (Same.new hp) hp ⟨_, _, _, upd_same, ?_, ?_, ?_, by decide, by decide⟩⟩
    · split <;> omega
    · exact Int.fmod_nonneg_of_pos _ (by decide)
    · exact Int.lt_trans (Int.fmod_lt_of_pos _ (by decide)) (by decide)
def sp_l_take : Sp := fun vs H Q _ => ∃ (p : Addr) (n : Nat) (m : Int), vs = [.ref p, .int m] ∧ Box H p n ∧ n ≤ 1000000 ∧ 0 < m ∧ m < 1073741824 ∧
  ∀ (d : Int) H', 0 ≤ d → d < m → (∀ b o, b ≠ p → H b = some o → H' b = some o) → Box H' p (n + 1) → Q (.int d) H'
theorem ok_l_take (T : Txt K mg a) : FnOk P w K mg base CX0 1 a.f_l_take a.d_l_take ["_law_box_here", "_law_many"] sp_l_take := by
  refine T.h_l_take.F.ok sc_l_take (fun vs H Q E h => ?_) (fun cdv A outer s H vs Q E hr h => ?_)
  · obtain ⟨p, n, m, rfl, _⟩ := h
    rfl
  · obtain ⟨p, n, m, rfl, ⟨b0, b1, b2, hB, g0, g1, g2, g3, g4⟩, hn, hm, hm2, k⟩ := h
    refine ⟨_, (pss_cons (ps_if (pt_cmpR op_gt (pe_ix Wk.ix_listT (pv 0) pe_int (fun _ _ => rfl)) pe_int (nomark _)) (pss_cons (ps_set (i := 2) sc_l_take.nd rfl (.inl rfl) (pe_op op_modN (pe_ix Wk.ix_listT (pv 0) pe_int (fun _ _ => rfl)) (pv 1)))
  (pss_cons (ps_asg (pe_op op_fdivN (pe_ix Wk.ix_listT (pv 0) pe_int (fun _ _ => rfl)) (pv 1)) (pg_sub (pv 0) pe_int set_list))
  (pss_one (ps_ret (pv 2))))) pss_nil)
  (pss_cons (ps_asg (pe_op op_add (pe_ix Wk.ix_listT (pv 0) pe_int (fun _ _ => rfl)) pe_int) (pg_sub (pv 0) pe_int set_list))
  (pss_cons (ps_set (i := 3) sc_l_take.nd rfl (.inl rfl) (pe_op op_modN (pe_op op_pow (pe_op op_add (pe_op op_add (pe_ix Wk.ix_listT (pv 0) pe_int (fun _ _ => rfl)) (pe_op op_mul pe_int (pe_ix Wk.ix_listT (pv 0) pe_int (fun _ _ => rfl)))) pe_int) pe_int) pe_int))
  (pss_cons (ps_set (i := 3) sc_l_take.nd rfl (.inl rfl) (pe_op op_modN (pe_op op_pow (pe_op op_add (pv 3) (pe_op op_mul pe_int (pe_ix Wk.ix_listT (pv 0) pe_int (fun _ _ => rfl)))) pe_int) pe_int))
  (pss_one (ps_ret (pe_op op_modN (pe_op op_fdivN (pv 3) pe_int) (pv 1)))))))), ?_⟩
    walk_at "rd"
    rw [hB]
    walk_at "rd"
    refine ite2 (fun h1 => ⟨by omega, ⟨by omega, by omega⟩, ?_⟩) (fun h1 => ⟨.inl (by omega), ?_⟩)
    · refine k _ _ (Int.fmod_nonneg_of_pos _ hm) (Int.fmod_lt_of_pos _ hm) (fun b o hb e => by rw [upd_ne hb]; exact e) ⟨_, _, _, upd_same, ?_, g1, g2, g3, by omega⟩
      rw [Int.fdiv_eq_ediv_of_nonneg _ (Int.le_of_lt hm)]
      exact Int.ediv_nonneg g0 (Int.le_of_lt hm)
    · generalize hy : ((b1 + 6577 * (b2 + 1) + 1009) ^ Int.toNat 5).fmod 2147483647 = y
      have y0 : 0 ≤ y := by rw [← hy]; exact Int.fmod_nonneg_of_pos _ (by decide)
      have y1 : y < 2147483647 := by rw [← hy]; exact Int.fmod_lt_of_pos _ (by decide)
      refine ⟨⟨by decide, by decide, by omega⟩, by decide, .inl (by omega), ⟨by decide, by decide, by omega⟩, by decide, ⟨by decide, by decide⟩, by omega, ?_⟩
      refine k _ _ (Int.fmod_nonneg_of_pos _ hm) (Int.fmod_lt_of_pos _ hm) (fun b o hb e => by rw [upd_ne hb]; exact e) ⟨_, _, _, upd_same, g0, g1, g2, by omega, by omega⟩
def Keep (p : Addr) (H H' : Hp) : Prop := ∀ b o, b ≠ p → H b = some o → H' b = some o
theorem Box.same {H H' : Hp} {p : Addr} {n : Nat} (h : Box H p n) (e : Same H H') : Box H' p n := by
  obtain ⟨b0, b1, b2, h1, h2⟩ := h
  exact ⟨b0, b1, b2, e _ _ h1, h2⟩
theorem Box.more {H : Hp} {p : Addr} {n m : Nat} (h : Box H p n) (e : n ≤ m) : Box H p m := by
  obtain ⟨b0, b1, b2, h1, h2, h3, h4, h5, h6⟩ := h
  exact ⟨b0, b1, b2, h1, h2, h3, h4, h5, by omega⟩
theorem Keep.of {p : Addr} {H H' : Hp} (e : Same H H') : Keep p H H' := fun b o _ q => e b o q
theorem Keep.trans {p : Addr} {H H1 H2 : Hp} (x : Keep p H H1) (y : Keep p H1 H2) : Keep p H H2 := fun b o n q => y b o n (x b o n q)
theorem Box.ne {H : Hp} {p l : Addr} {n : Nat} (h : Box H p n) (e : H l = none) : l ≠ p := fun q => by
  obtain ⟨_, _, _, h1, _⟩ := h
  rw [q, h1] at e
  cases e
theorem Keep.same {p : Addr} {H H1 H2 : Hp} (k : Keep p H1 H2) (e : Same H H1) (h : H p = none) : Same H H2 := fun b o q => k b o (ne_of_none q h) (e b o q)
theorem Keep.refl {p : Addr} {H : Hp} : Keep p H H := fun _ _ _ q => q
theorem exv_same {H H' : Hp} {e C : Addr} {fs : Option (List (Str × V))} (h : ExV H e C fs) (s : Same H H') : ExV H' e C fs := by
  cases fs with
  | none => exact s _ _ h
  | some l =>
    obtain ⟨d, h1, h2⟩ := h
    exact ⟨d, s _ _ h1, s _ _ h2⟩
/-- an exception of one of the classes, held -/
def sp_classes (a : Ad) : Sp := fun vs H Q _ => ∃ (e C : Addr) (fs : Option (List (Str × V))), vs = [.ref e] ∧ C ∈ Cs a ∧ ExV H e C fs ∧ ∀ l H', Same H H' → H' l = some (.lst ((Cs a).map fun D => .bl (decide (C = D)))) → Q (.ref l) H'
theorem ok_classes (T : Txt K mg a) : FnOk P w K mg base CX0 1 a.f_l_classes a.d_l_classes ["_law_e"] (sp_classes a) := by
  refine T.h_l_classes.F.ok sc_l_classes (fun vs H Q E h => ?_) (fun cdv A outer s H vs Q E hr h => ?_)
  · obtain ⟨e, C, fs, rfl, _⟩ := h
    rfl
  · obtain ⟨e, C, fs, rfl, hC, hE, k⟩ := h
    refine ⟨_, (pss_cons (ps_set (i := 1) sc_l_classes.nd rfl (.inl rfl) (pe_lst (pa_cons (pe_callB Wk.call_isX (by rfl) T.z_isinstance (by decide +kernel) (pa_cons (pv 0) (pa_cons (Wk.pe_gref T.e_BadText.g) pa_nil))) (pa_cons (pe_callB Wk.call_isX (by rfl) T.z_isinstance (by decide +kernel) (pa_cons (pv 0) (pa_cons (Wk.pe_gref T.e_Twice.g) pa_nil))) (pa_cons (pe_callB Wk.call_isX (by rfl) T.z_isinstance (by decide +kernel) (pa_cons (pv 0) (pa_cons (Wk.pe_gref T.e_BadName.g) pa_nil))) (pa_cons (pe_callB Wk.call_isX (by rfl) T.z_isinstance (by decide +kernel) (pa_cons (pv 0) (pa_cons (Wk.pe_gref T.e_BadFilling.g) pa_nil))) (pa_nil)))))))
  (pss_cons (ps_set (i := 1) sc_l_classes.nd rfl (.inl rfl) (pe_op op_cat (pv 1) (pe_lst (pa_cons (pe_callB Wk.call_isX (by rfl) T.z_isinstance (by decide +kernel) (pa_cons (pv 0) (pa_cons (Wk.pe_gref T.e_BadLine.g) pa_nil))) (pa_cons (pe_callB Wk.call_isX (by rfl) T.z_isinstance (by decide +kernel) (pa_cons (pv 0) (pa_cons (Wk.pe_gref T.e_Unknown.g) pa_nil))) (pa_cons (pe_callB Wk.call_isX (by rfl) T.z_isinstance (by decide +kernel) (pa_cons (pv 0) (pa_cons (Wk.pe_gref T.e_BadMacro.g) pa_nil))) (pa_cons (pe_callB Wk.call_isX (by rfl) T.z_isinstance (by decide +kernel) (pa_cons (pv 0) (pa_cons (Wk.pe_gref T.e_BadTree.g) pa_nil))) (pa_nil))))))))
  (pss_cons (ps_set (i := 1) sc_l_classes.nd rfl (.inl rfl) (pe_op op_cat (pv 1) (pe_lst (pa_cons (pe_callB Wk.call_isX (by rfl) T.z_isinstance (by decide +kernel) (pa_cons (pv 0) (pa_cons (Wk.pe_gref T.e_BadPlace.g) pa_nil))) (pa_cons (pe_callB Wk.call_isX (by rfl) T.z_isinstance (by decide +kernel) (pa_cons (pv 0) (pa_cons (Wk.pe_gref T.e_BadKnot.g) pa_nil))) (pa_cons (pe_callB Wk.call_isX (by rfl) T.z_isinstance (by decide +kernel) (pa_cons (pv 0) (pa_cons (Wk.pe_gref T.e_BadKind.g) pa_nil))) (pa_cons (pe_callB Wk.call_isX (by rfl) T.z_isinstance (by decide +kernel) (pa_cons (pv 0) (pa_cons (Wk.pe_gref T.e_BadForm.g) pa_nil))) (pa_nil))))))))
  (pss_cons (ps_set (i := 1) sc_l_classes.nd rfl (.inl rfl) (pe_op op_cat (pv 1) (pe_lst (pa_cons (pe_callB Wk.call_isX (by rfl) T.z_isinstance (by decide +kernel) (pa_cons (pv 0) (pa_cons (Wk.pe_gref T.e_BadDeeds.g) pa_nil))) (pa_cons (pe_callB Wk.call_isX (by rfl) T.z_isinstance (by decide +kernel) (pa_cons (pv 0) (pa_cons (Wk.pe_gref T.e_BadWeight.g) pa_nil))) (pa_cons (pe_callB Wk.call_isX (by rfl) T.z_isinstance (by decide +kernel) (pa_cons (pv 0) (pa_cons (Wk.pe_gref T.e_BadUnits.g) pa_nil))) (pa_nil)))))))
  (pss_cons (ps_set (i := 1) sc_l_classes.nd rfl (.inl rfl) (pe_op op_cat (pv 1) (pe_lst (pa_cons (pe_callB Wk.call_isX (by rfl) T.z_isinstance (by decide +kernel) (pa_cons (pv 0) (pa_cons (Wk.pe_gref T.e_BadBudget.g) pa_nil))) (pa_cons (pe_callB Wk.call_isX (by rfl) T.z_isinstance (by decide +kernel) (pa_cons (pv 0) (pa_cons (Wk.pe_gref T.e_BadStep.g) pa_nil))) (pa_cons (pe_callB Wk.call_isX (by rfl) T.z_isinstance (by decide +kernel) (pa_cons (pv 0) (pa_cons (Wk.pe_gref T.e_TooMany.g) pa_nil))) (pa_cons (pe_callB Wk.call_isX (by rfl) T.z_isinstance (by decide +kernel) (pa_cons (pv 0) (pa_cons (Wk.pe_gref T.e_NoSuch.g) pa_nil))) (pa_nil))))))))
  (pss_cons (ps_set (i := 1) sc_l_classes.nd rfl (.inl rfl) (pe_op op_cat (pv 1) (pe_lst (pa_cons (pe_callB Wk.call_isX (by rfl) T.z_isinstance (by decide +kernel) (pa_cons (pv 0) (pa_cons (Wk.pe_gref T.e_ByZero.g) pa_nil))) (pa_cons (pe_callB Wk.call_isX (by rfl) T.z_isinstance (by decide +kernel) (pa_cons (pv 0) (pa_cons (Wk.pe_gref T.e_NoKind.g) pa_nil))) (pa_cons (pe_callB Wk.call_isX (by rfl) T.z_isinstance (by decide +kernel) (pa_cons (pv 0) (pa_cons (Wk.pe_gref T.e_NothingToUndo.g) pa_nil))) (pa_nil)))))))
  (pss_one (ps_ret (pe_op op_cat (pv 1) (pe_lst (pa_cons (pe_callB Wk.call_isX (by rfl) T.z_isinstance (by decide +kernel) (pa_cons (pv 0) (pa_cons (Wk.pe_gref T.e_NothingToRedo.g) pa_nil))) (pa_nil)))))))))))), ?_⟩
    walk_at "rd"
    refine isx T hC (by simp [Cs]) hE (isx T hC (by simp [Cs]) hE (isx T hC (by simp [Cs]) hE (isx T hC (by simp [Cs]) hE (⟨by decide, fun p1 n1 => ?_⟩))))
    have S1 := Same.new (o := .lst ([V.bl (decide (C = a.C_BadText)), V.bl (decide (C = a.C_Twice)), V.bl (decide (C = a.C_BadName)), V.bl (decide (C = a.C_BadFilling))])) n1
    have E1 := exv_same hE S1
    refine isx T hC (by simp [Cs]) E1 (isx T hC (by simp [Cs]) E1 (isx T hC (by simp [Cs]) E1 (isx T hC (by simp [Cs]) E1 (⟨by decide, fun p2 n2 => ⟨_, Same.new n2 _ _ upd_same, sz_of (by simp), fun p3 n3 => ?_⟩⟩))))
    have S3 := (S1.trans (Same.new (o := .lst ([V.bl (decide (C = a.C_BadLine)), V.bl (decide (C = a.C_Unknown)), V.bl (decide (C = a.C_BadMacro)), V.bl (decide (C = a.C_BadTree))])) n2)).trans (Same.new (o := .lst ([V.bl (decide (C = a.C_BadText)), V.bl (decide (C = a.C_Twice)), V.bl (decide (C = a.C_BadName)), V.bl (decide (C = a.C_BadFilling))] ++ [V.bl (decide (C = a.C_BadLine)), V.bl (decide (C = a.C_Unknown)), V.bl (decide (C = a.C_BadMacro)), V.bl (decide (C = a.C_BadTree))])) n3)
    have E3 := exv_same hE S3
    refine isx T hC (by simp [Cs]) E3 (isx T hC (by simp [Cs]) E3 (isx T hC (by simp [Cs]) E3 (isx T hC (by simp [Cs]) E3 (⟨by decide, fun p4 n4 => ⟨_, Same.new n4 _ _ upd_same, sz_of (by simp), fun p5 n5 => ?_⟩⟩))))
    have S5 := (S3.trans (Same.new (o := .lst ([V.bl (decide (C = a.C_BadPlace)), V.bl (decide (C = a.C_BadKnot)), V.bl (decide (C = a.C_BadKind)), V.bl (decide (C = a.C_BadForm))])) n4)).trans (Same.new (o := .lst (([V.bl (decide (C = a.C_BadText)), V.bl (decide (C = a.C_Twice)), V.bl (decide (C = a.C_BadName)), V.bl (decide (C = a.C_BadFilling))] ++ [V.bl (decide (C = a.C_BadLine)), V.bl (decide (C = a.C_Unknown)), V.bl (decide (C = a.C_BadMacro)), V.bl (decide (C = a.C_BadTree))]) ++ [V.bl (decide (C = a.C_BadPlace)), V.bl (decide (C = a.C_BadKnot)), V.bl (decide (C = a.C_BadKind)), V.bl (decide (C = a.C_BadForm))])) n5)
    have E5 := exv_same hE S5
    refine isx T hC (by simp [Cs]) E5 (isx T hC (by simp [Cs]) E5 (isx T hC (by simp [Cs]) E5 (⟨by decide, fun p6 n6 => ⟨_, Same.new n6 _ _ upd_same, sz_of (by simp), fun p7 n7 => ?_⟩⟩)))
    have S7 := (S5.trans (Same.new (o := .lst ([V.bl (decide (C = a.C_BadDeeds)), V.bl (decide (C = a.C_BadWeight)), V.bl (decide (C = a.C_BadUnits))])) n6)).trans (Same.new (o := .lst ((([V.bl (decide (C = a.C_BadText)), V.bl (decide (C = a.C_Twice)), V.bl (decide (C = a.C_BadName)), V.bl (decide (C = a.C_BadFilling))] ++ [V.bl (decide (C = a.C_BadLine)), V.bl (decide (C = a.C_Unknown)), V.bl (decide (C = a.C_BadMacro)), V.bl (decide (C = a.C_BadTree))]) ++ [V.bl (decide (C = a.C_BadPlace)), V.bl (decide (C = a.C_BadKnot)), V.bl (decide (C = a.C_BadKind)), V.bl (decide (C = a.C_BadForm))]) ++ [V.bl (decide (C = a.C_BadDeeds)), V.bl (decide (C = a.C_BadWeight)), V.bl (decide (C = a.C_BadUnits))])) n7)
    have E7 := exv_same hE S7
    refine isx T hC (by simp [Cs]) E7 (isx T hC (by simp [Cs]) E7 (isx T hC (by simp [Cs]) E7 (isx T hC (by simp [Cs]) E7 (⟨by decide, fun p8 n8 => ⟨_, Same.new n8 _ _ upd_same, sz_of (by simp), fun p9 n9 => ?_⟩⟩))))
    have S9 := (S7.trans (Same.new (o := .lst ([V.bl (decide (C = a.C_BadBudget)), V.bl (decide (C = a.C_BadStep)), V.bl (decide (C = a.C_TooMany)), V.bl (decide (C = a.C_NoSuch))])) n8)).trans (Same.new (o := .lst (((([V.bl (decide (C = a.C_BadText)), V.bl (decide (C = a.C_Twice)), V.bl (decide (C = a.C_BadName)), V.bl (decide (C = a.C_BadFilling))] ++ [V.bl (decide (C = a.C_BadLine)), V.bl (decide (C = a.C_Unknown)), V.bl (decide (C = a.C_BadMacro)), V.bl (decide (C = a.C_BadTree))]) ++ [V.bl (decide (C = a.C_BadPlace)), V.bl (decide (C = a.C_BadKnot)), V.bl (decide (C = a.C_BadKind)), V.bl (decide (C = a.C_BadForm))]) ++ [V.bl (decide (C = a.C_BadDeeds)), V.bl (decide (C = a.C_BadWeight)), V.bl (decide (C = a.C_BadUnits))]) ++ [V.bl (decide (C = a.C_BadBudget)), V.bl (decide (C = a.C_BadStep)), V.bl (decide (C = a.C_TooMany)), V.bl (decide (C = a.C_NoSuch))])) n9)
    have E9 := exv_same hE S9
    refine isx T hC (by simp [Cs]) E9 (isx T hC (by simp [Cs]) E9 (isx T hC (by simp [Cs]) E9 (⟨by decide, fun p10 n10 => ⟨_, Same.new n10 _ _ upd_same, sz_of (by simp), fun p11 n11 => ?_⟩⟩)))
    have S11 := (S9.trans (Same.new (o := .lst ([V.bl (decide (C = a.C_ByZero)), V.bl (decide (C = a.C_NoKind)), V.bl (decide (C = a.C_NothingToUndo))])) n10)).trans (Same.new (o := .lst ((((([V.bl (decide (C = a.C_BadText)), V.bl (decide (C = a.C_Twice)), V.bl (decide (C = a.C_BadName)), V.bl (decide (C = a.C_BadFilling))] ++ [V.bl (decide (C = a.C_BadLine)), V.bl (decide (C = a.C_Unknown)), V.bl (decide (C = a.C_BadMacro)), V.bl (decide (C = a.C_BadTree))]) ++ [V.bl (decide (C = a.C_BadPlace)), V.bl (decide (C = a.C_BadKnot)), V.bl (decide (C = a.C_BadKind)), V.bl (decide (C = a.C_BadForm))]) ++ [V.bl (decide (C = a.C_BadDeeds)), V.bl (decide (C = a.C_BadWeight)), V.bl (decide (C = a.C_BadUnits))]) ++ [V.bl (decide (C = a.C_BadBudget)), V.bl (decide (C = a.C_BadStep)), V.bl (decide (C = a.C_TooMany)), V.bl (decide (C = a.C_NoSuch))]) ++ [V.bl (decide (C = a.C_ByZero)), V.bl (decide (C = a.C_NoKind)), V.bl (decide (C = a.C_NothingToUndo))])) n11)
    have E11 := exv_same hE S11
    refine isx T hC (by simp [Cs]) E11 (⟨by decide, fun p12 n12 => ⟨_, Same.new n12 _ _ upd_same, sz_of (by simp), fun p13 n13 => ?_⟩⟩)
    have S13 := (S11.trans (Same.new (o := .lst ([V.bl (decide (C = a.C_NothingToRedo))])) n12)).trans (Same.new (o := .lst (((((([V.bl (decide (C = a.C_BadText)), V.bl (decide (C = a.C_Twice)), V.bl (decide (C = a.C_BadName)), V.bl (decide (C = a.C_BadFilling))] ++ [V.bl (decide (C = a.C_BadLine)), V.bl (decide (C = a.C_Unknown)), V.bl (decide (C = a.C_BadMacro)), V.bl (decide (C = a.C_BadTree))]) ++ [V.bl (decide (C = a.C_BadPlace)), V.bl (decide (C = a.C_BadKnot)), V.bl (decide (C = a.C_BadKind)), V.bl (decide (C = a.C_BadForm))]) ++ [V.bl (decide (C = a.C_BadDeeds)), V.bl (decide (C = a.C_BadWeight)), V.bl (decide (C = a.C_BadUnits))]) ++ [V.bl (decide (C = a.C_BadBudget)), V.bl (decide (C = a.C_BadStep)), V.bl (decide (C = a.C_TooMany)), V.bl (decide (C = a.C_NoSuch))]) ++ [V.bl (decide (C = a.C_ByZero)), V.bl (decide (C = a.C_NoKind)), V.bl (decide (C = a.C_NothingToUndo))]) ++ [V.bl (decide (C = a.C_NothingToRedo))])) n13)
    have E13 := exv_same hE S13
    exact k _ _ S13 upd_same
/-- data whose text is told -/
def Sho (d : PyData) : Prop := d.showable = true ∧ d.shown.length ≤ 100000 ∧ d.depth ≤ 60
def sp_same (K : PySem.W.Frag) : Sp := fun vs H Q _ => ∃ (x y : V) (d : PyData), vs = [x, y] ∧ DQ K H x d ∧ DQ K H y d ∧ Sho d ∧ Q (.bl true) H
theorem ok_same (T : Txt K mg a) : FnG P w K mg base CX0 1 a.f_l_same a.d_l_same ["_law_one", "_law_other"] (sp_same K) := by
  refine okG T.h_l_same.F sc_l_same (fun vs H Q E h => ?_) (fun cdv A outer s H vs Q E hr hgd h => ?_)
  · obtain ⟨x, y, d, rfl, _⟩ := h
    rfl
  · obtain ⟨x, y, d, rfl, hx, hy, ⟨h1, h2, h3⟩, k⟩ := h
    refine ⟨_, (pss_one (ps_ret (pe_cmpR op_eq (pe_callB (Wk.call_reprQ hgd hr.units) (by rfl) T.z_repr (by decide +kernel) (pa_cons (pv 0) (pa_nil))) (pe_callB (Wk.call_reprQ hgd hr.units) (by rfl) T.z_repr (by decide +kernel) (pa_cons (pv 1) (pa_nil))) (nomark _)))), ?_⟩
    walk_at "rd"
    refine ⟨x, d, rfl, hx, h1, sz_of h2, h3, y, d, rfl, hy, h1, sz_of h2, h3, ?_⟩
    try walk_at "rd"
    rw [decide_eq_true trivial]
    exact k
def fieldOf : List Str := ["at", "name", "name", "name", "number", "name", "name", "given", "given", "given", "given", "number", "given", "given", "given", "given", "given", "count", "name"]
def sp_field (a : Ad) : Sp := fun vs H Q _ => ∃ (e C : Addr) (i : Nat) (f : Str) (v : V), vs = [.int (i : Int), .ref e] ∧ (Cs a)[i]? = some C ∧ fieldOf[i]? = some f ∧ ExV H e C (some [(f, v)]) ∧ ∀ H', Same H H' → Q v H'
theorem ok_field (T : Txt K mg a) : FnOk P w K mg base CX0 1 a.f_l_field a.d_l_field ["_law_way", "_law_e"] (sp_field a) := by
  refine T.h_l_field.F.ok sc_l_field (fun vs H Q E h => ?_) (fun cdv A outer s H vs Q E hr h => ?_)
  · obtain ⟨e, C, i, f, v, rfl, _⟩ := h
    rfl
  · obtain ⟨e, C, i, f, v, rfl, hC, hf, hE, k⟩ := h
    refine ⟨_, (pss_cons (ps_if (pt_cmpR op_in_seq (pv 0) (pe_lst (pa_cons pe_int (pa_nil))) rfl) (pss_one (ps_ret (Wk.pe_xfV (pv 1) rfl))) pss_nil)
  (pss_cons (ps_if (pt_cmpR op_in_seq (pv 0) (pe_lst (pa_cons pe_int (pa_cons pe_int (pa_cons pe_int (pa_cons pe_int (pa_cons pe_int (pa_cons pe_int (pa_nil)))))))) rfl) (pss_one (ps_ret (Wk.pe_xfV (pv 1) rfl))) pss_nil)
  (pss_cons (ps_if (pt_cmpR op_in_seq (pv 0) (pe_lst (pa_cons pe_int (pa_cons pe_int (pa_nil)))) rfl) (pss_one (ps_ret (Wk.pe_xfV (pv 1) rfl))) pss_nil)
  (pss_cons (ps_if (pt_cmpR op_in_seq (pv 0) (pe_lst (pa_cons pe_int (pa_cons pe_int (pa_cons pe_int (pa_cons pe_int (pa_cons pe_int (pa_cons pe_int (pa_cons pe_int (pa_cons pe_int (pa_cons pe_int (pa_nil))))))))))) rfl) (pss_one (ps_ret (Wk.pe_xfV (pv 1) rfl))) pss_nil)
  (pss_one (ps_ret (Wk.pe_xfV (pv 1) rfl))))))), ?_⟩
    walk_at "rd"
    have hi : i < 19 := by
      obtain ⟨h, _⟩ := List.getElem?_eq_some_iff.mp hf
      exact h
    have hi' : i = 0 ∨ i = 1 ∨ i = 2 ∨ i = 3 ∨ i = 4 ∨ i = 5 ∨ i = 6 ∨ i = 7 ∨ i = 8 ∨ i = 9 ∨ i = 10 ∨ i = 11 ∨ i = 12 ∨ i = 13 ∨ i = 14 ∨ i = 15 ∨ i = 16 ∨ i = 17 ∨ i = 18 := by omega
    rcases hi' with rfl | rfl | rfl | rfl | rfl | rfl | rfl | rfl | rfl | rfl | rfl | rfl | rfl | rfl | rfl | rfl | rfl | rfl | rfl
    · obtain rfl : a.C_BadText = C := Option.some.inj hC
      obtain rfl : ("at" : Str) = f := Option.some.inj hf
      refine ⟨by decide, fun p0 n0 => rin_l (SqL.of upd_same) rfl (by decide) ⟨_, rfl, ?_⟩⟩
      rw [if_pos (by decide)]
      have S0 := Same.new (o := .lst [V.int 0]) n0
      exact ⟨_, _, exv_same hE S0, (xcf T _ (by simp [Cs])).x, T.n_BadText_at, _, by simp [List.lookup], k _ S0⟩
    · obtain rfl : a.C_Twice = C := Option.some.inj hC
      obtain rfl : ("name" : Str) = f := Option.some.inj hf
      refine ⟨by decide, fun p0 n0 => rin_l (SqL.of upd_same) rfl (by decide) ⟨_, rfl, ?_⟩⟩
      rw [if_neg (by decide)]
      have S0 := Same.new (o := .lst [V.int 0]) n0
      refine ⟨by decide, fun p1 n1 => rin_l (SqL.of upd_same) rfl (by decide) ⟨_, rfl, ?_⟩⟩
      rw [if_pos (by decide)]
      have S1 := S0.trans (Same.new (o := .lst [V.int 1, V.int 2, V.int 3, V.int 5, V.int 6, V.int 18]) n1)
      exact ⟨_, _, exv_same hE S1, (xcf T _ (by simp [Cs])).x, T.n_Twice_name, _, by simp [List.lookup], k _ S1⟩
    · obtain rfl : a.C_BadName = C := Option.some.inj hC
      obtain rfl : ("name" : Str) = f := Option.some.inj hf
      refine ⟨by decide, fun p0 n0 => rin_l (SqL.of upd_same) rfl (by decide) ⟨_, rfl, ?_⟩⟩
      rw [if_neg (by decide)]
      have S0 := Same.new (o := .lst [V.int 0]) n0
      refine ⟨by decide, fun p1 n1 => rin_l (SqL.of upd_same) rfl (by decide) ⟨_, rfl, ?_⟩⟩
      rw [if_pos (by decide)]
      have S1 := S0.trans (Same.new (o := .lst [V.int 1, V.int 2, V.int 3, V.int 5, V.int 6, V.int 18]) n1)
      exact ⟨_, _, exv_same hE S1, (xcf T _ (by simp [Cs])).x, T.n_BadName_name, _, by simp [List.lookup], k _ S1⟩
    · obtain rfl : a.C_BadFilling = C := Option.some.inj hC
      obtain rfl : ("name" : Str) = f := Option.some.inj hf
      refine ⟨by decide, fun p0 n0 => rin_l (SqL.of upd_same) rfl (by decide) ⟨_, rfl, ?_⟩⟩
      rw [if_neg (by decide)]
      have S0 := Same.new (o := .lst [V.int 0]) n0
      refine ⟨by decide, fun p1 n1 => rin_l (SqL.of upd_same) rfl (by decide) ⟨_, rfl, ?_⟩⟩
      rw [if_pos (by decide)]
      have S1 := S0.trans (Same.new (o := .lst [V.int 1, V.int 2, V.int 3, V.int 5, V.int 6, V.int 18]) n1)
      exact ⟨_, _, exv_same hE S1, (xcf T _ (by simp [Cs])).x, T.n_BadFilling_name, _, by simp [List.lookup], k _ S1⟩
    · obtain rfl : a.C_BadLine = C := Option.some.inj hC
      obtain rfl : ("number" : Str) = f := Option.some.inj hf
      refine ⟨by decide, fun p0 n0 => rin_l (SqL.of upd_same) rfl (by decide) ⟨_, rfl, ?_⟩⟩
      rw [if_neg (by decide)]
      have S0 := Same.new (o := .lst [V.int 0]) n0
      refine ⟨by decide, fun p1 n1 => rin_l (SqL.of upd_same) rfl (by decide) ⟨_, rfl, ?_⟩⟩
      rw [if_neg (by decide)]
      have S1 := S0.trans (Same.new (o := .lst [V.int 1, V.int 2, V.int 3, V.int 5, V.int 6, V.int 18]) n1)
      refine ⟨by decide, fun p2 n2 => rin_l (SqL.of upd_same) rfl (by decide) ⟨_, rfl, ?_⟩⟩
      rw [if_pos (by decide)]
      have S2 := S1.trans (Same.new (o := .lst [V.int 4, V.int 11]) n2)
      exact ⟨_, _, exv_same hE S2, (xcf T _ (by simp [Cs])).x, T.n_BadLine_number, _, by simp [List.lookup], k _ S2⟩
    · obtain rfl : a.C_Unknown = C := Option.some.inj hC
      obtain rfl : ("name" : Str) = f := Option.some.inj hf
      refine ⟨by decide, fun p0 n0 => rin_l (SqL.of upd_same) rfl (by decide) ⟨_, rfl, ?_⟩⟩
      rw [if_neg (by decide)]
      have S0 := Same.new (o := .lst [V.int 0]) n0
      refine ⟨by decide, fun p1 n1 => rin_l (SqL.of upd_same) rfl (by decide) ⟨_, rfl, ?_⟩⟩
      rw [if_pos (by decide)]
      have S1 := S0.trans (Same.new (o := .lst [V.int 1, V.int 2, V.int 3, V.int 5, V.int 6, V.int 18]) n1)
      exact ⟨_, _, exv_same hE S1, (xcf T _ (by simp [Cs])).x, T.n_Unknown_name, _, by simp [List.lookup], k _ S1⟩
    · obtain rfl : a.C_BadMacro = C := Option.some.inj hC
      obtain rfl : ("name" : Str) = f := Option.some.inj hf
      refine ⟨by decide, fun p0 n0 => rin_l (SqL.of upd_same) rfl (by decide) ⟨_, rfl, ?_⟩⟩
      rw [if_neg (by decide)]
      have S0 := Same.new (o := .lst [V.int 0]) n0
      refine ⟨by decide, fun p1 n1 => rin_l (SqL.of upd_same) rfl (by decide) ⟨_, rfl, ?_⟩⟩
      rw [if_pos (by decide)]
      have S1 := S0.trans (Same.new (o := .lst [V.int 1, V.int 2, V.int 3, V.int 5, V.int 6, V.int 18]) n1)
      exact ⟨_, _, exv_same hE S1, (xcf T _ (by simp [Cs])).x, T.n_BadMacro_name, _, by simp [List.lookup], k _ S1⟩
    · obtain rfl : a.C_BadTree = C := Option.some.inj hC
      obtain rfl : ("given" : Str) = f := Option.some.inj hf
      refine ⟨by decide, fun p0 n0 => rin_l (SqL.of upd_same) rfl (by decide) ⟨_, rfl, ?_⟩⟩
      rw [if_neg (by decide)]
      have S0 := Same.new (o := .lst [V.int 0]) n0
      refine ⟨by decide, fun p1 n1 => rin_l (SqL.of upd_same) rfl (by decide) ⟨_, rfl, ?_⟩⟩
      rw [if_neg (by decide)]
      have S1 := S0.trans (Same.new (o := .lst [V.int 1, V.int 2, V.int 3, V.int 5, V.int 6, V.int 18]) n1)
      refine ⟨by decide, fun p2 n2 => rin_l (SqL.of upd_same) rfl (by decide) ⟨_, rfl, ?_⟩⟩
      rw [if_neg (by decide)]
      have S2 := S1.trans (Same.new (o := .lst [V.int 4, V.int 11]) n2)
      refine ⟨by decide, fun p3 n3 => rin_l (SqL.of upd_same) rfl (by decide) ⟨_, rfl, ?_⟩⟩
      rw [if_pos (by decide)]
      have S3 := S2.trans (Same.new (o := .lst [V.int 7, V.int 8, V.int 9, V.int 10, V.int 12, V.int 13, V.int 14, V.int 15, V.int 16]) n3)
      exact ⟨_, _, exv_same hE S3, (xcf T _ (by simp [Cs])).x, T.n_BadTree_given, _, by simp [List.lookup], k _ S3⟩
    · obtain rfl : a.C_BadPlace = C := Option.some.inj hC
      obtain rfl : ("given" : Str) = f := Option.some.inj hf
      refine ⟨by decide, fun p0 n0 => rin_l (SqL.of upd_same) rfl (by decide) ⟨_, rfl, ?_⟩⟩
      rw [if_neg (by decide)]
      have S0 := Same.new (o := .lst [V.int 0]) n0
      refine ⟨by decide, fun p1 n1 => rin_l (SqL.of upd_same) rfl (by decide) ⟨_, rfl, ?_⟩⟩
      rw [if_neg (by decide)]
      have S1 := S0.trans (Same.new (o := .lst [V.int 1, V.int 2, V.int 3, V.int 5, V.int 6, V.int 18]) n1)
      refine ⟨by decide, fun p2 n2 => rin_l (SqL.of upd_same) rfl (by decide) ⟨_, rfl, ?_⟩⟩
      rw [if_neg (by decide)]
      have S2 := S1.trans (Same.new (o := .lst [V.int 4, V.int 11]) n2)
      refine ⟨by decide, fun p3 n3 => rin_l (SqL.of upd_same) rfl (by decide) ⟨_, rfl, ?_⟩⟩
      rw [if_pos (by decide)]
      have S3 := S2.trans (Same.new (o := .lst [V.int 7, V.int 8, V.int 9, V.int 10, V.int 12, V.int 13, V.int 14, V.int 15, V.int 16]) n3)
      exact ⟨_, _, exv_same hE S3, (xcf T _ (by simp [Cs])).x, T.n_BadPlace_given, _, by simp [List.lookup], k _ S3⟩
    · obtain rfl : a.C_BadKnot = C := Option.some.inj hC
      obtain rfl : ("given" : Str) = f := Option.some.inj hf
      refine ⟨by decide, fun p0 n0 => rin_l (SqL.of upd_same) rfl (by decide) ⟨_, rfl, ?_⟩⟩
      rw [if_neg (by decide)]
      have S0 := Same.new (o := .lst [V.int 0]) n0
      refine ⟨by decide, fun p1 n1 => rin_l (SqL.of upd_same) rfl (by decide) ⟨_, rfl, ?_⟩⟩
      rw [if_neg (by decide)]
      have S1 := S0.trans (Same.new (o := .lst [V.int 1, V.int 2, V.int 3, V.int 5, V.int 6, V.int 18]) n1)
      refine ⟨by decide, fun p2 n2 => rin_l (SqL.of upd_same) rfl (by decide) ⟨_, rfl, ?_⟩⟩
      rw [if_neg (by decide)]
      have S2 := S1.trans (Same.new (o := .lst [V.int 4, V.int 11]) n2)
      refine ⟨by decide, fun p3 n3 => rin_l (SqL.of upd_same) rfl (by decide) ⟨_, rfl, ?_⟩⟩
      rw [if_pos (by decide)]
      have S3 := S2.trans (Same.new (o := .lst [V.int 7, V.int 8, V.int 9, V.int 10, V.int 12, V.int 13, V.int 14, V.int 15, V.int 16]) n3)
      exact ⟨_, _, exv_same hE S3, (xcf T _ (by simp [Cs])).x, T.n_BadKnot_given, _, by simp [List.lookup], k _ S3⟩
    · obtain rfl : a.C_BadKind = C := Option.some.inj hC
      obtain rfl : ("given" : Str) = f := Option.some.inj hf
      refine ⟨by decide, fun p0 n0 => rin_l (SqL.of upd_same) rfl (by decide) ⟨_, rfl, ?_⟩⟩
      rw [if_neg (by decide)]
      have S0 := Same.new (o := .lst [V.int 0]) n0
      refine ⟨by decide, fun p1 n1 => rin_l (SqL.of upd_same) rfl (by decide) ⟨_, rfl, ?_⟩⟩
      rw [if_neg (by decide)]
      have S1 := S0.trans (Same.new (o := .lst [V.int 1, V.int 2, V.int 3, V.int 5, V.int 6, V.int 18]) n1)
      refine ⟨by decide, fun p2 n2 => rin_l (SqL.of upd_same) rfl (by decide) ⟨_, rfl, ?_⟩⟩
      rw [if_neg (by decide)]
      have S2 := S1.trans (Same.new (o := .lst [V.int 4, V.int 11]) n2)
      refine ⟨by decide, fun p3 n3 => rin_l (SqL.of upd_same) rfl (by decide) ⟨_, rfl, ?_⟩⟩
      rw [if_pos (by decide)]
      have S3 := S2.trans (Same.new (o := .lst [V.int 7, V.int 8, V.int 9, V.int 10, V.int 12, V.int 13, V.int 14, V.int 15, V.int 16]) n3)
      exact ⟨_, _, exv_same hE S3, (xcf T _ (by simp [Cs])).x, T.n_BadKind_given, _, by simp [List.lookup], k _ S3⟩
    · obtain rfl : a.C_BadForm = C := Option.some.inj hC
      obtain rfl : ("number" : Str) = f := Option.some.inj hf
      refine ⟨by decide, fun p0 n0 => rin_l (SqL.of upd_same) rfl (by decide) ⟨_, rfl, ?_⟩⟩
      rw [if_neg (by decide)]
      have S0 := Same.new (o := .lst [V.int 0]) n0
      refine ⟨by decide, fun p1 n1 => rin_l (SqL.of upd_same) rfl (by decide) ⟨_, rfl, ?_⟩⟩
      rw [if_neg (by decide)]
      have S1 := S0.trans (Same.new (o := .lst [V.int 1, V.int 2, V.int 3, V.int 5, V.int 6, V.int 18]) n1)
      refine ⟨by decide, fun p2 n2 => rin_l (SqL.of upd_same) rfl (by decide) ⟨_, rfl, ?_⟩⟩
      rw [if_pos (by decide)]
      have S2 := S1.trans (Same.new (o := .lst [V.int 4, V.int 11]) n2)
      exact ⟨_, _, exv_same hE S2, (xcf T _ (by simp [Cs])).x, T.n_BadForm_number, _, by simp [List.lookup], k _ S2⟩
    · obtain rfl : a.C_BadDeeds = C := Option.some.inj hC
      obtain rfl : ("given" : Str) = f := Option.some.inj hf
      refine ⟨by decide, fun p0 n0 => rin_l (SqL.of upd_same) rfl (by decide) ⟨_, rfl, ?_⟩⟩
      rw [if_neg (by decide)]
      have S0 := Same.new (o := .lst [V.int 0]) n0
      refine ⟨by decide, fun p1 n1 => rin_l (SqL.of upd_same) rfl (by decide) ⟨_, rfl, ?_⟩⟩
      rw [if_neg (by decide)]
      have S1 := S0.trans (Same.new (o := .lst [V.int 1, V.int 2, V.int 3, V.int 5, V.int 6, V.int 18]) n1)
      refine ⟨by decide, fun p2 n2 => rin_l (SqL.of upd_same) rfl (by decide) ⟨_, rfl, ?_⟩⟩
      rw [if_neg (by decide)]
      have S2 := S1.trans (Same.new (o := .lst [V.int 4, V.int 11]) n2)
      refine ⟨by decide, fun p3 n3 => rin_l (SqL.of upd_same) rfl (by decide) ⟨_, rfl, ?_⟩⟩
      rw [if_pos (by decide)]
      have S3 := S2.trans (Same.new (o := .lst [V.int 7, V.int 8, V.int 9, V.int 10, V.int 12, V.int 13, V.int 14, V.int 15, V.int 16]) n3)
      exact ⟨_, _, exv_same hE S3, (xcf T _ (by simp [Cs])).x, T.n_BadDeeds_given, _, by simp [List.lookup], k _ S3⟩
    · obtain rfl : a.C_BadWeight = C := Option.some.inj hC
      obtain rfl : ("given" : Str) = f := Option.some.inj hf
      refine ⟨by decide, fun p0 n0 => rin_l (SqL.of upd_same) rfl (by decide) ⟨_, rfl, ?_⟩⟩
      rw [if_neg (by decide)]
      have S0 := Same.new (o := .lst [V.int 0]) n0
      refine ⟨by decide, fun p1 n1 => rin_l (SqL.of upd_same) rfl (by decide) ⟨_, rfl, ?_⟩⟩
      rw [if_neg (by decide)]
      have S1 := S0.trans (Same.new (o := .lst [V.int 1, V.int 2, V.int 3, V.int 5, V.int 6, V.int 18]) n1)
      refine ⟨by decide, fun p2 n2 => rin_l (SqL.of upd_same) rfl (by decide) ⟨_, rfl, ?_⟩⟩
      rw [if_neg (by decide)]
      have S2 := S1.trans (Same.new (o := .lst [V.int 4, V.int 11]) n2)
      refine ⟨by decide, fun p3 n3 => rin_l (SqL.of upd_same) rfl (by decide) ⟨_, rfl, ?_⟩⟩
      rw [if_pos (by decide)]
      have S3 := S2.trans (Same.new (o := .lst [V.int 7, V.int 8, V.int 9, V.int 10, V.int 12, V.int 13, V.int 14, V.int 15, V.int 16]) n3)
      exact ⟨_, _, exv_same hE S3, (xcf T _ (by simp [Cs])).x, T.n_BadWeight_given, _, by simp [List.lookup], k _ S3⟩
    · obtain rfl : a.C_BadUnits = C := Option.some.inj hC
      obtain rfl : ("given" : Str) = f := Option.some.inj hf
      refine ⟨by decide, fun p0 n0 => rin_l (SqL.of upd_same) rfl (by decide) ⟨_, rfl, ?_⟩⟩
      rw [if_neg (by decide)]
      have S0 := Same.new (o := .lst [V.int 0]) n0
      refine ⟨by decide, fun p1 n1 => rin_l (SqL.of upd_same) rfl (by decide) ⟨_, rfl, ?_⟩⟩
      rw [if_neg (by decide)]
      have S1 := S0.trans (Same.new (o := .lst [V.int 1, V.int 2, V.int 3, V.int 5, V.int 6, V.int 18]) n1)
      refine ⟨by decide, fun p2 n2 => rin_l (SqL.of upd_same) rfl (by decide) ⟨_, rfl, ?_⟩⟩
      rw [if_neg (by decide)]
      have S2 := S1.trans (Same.new (o := .lst [V.int 4, V.int 11]) n2)
      refine ⟨by decide, fun p3 n3 => rin_l (SqL.of upd_same) rfl (by decide) ⟨_, rfl, ?_⟩⟩
      rw [if_pos (by decide)]
      have S3 := S2.trans (Same.new (o := .lst [V.int 7, V.int 8, V.int 9, V.int 10, V.int 12, V.int 13, V.int 14, V.int 15, V.int 16]) n3)
      exact ⟨_, _, exv_same hE S3, (xcf T _ (by simp [Cs])).x, T.n_BadUnits_given, _, by simp [List.lookup], k _ S3⟩
    · obtain rfl : a.C_BadBudget = C := Option.some.inj hC
      obtain rfl : ("given" : Str) = f := Option.some.inj hf
      refine ⟨by decide, fun p0 n0 => rin_l (SqL.of upd_same) rfl (by decide) ⟨_, rfl, ?_⟩⟩
      rw [if_neg (by decide)]
      have S0 := Same.new (o := .lst [V.int 0]) n0
      refine ⟨by decide, fun p1 n1 => rin_l (SqL.of upd_same) rfl (by decide) ⟨_, rfl, ?_⟩⟩
      rw [if_neg (by decide)]
      have S1 := S0.trans (Same.new (o := .lst [V.int 1, V.int 2, V.int 3, V.int 5, V.int 6, V.int 18]) n1)
      refine ⟨by decide, fun p2 n2 => rin_l (SqL.of upd_same) rfl (by decide) ⟨_, rfl, ?_⟩⟩
      rw [if_neg (by decide)]
      have S2 := S1.trans (Same.new (o := .lst [V.int 4, V.int 11]) n2)
      refine ⟨by decide, fun p3 n3 => rin_l (SqL.of upd_same) rfl (by decide) ⟨_, rfl, ?_⟩⟩
      rw [if_pos (by decide)]
      have S3 := S2.trans (Same.new (o := .lst [V.int 7, V.int 8, V.int 9, V.int 10, V.int 12, V.int 13, V.int 14, V.int 15, V.int 16]) n3)
      exact ⟨_, _, exv_same hE S3, (xcf T _ (by simp [Cs])).x, T.n_BadBudget_given, _, by simp [List.lookup], k _ S3⟩
    · obtain rfl : a.C_BadStep = C := Option.some.inj hC
      obtain rfl : ("given" : Str) = f := Option.some.inj hf
      refine ⟨by decide, fun p0 n0 => rin_l (SqL.of upd_same) rfl (by decide) ⟨_, rfl, ?_⟩⟩
      rw [if_neg (by decide)]
      have S0 := Same.new (o := .lst [V.int 0]) n0
      refine ⟨by decide, fun p1 n1 => rin_l (SqL.of upd_same) rfl (by decide) ⟨_, rfl, ?_⟩⟩
      rw [if_neg (by decide)]
      have S1 := S0.trans (Same.new (o := .lst [V.int 1, V.int 2, V.int 3, V.int 5, V.int 6, V.int 18]) n1)
      refine ⟨by decide, fun p2 n2 => rin_l (SqL.of upd_same) rfl (by decide) ⟨_, rfl, ?_⟩⟩
      rw [if_neg (by decide)]
      have S2 := S1.trans (Same.new (o := .lst [V.int 4, V.int 11]) n2)
      refine ⟨by decide, fun p3 n3 => rin_l (SqL.of upd_same) rfl (by decide) ⟨_, rfl, ?_⟩⟩
      rw [if_pos (by decide)]
      have S3 := S2.trans (Same.new (o := .lst [V.int 7, V.int 8, V.int 9, V.int 10, V.int 12, V.int 13, V.int 14, V.int 15, V.int 16]) n3)
      exact ⟨_, _, exv_same hE S3, (xcf T _ (by simp [Cs])).x, T.n_BadStep_given, _, by simp [List.lookup], k _ S3⟩
    · obtain rfl : a.C_TooMany = C := Option.some.inj hC
      obtain rfl : ("count" : Str) = f := Option.some.inj hf
      refine ⟨by decide, fun p0 n0 => rin_l (SqL.of upd_same) rfl (by decide) ⟨_, rfl, ?_⟩⟩
      rw [if_neg (by decide)]
      have S0 := Same.new (o := .lst [V.int 0]) n0
      refine ⟨by decide, fun p1 n1 => rin_l (SqL.of upd_same) rfl (by decide) ⟨_, rfl, ?_⟩⟩
      rw [if_neg (by decide)]
      have S1 := S0.trans (Same.new (o := .lst [V.int 1, V.int 2, V.int 3, V.int 5, V.int 6, V.int 18]) n1)
      refine ⟨by decide, fun p2 n2 => rin_l (SqL.of upd_same) rfl (by decide) ⟨_, rfl, ?_⟩⟩
      rw [if_neg (by decide)]
      have S2 := S1.trans (Same.new (o := .lst [V.int 4, V.int 11]) n2)
      refine ⟨by decide, fun p3 n3 => rin_l (SqL.of upd_same) rfl (by decide) ⟨_, rfl, ?_⟩⟩
      rw [if_neg (by decide)]
      have S3 := S2.trans (Same.new (o := .lst [V.int 7, V.int 8, V.int 9, V.int 10, V.int 12, V.int 13, V.int 14, V.int 15, V.int 16]) n3)
      exact ⟨_, _, exv_same hE S3, (xcf T _ (by simp [Cs])).x, T.n_TooMany_count, _, by simp [List.lookup], k _ S3⟩
    · obtain rfl : a.C_NoSuch = C := Option.some.inj hC
      obtain rfl : ("name" : Str) = f := Option.some.inj hf
      refine ⟨by decide, fun p0 n0 => rin_l (SqL.of upd_same) rfl (by decide) ⟨_, rfl, ?_⟩⟩
      rw [if_neg (by decide)]
      have S0 := Same.new (o := .lst [V.int 0]) n0
      refine ⟨by decide, fun p1 n1 => rin_l (SqL.of upd_same) rfl (by decide) ⟨_, rfl, ?_⟩⟩
      rw [if_pos (by decide)]
      have S1 := S0.trans (Same.new (o := .lst [V.int 1, V.int 2, V.int 3, V.int 5, V.int 6, V.int 18]) n1)
      exact ⟨_, _, exv_same hE S1, (xcf T _ (by simp [Cs])).x, T.n_NoSuch_name, _, by simp [List.lookup], k _ S1⟩
theorem Box.upd {H : Hp} {p l : Addr} {n : Nat} {o : HO} (h : Box H p n) (ne : p ≠ l) : Box (upd H l o) p n := by
  obtain ⟨b0, b1, b2, h1, h2⟩ := h
  exact ⟨b0, b1, b2, by rw [upd_ne ne]; exact h1, h2⟩
theorem seqIx {j n : Nat} (h : j < n) : seqIndex? ((j : Nat) : Int) n = some j := by
  unfold seqIndex?
  simp
  omega
theorem erase_map {α β : Type} (f : α → β) : ∀ (l : List α) (j : Nat), (l.map f).eraseIdx j = (l.eraseIdx j).map f
  | [], _ => rfl
  | _ :: _, 0 => rfl
  | x :: l, j + 1 => congrArg (f x :: ·) (erase_map f l j)
def vints (xs : List Nat) : List V := xs.map fun n => V.int (Int.ofNat n)
def sp_mixed : Sp := fun vs H Q _ => ∃ (p l : Addr) (n : Nat) (xs : List Nat), vs = [.ref p, .ref l] ∧ Box H p n ∧ n ≤ 1000 ∧ H l = some (.lst (vints xs)) ∧ xs.length ≤ 100 ∧
  ∀ (q : Addr) (ys : List Nat) H', ys.length = xs.length → (∀ y ∈ ys, y ∈ xs) → Keep p H H' → Box H' p (n + 100) → H' q = some (.lst (vints ys)) → Q (.ref q) H'
theorem ok_mixed (T : Txt K mg a) : FnOk P w K mg base CX0 2 a.f_l_mixed a.d_l_mixed ["_law_box_here", "_law_some"] sp_mixed := by
  have O_l_take : FnOk P w K mg base CX0 _ _ _ _ _ := ok_l_take T
  refine T.h_l_mixed.F.ok sc_l_mixed (fun vs H Q E h => ?_) (fun cdv A outer s H vs Q E hr h => ?_)
  · obtain ⟨p, l, n, xs, rfl, _⟩ := h
    rfl
  · obtain ⟨p, l, n, xs, rfl, hB, hn, hl, hx, k⟩ := h
    refine ⟨_, (pss_cons (ps_set (i := 2) sc_l_mixed.nd rfl (.inr rfl) (pe_callTy call_list_of (by rfl) T.z_list (by decide +kernel) (pa_cons (pv 1) (pa_nil))))
  (pss_one (ps_ret (pe_lc (own := [("_law_k", 3)]) (g := gName 3) (tt := tYes) rfl sc_l_mixed.nd (pi_range1 rfl T.z_range (pa_cons (pe_callB Wk.call_lenLT (by rfl) T.z_len (by decide +kernel) (pa_cons (pv 1) (pa_nil))) (pa_nil))) (blkOk_by (own := [("_law_k", 3)]) (N := ["_law_box_here", "_law_some", "_law_left", "_law_k"]) (sc := defScope s_l_mixed) (by decide +kernel)) (fun _ _ _ _ _ => pg_name (i := 3) sc_l_mixed.nd rfl (Or.inl rfl)) (fun _ _ _ _ _ => pts_nil) (fun _ _ _ _ _ => (Wk.pe_bmK rfl PySem.F.plainAttrs_list PySem.F.slot_list_pop PySem.F.type_list_pop mt_popAt (pv 2) (pa_cons (pe_call O_l_take (hr.mono (by decide)) rfl T.h_l_take.g T.h_l_take.F.kp T.b_l_take .nil pass0 (pa_cons (pv 0) (pa_cons (pe_callB Wk.call_lenLT (by rfl) T.z_len (by decide +kernel) (pa_cons (pv 2) (pa_nil))) (pa_nil)))) (pa_nil)))))))), ?_⟩
    walk_at "rd"
    refine ⟨_, .inl (SqL.of hl), fun m hm => ?_⟩
    refine lc_hide fun g' tt' te' Q' hg' htt' hte' hQ' => ?_
    unfold tLc iRng1
    have hl' : upd H m (HO.lst (vints xs)) l = some (.lst (vints xs)) := Same.new hm _ _ hl
    have hlen : (vints xs).length = xs.length := List.length_map ..
    simp only [hl', hlen, tSeq, tAsg, gName, tC, tVar, tOp, tUn, tTest, tB, tAnd, tOr, tNot, tIf, tIfS, tRet, tDrop, tNext, tCB, tCons, tNil, tSl, tPart, tNoPart, tAug, ipI, rI0, rI, rU, tLst, tTup, tBM, rAppend, tCall, tPar, tPar3, gTup, gCons, gNil, tMkO, tMkO0, tCallS, WE, wAs, wOnly, tXf, tMkV, tMkV0, tXfV, rCat, rPopAt, tLstRg, tRg1, tDNewK, tDisp, tPairs, sDPut, tMake, tMakeK, tMeth, tProp, rOwn, rOwnEq, tFld, sFld, tFmt, tJs, rIxS, rIxLT, rIxTT, rLenLT, rLenTT, gSub, rSetL, Wk.ixN_0, Wk.ixN_1, Wk.ixN_2, Wk.cxK, Wk.cxKn, Wk.atI_lits, upd_same, HO.lst.injEq, HO.tup.injEq, rSlS, rEq, rNe, scal, tChain, tYes, tAndV, tOrV, tNotV, tM1, L2.start,
  List.map_nil, List.map_cons, List.replicate, List.length_cons, List.length_nil, List.cons_append, List.nil_append, List.getElem?_cons_zero, List.getElem?_cons_succ, List.set_cons_zero, List.set_cons_succ, Option.some.injEq, V.int.injEq, V.str.injEq, V.ref.injEq, V.bl.injEq, List.cons.injEq, and_true, true_and, and_assoc, exists_eq_left', exists_eq_left, exists_and_left, Wk.one_inj, Wk.atI_eq, Bool.false_eq_true, if_false, if_true, Bool.not_false, Bool.not_true, Bool.not_eq_true', decide_eq_false_iff_not, decide_eq_true_eq]
    refine ⟨by omega, by omega, fun z hz => ?_⟩
    have nmz : m ≠ z := fun e => by
      rw [← e, upd_same] at hz
      cases hz
    have hz0 : H z = none := (Same.new hm).free hz
    have npm : p ≠ m := (hB.ne hm).symm
    have npz : p ≠ z := (hB.ne hz0).symm
    refine lc_range (lo := 0) (n := Int.toNat xs.length) (g := g') (tt := tt') (te := te') (vs := [3]) (fun i H' => ∃ left ys : List Nat, H' m = some (.lst (vints left)) ∧ H' z = some (.lst (vints ys)) ∧ left.length + i = xs.length ∧ ys.length = i ∧ (∀ y ∈ left, y ∈ xs) ∧ (∀ y ∈ ys, y ∈ xs) ∧ Box H' p (n + i) ∧ Keep p H H') ?_ ?_ ?_
    · refine ⟨xs, [], by rw [upd_ne nmz, upd_same], upd_same, rfl, rfl, fun _ h => h, (by intro y h; cases h), Box.upd (Box.upd hB npm) npz, Keep.of ((Same.new hm).trans (Same.new hz))⟩
    · rintro i H1 hi ⟨left, ys, h1, h2, h3, h4, h5, h6, h7, h8⟩
      have hi' : i < xs.length := hi
      rw [hg', htt', hte']
      simp only [wipe]
      have hlen2 : (vints left).length = left.length := List.length_map ..
      simp only [h1, hlen2, tSeq, tAsg, gName, tC, tVar, tOp, tUn, tTest, tB, tAnd, tOr, tNot, tIf, tIfS, tRet, tDrop, tNext, tCB, tCons, tNil, tSl, tPart, tNoPart, tAug, ipI, rI0, rI, rU, tLst, tTup, tBM, rAppend, tCall, tPar, tPar3, gTup, gCons, gNil, tMkO, tMkO0, tCallS, WE, wAs, wOnly, tXf, tMkV, tMkV0, tXfV, rCat, rPopAt, tLstRg, tRg1, tDNewK, tDisp, tPairs, sDPut, tMake, tMakeK, tMeth, tProp, rOwn, rOwnEq, tFld, sFld, tFmt, tJs, rIxS, rIxLT, rIxTT, rLenLT, rLenTT, gSub, rSetL, Wk.ixN_0, Wk.ixN_1, Wk.ixN_2, Wk.cxK, Wk.cxKn, Wk.atI_lits, upd_same, HO.lst.injEq, HO.tup.injEq, rSlS, rEq, rNe, scal, tChain, tYes, tAndV, tOrV, tNotV, tM1, L2.start,
  List.map_nil, List.map_cons, List.replicate, List.length_cons, List.length_nil, List.cons_append, List.nil_append, List.getElem?_cons_zero, List.getElem?_cons_succ, List.set_cons_zero, List.set_cons_succ, Option.some.injEq, V.int.injEq, V.str.injEq, V.ref.injEq, V.bl.injEq, List.cons.injEq, and_true, true_and, and_assoc, exists_eq_left', exists_eq_left, exists_and_left, Wk.one_inj, Wk.atI_eq, Bool.false_eq_true, if_false, if_true, Bool.not_false, Bool.not_true, Bool.not_eq_true', decide_eq_false_iff_not, decide_eq_true_eq]
      refine ⟨.inl ⟨rfl, _, SqL.of h1⟩, p, n + i, (left.length : Int), rfl, h7, by omega, by omega, by omega, fun d H2 d0 d1 kp bx => ?_⟩
      obtain ⟨j, rfl⟩ := Int.eq_ofNat_of_zero_le d0
      have hj : j < left.length := by omega
      have m2 : H2 m = some (.lst (vints left)) := kp _ _ (Ne.symm npm) h1
      have gj : (vints left)[j]? = some (V.int (Int.ofNat left[j])) := by simp [vints, hj]
      have er : (vints left).eraseIdx j = vints (left.eraseIdx j) := by
        exact erase_map _ left j
      refine ⟨_, _, rfl, m2, by omega, by omega, j, seqIx (by rw [hlen2]; exact hj), _, gj, vints ys, by rw [upd_ne (Ne.symm nmz)]; exact kp _ _ (Ne.symm npz) h2, sz_lt (by unfold vints; rw [List.length_map]; omega), left.eraseIdx j, by rw [upd_ne nmz, upd_same, er], ys ++ [left[j]], by simp [vints], ?_, by simp [h4], ?_, ?_, ?_, ?_⟩
      · rw [List.length_eraseIdx]
        split <;> omega
      · intro y hy
        exact h5 y (List.mem_of_mem_eraseIdx hy)
      · intro y hy
        rcases List.mem_append.mp hy with hy | hy
        · exact h6 y hy
        · obtain rfl : y = left[j] := by simpa using hy
          exact h5 _ (List.getElem_mem hj)
      · exact (Box.upd (Box.upd bx npm) npz)
      · exact fun b o nb q => by
          rw [upd_ne (ne_of_none q hz0), upd_ne (ne_of_none q hm)]
          exact kp _ _ nb (h8 _ _ nb q)
    · rintro H1 ⟨left, ys, h1, h2, h3, h4, h5, h6, h7, h8⟩
      rw [hQ']
      have h4' : ys.length = xs.length := h4
      exact k z ys H1 h4' h6 h8 (h7.more (by simp; omega)) h2
theorem mkx {H : Hp} {C : Addr} {f : Str} {v : V} {R : Addr → Hp → Prop} {E : XK} (k : ∀ e H', Same H H' → ExV H' e C (some [(f, v)]) → R e H') :
    0 + 1 ≤ 1000 ∧ ∀ e, H e = none → sp_exc C f [.ref e, v] (upd H e (exo e C none)) (fun u H2 => u = .non ∧ R e H2) E := by
  refine ⟨by decide, fun e he => ⟨e, v, rfl, upd_same, fun d hd ne => ⟨rfl, k e _ ?_ ⟨d, upd_same, by rw [upd_ne ne, upd_same]⟩⟩⟩⟩
  exact Same.mut (Same.mut (Same.mut (Same.refl H) he) ((Same.new he).free hd)) he
theorem mkx0 {H : Hp} {C : Addr} {R : Addr → Hp → Prop} {E : XK} (k : ∀ e H', Same H H' → ExV H' e C none → R e H') :
    ∀ e, H e = none → sp_exc0 C [.ref e] (upd H e (exo e C none)) (fun u H2 => u = .non ∧ R e H2) E := fun e he => ⟨e, rfl, upd_same, rfl, k e _ (Same.new he) upd_same⟩
def fsOf (i : Nat) (v : V) : Option (List (Str × V)) := (fieldOf[i]?).map fun f => [(f, v)]
def sp_made (a : Ad) : Sp := fun vs H Q _ => ∃ (i : Nat) (v : V), vs = [.int (i : Int), v] ∧ i < 23 ∧ ∀ (e C : Addr) H', Same H H' → (Cs a)[i]? = some C → ExV H' e C (fsOf i v) → Q (.ref e) H'
theorem ok_made (T : Txt K mg a) : FnOk P w K mg base CX0 3 a.f_l_made a.d_l_made ["_law_way", "_law_value_here"] (sp_made a) := by
  have O_BadText_init : FnOk P w K mg base CX0 _ _ _ _ _ := ok_BadText_init T
  have O_Twice_init : FnOk P w K mg base CX0 _ _ _ _ _ := ok_Twice_init T
  have O_BadName_init : FnOk P w K mg base CX0 _ _ _ _ _ := ok_BadName_init T
  have O_BadFilling_init : FnOk P w K mg base CX0 _ _ _ _ _ := ok_BadFilling_init T
  have O_BadLine_init : FnOk P w K mg base CX0 _ _ _ _ _ := ok_BadLine_init T
  have O_Unknown_init : FnOk P w K mg base CX0 _ _ _ _ _ := ok_Unknown_init T
  have O_BadMacro_init : FnOk P w K mg base CX0 _ _ _ _ _ := ok_BadMacro_init T
  have O_BadTree_init : FnOk P w K mg base CX0 _ _ _ _ _ := ok_BadTree_init T
  have O_BadPlace_init : FnOk P w K mg base CX0 _ _ _ _ _ := ok_BadPlace_init T
  have O_BadKnot_init : FnOk P w K mg base CX0 _ _ _ _ _ := ok_BadKnot_init T
  have O_BadKind_init : FnOk P w K mg base CX0 _ _ _ _ _ := ok_BadKind_init T
  have O_BadForm_init : FnOk P w K mg base CX0 _ _ _ _ _ := ok_BadForm_init T
  have O_BadDeeds_init : FnOk P w K mg base CX0 _ _ _ _ _ := ok_BadDeeds_init T
  have O_BadWeight_init : FnOk P w K mg base CX0 _ _ _ _ _ := ok_BadWeight_init T
  have O_BadUnits_init : FnOk P w K mg base CX0 _ _ _ _ _ := ok_BadUnits_init T
  have O_BadBudget_init : FnOk P w K mg base CX0 _ _ _ _ _ := ok_BadBudget_init T
  have O_BadStep_init : FnOk P w K mg base CX0 _ _ _ _ _ := ok_BadStep_init T
  have O_TooMany_init : FnOk P w K mg base CX0 _ _ _ _ _ := ok_TooMany_init T
  have O_NoSuch_init : FnOk P w K mg base CX0 _ _ _ _ _ := ok_NoSuch_init T
  have O_ByZero_init : FnOk P w K mg base CX0 _ _ _ _ _ := ok_ByZero_init T
  have O_NoKind_init : FnOk P w K mg base CX0 _ _ _ _ _ := ok_NoKind_init T
  have O_NothingToUndo_init : FnOk P w K mg base CX0 _ _ _ _ _ := ok_NothingToUndo_init T
  have O_NothingToRedo_init : FnOk P w K mg base CX0 _ _ _ _ _ := ok_NothingToRedo_init T
  refine T.h_l_made.F.ok sc_l_made (fun vs H Q E h => ?_) (fun cdv A outer s H vs Q E hr h => ?_)
  · obtain ⟨i, v, rfl, _⟩ := h
    rfl
  · obtain ⟨i, v, rfl, hi, k⟩ := h
    refine ⟨_, (pss_cons (ps_if (pt_cmpR op_lt (pv 0) pe_int (nomark _)) (pss_one (ps_ret (pe_ix Wk.ix_listT (pe_lst (pa_cons (Wk.pe_mkV T.e_BadText.o T.e_BadText.iC T.e_BadText.tI O_BadText_init (hr.mono (by decide)) T.b_BadText_init .nil pass0 rfl T.e_BadText.g (pa_cons (pv 1) (pa_nil))) (pa_cons (Wk.pe_mkV T.e_Twice.o T.e_Twice.iC T.e_Twice.tI O_Twice_init (hr.mono (by decide)) T.b_Twice_init .nil pass0 rfl T.e_Twice.g (pa_cons (pv 1) (pa_nil))) (pa_cons (Wk.pe_mkV T.e_BadName.o T.e_BadName.iC T.e_BadName.tI O_BadName_init (hr.mono (by decide)) T.b_BadName_init .nil pass0 rfl T.e_BadName.g (pa_cons (pv 1) (pa_nil))) (pa_cons (Wk.pe_mkV T.e_BadFilling.o T.e_BadFilling.iC T.e_BadFilling.tI O_BadFilling_init (hr.mono (by decide)) T.b_BadFilling_init .nil pass0 rfl T.e_BadFilling.g (pa_cons (pv 1) (pa_nil))) (pa_cons (Wk.pe_mkV T.e_BadLine.o T.e_BadLine.iC T.e_BadLine.tI O_BadLine_init (hr.mono (by decide)) T.b_BadLine_init .nil pass0 rfl T.e_BadLine.g (pa_cons (pv 1) (pa_nil))) (pa_cons (Wk.pe_mkV T.e_Unknown.o T.e_Unknown.iC T.e_Unknown.tI O_Unknown_init (hr.mono (by decide)) T.b_Unknown_init .nil pass0 rfl T.e_Unknown.g (pa_cons (pv 1) (pa_nil))) (pa_nil)))))))) (pv 0) (fun _ _ => rfl)))) pss_nil)
  (pss_cons (ps_if (pt_cmpR op_lt (pv 0) pe_int (nomark _)) (pss_cons (ps_set (i := 2) sc_l_made.nd rfl (.inl rfl) (pe_lst (pa_cons (Wk.pe_mkV T.e_BadMacro.o T.e_BadMacro.iC T.e_BadMacro.tI O_BadMacro_init (hr.mono (by decide)) T.b_BadMacro_init .nil pass0 rfl T.e_BadMacro.g (pa_cons (pv 1) (pa_nil))) (pa_cons (Wk.pe_mkV T.e_BadTree.o T.e_BadTree.iC T.e_BadTree.tI O_BadTree_init (hr.mono (by decide)) T.b_BadTree_init .nil pass0 rfl T.e_BadTree.g (pa_cons (pv 1) (pa_nil))) (pa_cons (Wk.pe_mkV T.e_BadPlace.o T.e_BadPlace.iC T.e_BadPlace.tI O_BadPlace_init (hr.mono (by decide)) T.b_BadPlace_init .nil pass0 rfl T.e_BadPlace.g (pa_cons (pv 1) (pa_nil))) (pa_cons (Wk.pe_mkV T.e_BadKnot.o T.e_BadKnot.iC T.e_BadKnot.tI O_BadKnot_init (hr.mono (by decide)) T.b_BadKnot_init .nil pass0 rfl T.e_BadKnot.g (pa_cons (pv 1) (pa_nil))) (pa_cons (Wk.pe_mkV T.e_BadKind.o T.e_BadKind.iC T.e_BadKind.tI O_BadKind_init (hr.mono (by decide)) T.b_BadKind_init .nil pass0 rfl T.e_BadKind.g (pa_cons (pv 1) (pa_nil))) (pa_cons (Wk.pe_mkV T.e_BadForm.o T.e_BadForm.iC T.e_BadForm.tI O_BadForm_init (hr.mono (by decide)) T.b_BadForm_init .nil pass0 rfl T.e_BadForm.g (pa_cons (pv 1) (pa_nil))) (pa_nil)))))))))
  (pss_one (ps_ret (pe_ix Wk.ix_listT (pv 2) (pe_op op_sub (pv 0) pe_int) (fun _ _ => rfl))))) pss_nil)
  (pss_cons (ps_if (pt_cmpR op_lt (pv 0) pe_int (nomark _)) (pss_cons (ps_set (i := 2) sc_l_made.nd rfl (.inl rfl) (pe_lst (pa_cons (Wk.pe_mkV T.e_BadDeeds.o T.e_BadDeeds.iC T.e_BadDeeds.tI O_BadDeeds_init (hr.mono (by decide)) T.b_BadDeeds_init .nil pass0 rfl T.e_BadDeeds.g (pa_cons (pv 1) (pa_nil))) (pa_cons (Wk.pe_mkV T.e_BadWeight.o T.e_BadWeight.iC T.e_BadWeight.tI O_BadWeight_init (hr.mono (by decide)) T.b_BadWeight_init .nil pass0 rfl T.e_BadWeight.g (pa_cons (pv 1) (pa_nil))) (pa_cons (Wk.pe_mkV T.e_BadUnits.o T.e_BadUnits.iC T.e_BadUnits.tI O_BadUnits_init (hr.mono (by decide)) T.b_BadUnits_init .nil pass0 rfl T.e_BadUnits.g (pa_cons (pv 1) (pa_nil))) (pa_cons (Wk.pe_mkV T.e_BadBudget.o T.e_BadBudget.iC T.e_BadBudget.tI O_BadBudget_init (hr.mono (by decide)) T.b_BadBudget_init .nil pass0 rfl T.e_BadBudget.g (pa_cons (pv 1) (pa_nil))) (pa_cons (Wk.pe_mkV T.e_BadStep.o T.e_BadStep.iC T.e_BadStep.tI O_BadStep_init (hr.mono (by decide)) T.b_BadStep_init .nil pass0 rfl T.e_BadStep.g (pa_cons (pv 1) (pa_nil))) (pa_cons (Wk.pe_mkV T.e_TooMany.o T.e_TooMany.iC T.e_TooMany.tI O_TooMany_init (hr.mono (by decide)) T.b_TooMany_init .nil pass0 rfl T.e_TooMany.g (pa_cons (pv 1) (pa_nil))) (pa_nil)))))))))
  (pss_one (ps_ret (pe_ix Wk.ix_listT (pv 2) (pe_op op_sub (pv 0) pe_int) (fun _ _ => rfl))))) pss_nil)
  (pss_one (ps_ret (pe_ix Wk.ix_listT (pe_lst (pa_cons (Wk.pe_mkV T.e_NoSuch.o T.e_NoSuch.iC T.e_NoSuch.tI O_NoSuch_init (hr.mono (by decide)) T.b_NoSuch_init .nil pass0 rfl T.e_NoSuch.g (pa_cons (pv 1) (pa_nil))) (pa_cons (Wk.pe_mkV0 T.e_ByZero.o T.e_ByZero.iC T.e_ByZero.tI O_ByZero_init (hr.mono (by decide)) T.b_ByZero_init pass0 rfl T.e_ByZero.g) (pa_cons (Wk.pe_mkV0 T.e_NoKind.o T.e_NoKind.iC T.e_NoKind.tI O_NoKind_init (hr.mono (by decide)) T.b_NoKind_init pass0 rfl T.e_NoKind.g) (pa_cons (Wk.pe_mkV0 T.e_NothingToUndo.o T.e_NothingToUndo.iC T.e_NothingToUndo.tI O_NothingToUndo_init (hr.mono (by decide)) T.b_NothingToUndo_init pass0 rfl T.e_NothingToUndo.g) (pa_cons (Wk.pe_mkV0 T.e_NothingToRedo.o T.e_NothingToRedo.iC T.e_NothingToRedo.tI O_NothingToRedo_init (hr.mono (by decide)) T.b_NothingToRedo_init pass0 rfl T.e_NothingToRedo.g) (pa_nil))))))) (pe_op op_sub (pv 0) pe_int) (fun _ _ => rfl))))))), ?_⟩
    walk_at "rd"
    refine ite2 (fun h => ?_) (fun h => ?_)
    · refine mkx fun e1 G1 s1 x1 => mkx fun e2 G2 s2 x2 => mkx fun e3 G3 s3 x3 => mkx fun e4 G4 s4 x4 => mkx fun e5 G5 s5 x5 => mkx fun e6 G6 s6 x6 => ⟨by decide, fun p hp => ?_⟩
      have t6 := Same.new (o := .lst [.ref e1, .ref e2, .ref e3, .ref e4, .ref e5, .ref e6]) hp
      have hi' : i = 0 ∨ i = 1 ∨ i = 2 ∨ i = 3 ∨ i = 4 ∨ i = 5 := by omega
      have tA := s1.trans (s2.trans (s3.trans (s4.trans (s5.trans (s6.trans t6)))))
      rcases hi' with rfl | rfl | rfl | rfl | rfl | rfl
      · exact ⟨_, rfl, k _ _ _ tA rfl (exv_same x1 (s2.trans (s3.trans (s4.trans (s5.trans (s6.trans t6))))))⟩
      · exact ⟨_, rfl, k _ _ _ tA rfl (exv_same x2 (s3.trans (s4.trans (s5.trans (s6.trans t6)))))⟩
      · exact ⟨_, rfl, k _ _ _ tA rfl (exv_same x3 (s4.trans (s5.trans (s6.trans t6))))⟩
      · exact ⟨_, rfl, k _ _ _ tA rfl (exv_same x4 (s5.trans (s6.trans t6)))⟩
      · exact ⟨_, rfl, k _ _ _ tA rfl (exv_same x5 (s6.trans t6))⟩
      · exact ⟨_, rfl, k _ _ _ tA rfl (exv_same x6 (t6))⟩
    · refine ite2 (fun h2 => ?_) (fun h2 => ?_)
      · refine mkx fun e1 G1 s1 x1 => mkx fun e2 G2 s2 x2 => mkx fun e3 G3 s3 x3 => mkx fun e4 G4 s4 x4 => mkx fun e5 G5 s5 x5 => mkx fun e6 G6 s6 x6 => ⟨by decide, fun p hp => ?_⟩
        have tN := Same.new (o := .lst [.ref e1, .ref e2, .ref e3, .ref e4, .ref e5, .ref e6]) hp
        have tA := s1.trans (s2.trans (s3.trans (s4.trans (s5.trans (s6.trans (tN))))))
        have hi' : i = 6 ∨ i = 7 ∨ i = 8 ∨ i = 9 ∨ i = 10 ∨ i = 11 := by omega
        rcases hi' with rfl | rfl | rfl | rfl | rfl | rfl
        · exact ⟨_, rfl, k _ _ _ tA rfl (exv_same x1 (s2.trans (s3.trans (s4.trans (s5.trans (s6.trans (tN)))))))⟩
        · exact ⟨_, rfl, k _ _ _ tA rfl (exv_same x2 (s3.trans (s4.trans (s5.trans (s6.trans (tN))))))⟩
        · exact ⟨_, rfl, k _ _ _ tA rfl (exv_same x3 (s4.trans (s5.trans (s6.trans (tN)))))⟩
        · exact ⟨_, rfl, k _ _ _ tA rfl (exv_same x4 (s5.trans (s6.trans (tN))))⟩
        · exact ⟨_, rfl, k _ _ _ tA rfl (exv_same x5 (s6.trans (tN)))⟩
        · exact ⟨_, rfl, k _ _ _ tA rfl (exv_same x6 (tN))⟩
      · refine ite2 (fun h3 => ?_) (fun h3 => ?_)
        · refine mkx fun e1 G1 s1 x1 => mkx fun e2 G2 s2 x2 => mkx fun e3 G3 s3 x3 => mkx fun e4 G4 s4 x4 => mkx fun e5 G5 s5 x5 => mkx fun e6 G6 s6 x6 => ⟨by decide, fun p hp => ?_⟩
          have tN := Same.new (o := .lst [.ref e1, .ref e2, .ref e3, .ref e4, .ref e5, .ref e6]) hp
          have tA := s1.trans (s2.trans (s3.trans (s4.trans (s5.trans (s6.trans (tN))))))
          have hi' : i = 12 ∨ i = 13 ∨ i = 14 ∨ i = 15 ∨ i = 16 ∨ i = 17 := by omega
          rcases hi' with rfl | rfl | rfl | rfl | rfl | rfl
          · exact ⟨_, rfl, k _ _ _ tA rfl (exv_same x1 (s2.trans (s3.trans (s4.trans (s5.trans (s6.trans (tN)))))))⟩
          · exact ⟨_, rfl, k _ _ _ tA rfl (exv_same x2 (s3.trans (s4.trans (s5.trans (s6.trans (tN))))))⟩
          · exact ⟨_, rfl, k _ _ _ tA rfl (exv_same x3 (s4.trans (s5.trans (s6.trans (tN)))))⟩
          · exact ⟨_, rfl, k _ _ _ tA rfl (exv_same x4 (s5.trans (s6.trans (tN))))⟩
          · exact ⟨_, rfl, k _ _ _ tA rfl (exv_same x5 (s6.trans (tN)))⟩
          · exact ⟨_, rfl, k _ _ _ tA rfl (exv_same x6 (tN))⟩
        · refine mkx fun e1 G1 s1 x1 => mkx0 fun e2 G2 s2 x2 => mkx0 fun e3 G3 s3 x3 => mkx0 fun e4 G4 s4 x4 => mkx0 fun e5 G5 s5 x5 => ⟨by decide, fun p hp => ?_⟩
          have tN := Same.new (o := .lst [.ref e1, .ref e2, .ref e3, .ref e4, .ref e5]) hp
          have tA := s1.trans (s2.trans (s3.trans (s4.trans (s5.trans (tN)))))
          have hi' : i = 18 ∨ i = 19 ∨ i = 20 ∨ i = 21 ∨ i = 22 := by omega
          rcases hi' with rfl | rfl | rfl | rfl | rfl
          · exact ⟨_, rfl, k _ _ _ tA rfl (exv_same x1 (s2.trans (s3.trans (s4.trans (s5.trans (tN))))))⟩
          · exact ⟨_, rfl, k _ _ _ tA rfl (exv_same x2 (s3.trans (s4.trans (s5.trans (tN)))))⟩
          · exact ⟨_, rfl, k _ _ _ tA rfl (exv_same x3 (s4.trans (s5.trans (tN))))⟩
          · exact ⟨_, rfl, k _ _ _ tA rfl (exv_same x4 (s5.trans (tN)))⟩
          · exact ⟨_, rfl, k _ _ _ tA rfl (exv_same x5 (tN))⟩
theorem log_lt {n k : Nat} (h : n < 2 ^ k) (hk : 0 < k) : n.log2 < k := by
  by_cases z : n = 0
  · subst z; exact hk
  · exact (Nat.log2_lt z).mpr h
/-- data with short leaves -/
structure Lf (w k : Nat) (d : PyData) : Prop where
  s : d.showable = true
  l : d.leavesShort 40 = true
  w : d.weight ≤ w
  dp : d.depth ≤ k
  nd : d.hasDict = false
theorem sho_of {d : PyData} (h1 : d.showable = true) (h2 : d.leavesShort 40 = true) (h3 : d.weight ≤ 2000) (h4 : d.depth ≤ 60) : Sho d :=
  ⟨h1, by have h := PyData.shown_le 40 (by decide) d h2; omega, h4⟩
theorem Lf.sho {w k : Nat} {d : PyData} (h : Lf w k d) (hw : w ≤ 2000) (hk : k ≤ 60) : Sho d := sho_of h.s h.l (Nat.le_trans h.w hw) (Nat.le_trans h.dp hk)
theorem lf_int {i : Int} (h : i.natAbs < 10 ^ 39) : Lf 130 0 (.int i) := by
  have hl : i.natAbs.log2 < 130 := log_lt (Nat.lt_trans h (by decide)) (by decide)
  refine ⟨decide_eq_true (by omega), decide_eq_true ?_, ?_, Nat.le_refl _, rfl⟩
  · show (Str.ofString (toString i)).length ≤ 40
    rw [PySem.ofString_length]
    exact PySem.int_text_length_le10 (k := 39) (by decide) h
  · unfold PyData.weight
    split <;> omega
theorem lf_nat {n : Nat} (h : n < 100000) : Lf 130 0 (.int (n : Int)) := lf_int (Nat.lt_trans (show (n : Int).natAbs < 100000 by omega) (by decide))
theorem lf_all {w k : Nat} : ∀ ds : List PyData, (∀ d ∈ ds, Lf w k d) → PyData.showableAll ds = true ∧ PyData.leavesShortAll 40 ds = true ∧ PyData.weightAll ds ≤ ds.length * (w + 1) ∧ PyData.depthAll ds ≤ k ∧ PyData.hasDictAll ds = false
  | [], _ => by simp [PyData.showableAll, PyData.leavesShortAll, PyData.weightAll, PyData.depthAll, PyData.hasDictAll]
  | d :: ds, h => by
    obtain ⟨a1, a2, a3, a4, a5⟩ := lf_all ds fun m hm => h m (List.mem_cons_of_mem _ hm)
    obtain ⟨b1, b2, b3, b4, b5⟩ := h d (by simp)
    have e : (ds.length + 1) * (w + 1) = ds.length * (w + 1) + (w + 1) := Nat.succ_mul ..
    refine ⟨?_, ?_, ?_, ?_, ?_⟩
    · rw [PyData.showableAll, b1, a1]; rfl
    · rw [PyData.leavesShortAll, b2, a2]; rfl
    · rw [PyData.weightAll, List.length_cons, e]; omega
    · rw [PyData.depthAll]; omega
    · rw [PyData.hasDictAll, b5, a5]; rfl
theorem lf_list {w k : Nat} {ds : List PyData} (h : ∀ d ∈ ds, Lf w k d) : Lf (ds.length * (w + 1)) (k + 1) (.list ds) := by
  obtain ⟨a1, a2, a3, a4, a5⟩ := lf_all ds h
  exact ⟨by rw [PyData.showable]; exact a1, by rw [PyData.leavesShort]; exact a2, by rw [PyData.weight]; exact a3, by rw [PyData.depth]; omega, by rw [PyData.hasDict]; exact a5⟩
theorem lf_tup {w k : Nat} {ds : List PyData} (h : ∀ d ∈ ds, Lf w k d) : Lf (ds.length * (w + 1)) (k + 1) (.tuple ds) := by
  obtain ⟨a1, a2, a3, a4, a5⟩ := lf_all ds h
  exact ⟨by rw [PyData.showable]; exact a1, by rw [PyData.leavesShort]; exact a2, by rw [PyData.weight]; exact a3, by rw [PyData.depth]; omega, by rw [PyData.hasDict]; exact a5⟩
theorem Lf.le {w w' k k' : Nat} {d : PyData} (h : Lf w k d) (hw : w ≤ w') (hk : k ≤ k') : Lf w' k' d := ⟨h.s, h.l, Nat.le_trans h.w hw, Nat.le_trans h.dp hk, h.nd⟩
theorem lf_str {z : Str} (h : (z.cps.toList.all fun c => decide (c < 16 ^ 8)) = true) (hs : z.cps.size ≤ 10) : Lf 130 0 (.str z) := ⟨rfl, h, by rw [PyData.weight]; omega, Nat.le_refl _, rfl⟩
/-- a dict of ints: its text is told -/
theorem sho_dict (l : List (Key × Int)) (h : ∀ p ∈ l, Lf 130 0 (keyD p.1) ∧ Lf 130 0 (.int p.2)) (hl : l.length ≤ 5) : Sho (.dict (kvD l)) := by
  have key : ∀ l : List (Key × Int), (∀ p ∈ l, Lf 130 0 (keyD p.1) ∧ Lf 130 0 (.int p.2)) → PyData.showableKv (kvD l) = true ∧ PyData.leavesShortKv 40 (kvD l) = true ∧ PyData.weightKv (kvD l) ≤ l.length * 262 ∧ PyData.depthKv (kvD l) ≤ 0 := by
    intro l
    induction l with
    | nil => intro _; simp [kvD, PyData.showableKv, PyData.leavesShortKv, PyData.weightKv, PyData.depthKv]
    | cons p r ih =>
      intro h
      obtain ⟨a1, a2, a3, a4⟩ := ih fun m hm => h m (List.mem_cons_of_mem _ hm)
      obtain ⟨⟨b1, b2, b3, b4, _⟩, ⟨c1, c2, c3, c4, _⟩⟩ := h p (by simp)
      have e : kvD (p :: r) = (keyD p.1, .int p.2) :: kvD r := rfl
      rw [e]
      refine ⟨?_, ?_, ?_, ?_⟩
      · rw [PyData.showableKv, b1, c1, a1]; rfl
      · rw [PyData.leavesShortKv, b2, c2, a2]; rfl
      · rw [PyData.weightKv, List.length_cons]; omega
      · rw [PyData.depthKv]; omega
  obtain ⟨a1, a2, a3, a4⟩ := key l h
  exact sho_of (by rw [PyData.showable]; exact a1) (by rw [PyData.leavesShort]; exact a2) (by rw [PyData.weight]; omega) (by rw [PyData.depth]; omega)
theorem fresh {H : Hp} {p : Addr} (o : HO) (h : H p = none) : ∃ G, upd H p o = G ∧ Same H G ∧ G p = some o := ⟨_, rfl, Same.new h, upd_same⟩
def txt3 (n : Nat) : Str := Str.ofString "a" ++ Str.ofString (toString (n : Int))
theorem txt3_ok : ∀ n < 1000, ((txt3 n).cps.toList.all fun c => decide (c < 16 ^ 8)) = true ∧ (txt3 n).cps.size ≤ 10 := by decide +kernel
/-- a drawn value: data that stays, a list or a dict -/
inductive ValV (K : PySem.W.Frag) (H : Hp) : V → Prop
  | flat {v : V} {d : PyData} {T : String} (h : Dp K H v d) (n : d.hasDict = false) (s : Sho d) (t : TyX K H v (.type T)) (l : kitB T "list" = some false) (m : kitB T "dict" = some false) : ValV K H v
  | lst {p : Addr} {vs : List V} {ds : List PyData} {F : Hp} (h : H p = some (.lst vs)) (hF : F p = none) (e : Same F H) (hd : DpAll K F vs ds) (hn : PyData.hasDictAll ds = false) (s : Sho (.list ds)) (g : ∀ n : Nat, n < 100 → Sho (.list (ds ++ [.int n])) ∧ PyData.hasDictAll (ds ++ [.int n]) = false) (z : vs.length ≤ 10) : ValV K H (.ref p)
  | dct {p : Addr} {l : List (Key × Int)} (h : H p = some (.dK (kvI l))) (s : Sho (.dict (kvD l))) (g : ∀ (n : Nat) (m : Int), n < 100 → m.natAbs < 100 → Sho (.dict (kvD (l ++ [(.inl n, m)])))) (hp : ∀ (n : Nat) (m : Int), putK (kvI l) (.inl n) (.int m) = kvI (l ++ [(.inl n, m)])) (z : l.length ≤ 10) : ValV K H (.ref p)
def sp_value (K : PySem.W.Frag) : Sp := fun vs H Q _ => ∃ (p : Addr) (n : Nat), vs = [.ref p] ∧ Box H p n ∧ n ≤ 100000 ∧ ∀ (v : V) H', Keep p H H' → Box H' p (n + 2) → ValV K H' v → (∀ q, v = .ref q → H q = none) → Q v H'
theorem ok_value (T : Txt K mg a) : FnOk P w K mg base CX0 2 a.f_l_value a.d_l_value ["_law_box_here"] (sp_value K) := by
  have O_l_take : FnOk P w K mg base CX0 _ _ _ _ _ := ok_l_take T
  refine T.h_l_value.F.ok sc_l_value (fun vs H Q E h => ?_) (fun cdv A outer s H vs Q E hr h => ?_)
  · obtain ⟨p, n, rfl, _⟩ := h
    rfl
  · obtain ⟨p, n, rfl, hB, hn, k⟩ := h
    refine ⟨_, (pss_cons (ps_set (i := 1) sc_l_value.nd rfl (.inl rfl) (pe_call O_l_take (hr.mono (by decide)) rfl T.h_l_take.g T.h_l_take.F.kp T.b_l_take .nil pass0 (pa_cons (pv 0) (pa_cons pe_int (pa_nil)))))
  (pss_cons (ps_set (i := 2) sc_l_value.nd rfl (.inl rfl) (pe_lst (pa_cons (pv 1) (pa_cons (pe_un un_neg (pv 1)) (pa_cons (pe_op op_add (pe_op op_pow pe_int pe_int) (pv 1)) (pa_cons (pe_op op_add_str pe_str (pe_callTy call_str_int (by rfl) T.z_str (by decide +kernel) (pa_cons (pv 1) (pa_nil)))) (pa_cons pe_str (pa_cons pe_non (pa_cons pe_bl (pa_cons pe_bl (pa_cons (pe_tup (pa_cons (pv 1) (pa_cons pe_str (pa_nil)))) (pa_cons (pe_tup (pa_nil)) (pa_nil)))))))))))))
  (pss_one (ps_ret (pe_ix Wk.ix_listT (pe_op op_cat (pv 2) (pe_lst (pa_cons (pe_lst (pa_cons (pv 1) (pa_nil))) (pa_cons (pe_lst (pa_nil)) (pa_cons pe_dnewK (pa_cons (pe_disp (pps_cons pe_str (pv 1) pps_nil) rfl rfl (by simp) (by decide)) (pa_cons (pe_tup (pa_cons pe_str (pa_cons (pv 1) (pa_nil)))) (pa_cons (pe_lst (pa_cons (pe_tup (pa_cons pe_str (pa_cons (pe_lst (pa_cons (pv 1) (pa_nil))) (pa_nil)))) (pa_nil))) (pa_nil))))))))) (pe_call O_l_take (hr.mono (by decide)) rfl T.h_l_take.g T.h_l_take.F.kp T.b_l_take .nil pass0 (pa_cons (pv 0) (pa_cons pe_int (pa_nil)))) (fun _ _ => rfl)))))), ?_⟩
    walk_at "rd"
    refine ⟨p, n, 1000, rfl, hB, by omega, by decide, by decide, fun d H1 d0 d1 kp bx => ?_⟩
    walk_at "rd"
    obtain ⟨n1, rfl⟩ := Int.eq_ofNat_of_zero_le d0
    have hn1 : n1 < 1000 := by omega
    have hlog : ((n1 : Nat) : Int).natAbs.log2 < 1920 := log_lt (Nat.lt_trans (show ((n1 : Nat) : Int).natAbs < 1000 by omega) (by decide)) (by decide)
    obtain ⟨tx1, tx2⟩ := txt3_ok n1 hn1
    have hlen : (Str.ofString "a").length + (Str.ofString (toString ((n1 : Nat) : Int))).length ≤ sizeLine := by
      rw [PySem.ofString_length, PySem.ofString_length]
      refine sz_of ?_
      have h := PySem.int_text_length_le10 (a := ((n1 : Nat) : Int)) (k := 3) (by decide) (show ((n1 : Nat) : Int).natAbs < 10 ^ 3 by omega)
      have e : ("a" : String).length = 1 := by decide
      omega
    refine ⟨⟨by decide, by decide, by decide⟩, hlog, hlen, by decide, fun p1 f1 => ?_⟩
    obtain ⟨G1, hG1, s1, e1⟩ := fresh (.tup [.int n1, .str (Str.ofString "b")]) f1
    rw [hG1]
    refine ⟨by decide, fun p2 f2 => ?_⟩
    obtain ⟨G2, hG2, s2, e2⟩ := fresh (.tup []) f2
    rw [hG2]
    refine ⟨by decide, fun p3 f3 => ?_⟩
    obtain ⟨G3, hG3, s3, e3⟩ := fresh (.lst [.int n1, .int (-n1), .int (10 ^ Int.toNat 29 + n1), .str (Str.ofString "a" ++ Str.ofString (toString (n1 : Int))), .str (Str.ofString ""), .non, .bl true, .bl false, .ref p1, .ref p2]) f3
    rw [hG3]
    refine ⟨by decide, fun p4 f4 => ?_⟩
    obtain ⟨G4, hG4, s4, e4⟩ := fresh (.lst [.int n1]) f4
    rw [hG4]
    refine ⟨by decide, fun p5 f5 => ?_⟩
    obtain ⟨G5, hG5, s5, e5⟩ := fresh (.lst []) f5
    rw [hG5]
    refine fun p6 f6 => ?_
    obtain ⟨G6, hG6, s6, e6⟩ := fresh (.dK []) f6
    rw [hG6]
    refine fun p7 f7 => ⟨[(.inr "a", .int n1)], rfl, by simp, ?_⟩
    obtain ⟨G7, hG7, s7, e7⟩ : ∃ G, upd (upd G6 p7 (.dK [])) p7 (.dK (mergeK [] [(.inr "a", .int n1)])) = G ∧ Same G6 G ∧ G p7 = some (.dK (kvI [(.inr "a", (n1 : Int))])) := ⟨_, rfl, Same.mut (Same.new f7) f7, upd_same⟩
    rw [hG7]
    refine ⟨by decide, fun p8 f8 => ?_⟩
    obtain ⟨G8, hG8, s8, e8⟩ := fresh (.tup [.str (Str.ofString ""), .int n1]) f8
    rw [hG8]
    refine ⟨by decide, fun p9 f9 => ?_⟩
    obtain ⟨G9, hG9, s9, e9⟩ := fresh (.lst [.int n1]) f9
    rw [hG9]
    refine ⟨by decide, fun p10 f10 => ?_⟩
    obtain ⟨G10, hG10, s10, e10⟩ := fresh (.tup [.str (Str.ofString "x"), .ref p9]) f10
    rw [hG10]
    refine ⟨by decide, fun p11 f11 => ?_⟩
    obtain ⟨G11, hG11, s11, e11⟩ := fresh (.lst [.ref p10]) f11
    rw [hG11]
    refine ⟨by decide, fun p12 f12 => ?_⟩
    obtain ⟨G12, hG12, s12, e12⟩ := fresh (.lst [.ref p4, .ref p5, .ref p6, .ref p7, .ref p8, .ref p11]) f12
    rw [hG12]
    have t12 := s4.trans (s5.trans (s6.trans (s7.trans (s8.trans (s9.trans (s10.trans (s11.trans s12)))))))
    refine ⟨_, t12 _ _ e3, sz_of (by simp), fun p13 f13 => ?_⟩
    obtain ⟨G13, hG13, s13, e13⟩ := fresh (.lst ([.int n1, .int (-n1), .int (10 ^ Int.toNat 29 + n1), .str (Str.ofString "a" ++ Str.ofString (toString (n1 : Int))), .str (Str.ofString ""), .non, .bl true, .bl false, .ref p1, .ref p2] ++ [.ref p4, .ref p5, .ref p6, .ref p7, .ref p8, .ref p11])) f13
    rw [hG13]
    have u12 := s13
    have u11 := s12.trans u12
    have u10 := s11.trans u11
    have u9 := s10.trans u10
    have u8 := s9.trans u9
    have u7 := s8.trans u8
    have u6 := s7.trans u7
    have u5 := s6.trans u6
    have u4 := s5.trans u5
    have u3 := s4.trans u4
    have u2 := s3.trans u3
    have u1 := s2.trans u2
    have u0 := s1.trans u1
    refine ⟨p, n + 1, 16, rfl, bx.same u0, by omega, by decide, by decide, fun d' H2 d0' d1' kp' bx' => ?_⟩
    obtain ⟨j, rfl⟩ := Int.eq_ofNat_of_zero_le d0'
    have v1 := Same.refl H1
    have v2 := v1.trans s1
    have v3 := v2.trans s2
    have v4 := v3.trans s3
    have v5 := v4.trans s4
    have v6 := v5.trans s5
    have v7 := v6.trans s6
    have v8 := v7.trans s7
    have v9 := v8.trans s8
    have v10 := v9.trans s9
    have v11 := v10.trans s10
    have v12 := v11.trans s11
    have v13 := v12.trans s12
    have np : ∀ {q : Addr} {o : HO} {H0 : Hp}, H0 q = none → Same H1 H0 → G13 q = some o → H2 q = some o ∧ H q = none := fun {q o H0} f s e => ⟨kp' _ _ ((bx.same s).ne f) e, by
      cases z : H q with
      | none => rfl
      | some u =>
        have z1 := s _ _ (kp _ _ ((bx.same s).ne f) z)
        rw [f] at z1
        cases z1⟩
    obtain ⟨q1, r1⟩ := np f1 v1 (u1 _ _ e1)
    obtain ⟨q2, r2⟩ := np f2 v2 (u2 _ _ e2)
    obtain ⟨q4, r4⟩ := np f4 v4 (u4 _ _ e4)
    obtain ⟨q5, r5⟩ := np f5 v5 (u5 _ _ e5)
    obtain ⟨q6, r6⟩ := np f6 v6 (u6 _ _ e6)
    obtain ⟨q7, r7⟩ := np f7 v7 (u7 _ _ e7)
    obtain ⟨q8, r8⟩ := np f8 v8 (u8 _ _ e8)
    obtain ⟨q9, r9⟩ := np f9 v9 (u9 _ _ e9)
    obtain ⟨q10, r10⟩ := np f10 v10 (u10 _ _ e10)
    obtain ⟨q11, r11⟩ := np f11 v11 (u11 _ _ e11)
    obtain ⟨q13, _⟩ := np f13 v13 e13
    have kk : Keep p H H2 := (Keep.trans kp (Keep.of u0)).trans kp'
    have fin : ∀ v, ValV K H2 v → (∀ q, v = .ref q → H q = none) → Q v H2 := fun v hv ne => k v H2 kk bx' hv ne
    have nr : ∀ {q : Addr}, H q = none → ∀ q', V.ref q = .ref q' → H q' = none := fun h q' z => by rw [← V.ref.inj z]; exact h
    have L1 : Lf 130 0 (.int (n1 : Int)) := lf_nat (by omega)
    have hsame : ∀ {q : Addr} {o : HO}, H2 q = some o → ∃ F : Hp, F q = none ∧ Same F H2 ∧ ∀ b, b ≠ q → F b = H2 b := fun {q o} e => ⟨del H2 q, del_same, fun b u z => by
      by_cases hb : b = q
      · rw [hb, del_same] at z
        cases z
      · rw [del_ne hb] at z
        exact z, fun b hb => del_ne hb⟩
    refine ⟨_, _, rfl, q13, ?_⟩
    have hj : j < 16 := by omega
    have hj' : j = 0 ∨ j = 1 ∨ j = 2 ∨ j = 3 ∨ j = 4 ∨ j = 5 ∨ j = 6 ∨ j = 7 ∨ j = 8 ∨ j = 9 ∨ j = 10 ∨ j = 11 ∨ j = 12 ∨ j = 13 ∨ j = 14 ∨ j = 15 := by omega
    rcases hj' with rfl | rfl | rfl | rfl | rfl | rfl | rfl | rfl | rfl | rfl | rfl | rfl | rfl | rfl | rfl | rfl
    · exact ⟨_, rfl, fin _ (.flat (.int _) rfl (L1.sho (by decide) (by decide)) (.base (.int _)) (by decide +kernel) (by decide +kernel)) (fun _ z => nomatch z)⟩
    · exact ⟨_, rfl, fin _ (.flat (.int _) rfl ((lf_int (by rw [Int.natAbs_neg]; exact Nat.lt_trans (show ((n1 : Nat) : Int).natAbs < 1000 by omega) (by decide))).sho (by decide) (by decide)) (.base (.int _)) (by decide +kernel) (by decide +kernel)) (fun _ z => nomatch z)⟩
    · exact ⟨_, rfl, fin _ (.flat (.int _) rfl ((lf_int (i := 10 ^ Int.toNat 29 + n1) (by
        have e : (10 : Int) ^ Int.toNat 29 = 100000000000000000000000000000 := by decide
        rw [e]
        have e2 : (10 : Nat) ^ 39 = 1000000000000000000000000000000000000000 := by decide
        rw [e2]
        omega)).sho (by decide) (by decide)) (.base (.int _)) (by decide +kernel) (by decide +kernel)) (fun _ z => nomatch z)⟩
    · exact ⟨_, rfl, fin _ (.flat (.str _) rfl ((lf_str tx1 tx2).sho (by decide) (by decide)) (.base (.str _)) (by decide +kernel) (by decide +kernel)) (fun _ z => nomatch z)⟩
    · exact ⟨_, rfl, fin _ (.flat (.str _) rfl ((lf_str (by decide +kernel) (by decide +kernel)).sho (by decide) (by decide)) (.base (.str _)) (by decide +kernel) (by decide +kernel)) (fun _ z => nomatch z)⟩
    · exact ⟨_, rfl, fin _ (.flat .non rfl ⟨rfl, by decide +kernel, by decide⟩ (.base .non) (by decide +kernel) (by decide +kernel)) (fun _ z => nomatch z)⟩
    · exact ⟨_, rfl, fin _ (.flat (.bl _) rfl ⟨rfl, by decide +kernel, by decide⟩ (.base (.bl _)) (by decide +kernel) (by decide +kernel)) (fun _ z => nomatch z)⟩
    · exact ⟨_, rfl, fin _ (.flat (.bl _) rfl ⟨rfl, by decide +kernel, by decide⟩ (.base (.bl _)) (by decide +kernel) (by decide +kernel)) (fun _ z => nomatch z)⟩
    · have LB : Lf 130 0 (.str (Str.ofString "b")) := lf_str (by decide +kernel) (by decide +kernel)
      have LT := lf_tup (ds := [.int (n1 : Int), .str (Str.ofString "b")]) (w := 130) (k := 0) (by simp [L1, LB])
      exact ⟨_, rfl, fin _ (.flat (.tup (SqT.of q1) (.cons (.int _) (.cons (.str _) .nil))) LT.nd (LT.sho (by simp) (by decide)) (.base (.tup q1)) (by decide +kernel) (by decide +kernel)) (nr r1)⟩
    · have LT := lf_tup (ds := []) (w := 130) (k := 0) (by simp)
      exact ⟨_, rfl, fin _ (.flat (.tup (SqT.of q2) .nil) LT.nd (LT.sho (by simp) (by decide)) (.base (.tup q2)) (by decide +kernel) (by decide +kernel)) (nr r2)⟩
    · obtain ⟨F, hF, sF, _⟩ := hsame q4
      have LT := lf_list (ds := [.int (n1 : Int)]) (w := 130) (k := 0) (by simp [L1])
      refine ⟨_, rfl, fin _ (.lst q4 hF sF (.cons (.int _) .nil) rfl (LT.sho (by simp) (by decide)) (fun m hm => ?_) (by simp)) (nr r4)⟩
      have LT := lf_list (ds := [.int (n1 : Int), .int (m : Int)]) (w := 130) (k := 0) (by simp [L1, lf_nat (show m < 100000 by omega)])
      exact ⟨LT.sho (by simp) (by decide), rfl⟩
    · obtain ⟨F, hF, sF, _⟩ := hsame q5
      have LT := lf_list (ds := []) (w := 130) (k := 0) (by simp)
      refine ⟨_, rfl, fin _ (.lst q5 hF sF .nil rfl (LT.sho (by simp) (by decide)) (fun m hm => ?_) (by simp)) (nr r5)⟩
      have LT := lf_list (ds := [.int (m : Int)]) (w := 130) (k := 0) (by simp [lf_nat (show m < 100000 by omega)])
      exact ⟨LT.sho (by simp) (by decide), rfl⟩
    · refine ⟨_, rfl, fin _ (.dct (l := []) q6 (sho_dict [] (by simp) (by simp)) (fun m i hm hi => sho_dict _ ?_ (by simp)) (fun m i => rfl) (by simp)) (nr r6)⟩
      intro p hp
      obtain rfl : p = (.inl (m : Int), i) := by simpa using hp
      exact ⟨lf_nat (show m < 100000 by omega), lf_int (Nat.lt_trans hi (by decide))⟩
    · refine ⟨_, rfl, fin _ (.dct (l := [(.inr "a", (n1 : Int))]) q7 (sho_dict _ ?_ (by simp)) (fun m i hm hi => sho_dict _ ?_ (by simp)) (fun m i => rfl) (by simp)) (nr r7)⟩
      · intro p hp
        obtain rfl : p = (.inr "a", (n1 : Int)) := by simpa using hp
        exact ⟨lf_str (by decide +kernel) (by decide +kernel), L1⟩
      · intro p hp
        have hp' : p = (.inr "a", (n1 : Int)) ∨ p = (.inl (m : Int), i) := by simpa using hp
        rcases hp' with rfl | rfl
        · exact ⟨lf_str (by decide +kernel) (by decide +kernel), L1⟩
        · exact ⟨lf_nat (show m < 100000 by omega), lf_int (Nat.lt_trans hi (by decide))⟩
    · have LB : Lf 130 0 (.str (Str.ofString "")) := lf_str (by decide +kernel) (by decide +kernel)
      have LT := lf_tup (ds := [.str (Str.ofString ""), .int (n1 : Int)]) (w := 130) (k := 0) (by simp [L1, LB])
      exact ⟨_, rfl, fin _ (.flat (.tup (SqT.of q8) (.cons (.str _) (.cons (.int _) .nil))) LT.nd (LT.sho (by simp) (by decide)) (.base (.tup q8)) (by decide +kernel) (by decide +kernel)) (nr r8)⟩
    · obtain ⟨F, hF, sF, oF⟩ := hsame q11
      have n1' : p10 ≠ p11 := fun e => by rw [e, f11] at e10; cases e10
      have n2' : p9 ≠ p11 := fun e => by
        have z := s10 _ _ e9
        rw [e, f11] at z; cases z
      have LX : Lf 131 1 (.str (Str.ofString "x")) := (lf_str (by decide +kernel) (by decide +kernel)).le (by decide) (by decide)
      have LA := lf_list (ds := [.int (n1 : Int)]) (w := 130) (k := 0) (by simp [L1])
      have LA' : Lf 131 1 (.list [.int (n1 : Int)]) := LA
      have LB := lf_tup (ds := [.str (Str.ofString "x"), .list [.int (n1 : Int)]]) (w := 131) (k := 1) (by simp [LX, LA'])
      have LB' : Lf 264 2 (.tuple [.str (Str.ofString "x"), .list [.int (n1 : Int)]]) := LB
      have LC := lf_list (ds := [.tuple [.str (Str.ofString "x"), .list [.int (n1 : Int)]]]) (w := 264) (k := 2) (by simp [LB'])
      refine ⟨_, rfl, fin _ (.lst q11 hF sF (.cons (.tup (SqT.of (by rw [oF _ n1']; exact q10)) (.cons (.str _) (.cons (.lst (SqL.of (by rw [oF _ n2']; exact q9)) (.cons (.int _) .nil)) .nil))) .nil) rfl (LC.sho (by simp) (by decide)) (fun m hm => ?_) (by simp)) (nr r11)⟩
      have LD := lf_list (ds := [.tuple [.str (Str.ofString "x"), .list [.int (n1 : Int)]], .int (m : Int)]) (w := 264) (k := 2) (by simp [LB', (lf_nat (show m < 100000 by omega)).le (w' := 264) (k' := 2) (by decide) (by decide)])
      exact ⟨LD.sho (by simp) (by decide), rfl⟩
theorem isk (T : Txt K mg a) {H : Hp} {e C : Addr} {fs : Option (List (Str × V))} {Q : VK} (hC : C ∈ Cs a) (hE : ExV H e C fs) (q : Q (.bl true) H) : rIsX K [.ref e, .ref a.CK] H Q := by
  refine ⟨e, C, fs, _, _, true, rfl, .own _, hE, (xcf T C hC).e, ?_, q⟩
  by_cases h : C = a.CK
  · rw [h]
    exact Wk.kit_self
  · refine Wk.kit_own (by simpa using h) T.kc T.kt ?_
    show PySem.W.mroIn K C (.ref a.CK) = _
    rw [(xcf T C hC).m]
    simp
theorem isv (T : Txt K mg a) {H : Hp} {e C : Addr} {fs : Option (List (Str × V))} {Q : VK} (hC : C ∈ Cs a) (hE : ExV H e C fs) (q : Q (.bl true) H) : rIsX K [.ref e, .ty "ValueError"] H Q := by
  refine ⟨e, C, fs, _, _, true, rfl, .ty _, hE, (xcf T C hC).e, ?_, q⟩
  refine Wk.kit_blt rfl (by decide +kernel) ?_
  show PySem.W.mroIn K C (.type "ValueError") = _
  rw [(xcf T C hC).m]
  rfl
/-- a drawn value, grown j times -/
inductive ValJ (K : PySem.W.Frag) (H : Hp) (j : Nat) : V → Prop
  | flat {v : V} {d : PyData} {T : String} (h : Dp K H v d) (n : d.hasDict = false) (s : Sho d) (t : TyX K H v (.type T)) (l : kitB T "list" = some false) (m : kitB T "dict" = some false) : ValJ K H j v
  | lst {p : Addr} {vs : List V} {ds : List PyData} (h : H p = some (.lst vs)) (hd : DpAll K H vs ds) (hn : PyData.hasDictAll ds = false) (s : Sho (.list ds)) (z : vs.length ≤ 10 + j)
      (g : j = 0 → ∃ F : Hp, F p = none ∧ Same F H ∧ DpAll K F vs ds ∧ ∀ n : Nat, n < 100 → Sho (.list (ds ++ [.int n])) ∧ PyData.hasDictAll (ds ++ [.int n]) = false) : ValJ K H j (.ref p)
  | dct {p : Addr} {l : List (Key × Int)} (h : H p = some (.dK (kvI l))) (s : Sho (.dict (kvD l))) (z : l.length ≤ 10 + j)
      (g : j = 0 → ∀ (n : Nat) (m : Int), n < 100 → m.natAbs < 100 → Sho (.dict (kvD (l ++ [(.inl n, m)]))) ∧ putK (kvI l) (.inl n) (.int m) = kvI (l ++ [(.inl n, m)])) : ValJ K H j (.ref p)
theorem ValV.wk {H : Hp} {v : V} (h : ValV K H v) : ValJ K H 0 v := by
  cases h with
  | flat h n s t l m => exact .flat h n s t l m
  | lst h hF e hd hn s g z => exact .lst h (dpAll_same e hd) hn s z fun _ => ⟨_, hF, e, hd, g⟩
  | dct h s g hp z => exact .dct h s z fun _ n m h1 h2 => ⟨g n m h1 h2, hp n m⟩
theorem ValJ.dq {j : Nat} {H : Hp} {v : V} (h : ValJ K H j v) : ∃ d, DQ K H v d ∧ Sho d := by
  cases h with
  | flat h n s t l m => exact ⟨_, .inl ⟨h, n⟩, s⟩
  | lst h hd hn s z => exact ⟨_, .inl ⟨.lst (SqL.of h) hd, by rw [PyData.hasDict]; exact hn⟩, s⟩
  | dct h s z => exact ⟨_, .inr ⟨_, _, rfl, h, rfl⟩, s⟩
theorem dpAll_snoc {H : Hp} {v : V} {d : PyData} (h : Dp K H v d) : ∀ {vs : List V} {ds : List PyData}, DpAll K H vs ds → DpAll K H (vs ++ [v]) (ds ++ [d])
  | _, _, .nil => .cons h .nil
  | _, _, .cons a b => .cons a (dpAll_snoc h b)
theorem TyX.same {H H' : Hp} (e : Same H H') {v : V} {t : String} (h : TyX K H v (.type t)) : TyX K H' v (.type t) := by
  cases h with
  | base b =>
    cases b with
    | non => exact .base .non
    | bl x => exact .base (.bl x)
    | int x => exact .base (.int x)
    | str x => exact .base (.str x)
    | flt x => exact .base (.flt x)
    | lst q => exact .base (.lst (e _ _ q))
    | frz q => exact .base (.frz (e _ _ q))
    | tup q => exact .base (.tup (e _ _ q))
    | dK q => exact .base (.dK (e _ _ q))
    | dT q => exact .base (.dT (e _ _ q))
  | byt b => exact .byt b
  | set q => exact .set (e _ _ q)
  | kList q c => exact .kList q c
  | kTuple q c => exact .kTuple q c
  | kDict q c => exact .kDict q c
  | fTuple q => exact .fTuple (e _ _ q)
  | fDict q => exact .fDict (e _ _ q)
theorem ValV.same {H H' : Hp} (e : Same H H') {v : V} (h : ValV K H v) : ValV K H' v := by
  cases h with
  | flat h n s t l m => exact .flat (dp_same e h) n s (TyX.same e t) l m
  | lst h hF e' hd hn s g z => exact .lst (e _ _ h) hF (e'.trans e) hd hn s g z
  | dct h s g hp z => exact .dct (e _ _ h) s g hp z
theorem ValJ.same {j : Nat} {H H' : Hp} (e : Same H H') {v : V} (h : ValJ K H j v) : ValJ K H' j v := by
  cases h with
  | flat h n s t l m => exact .flat (dp_same e h) n s (TyX.same e t) l m
  | lst h hd hn s z g => exact .lst (e _ _ h) (dpAll_same e hd) hn s z fun hj => (g hj).elim fun F ⟨a, b, c, d⟩ => ⟨F, a, b.trans e, c, d⟩
  | dct h s z g => exact .dct (e _ _ h) s z g
theorem dpAll_bools {H : Hp} {α : Type} (f : α → Bool) : ∀ l : List α, DpAll K H (l.map fun m => V.bl (f m)) (l.map fun m => PyData.bool (f m))
  | [] => .nil
  | _ :: l => .cons (.bl _) (dpAll_bools f l)
def only (i : Nat) : PyData := .list ((List.range 23).map fun m => .bool (decide (m = i)))
theorem only_ok : ∀ i < 23, SeqAt.shaped (only i) = true := by decide +kernel
theorem bools_eq {C : Addr} {i : Nat} (nd : (Cs a).Nodup) (hC : (Cs a)[i]? = some C) : ((Cs a).map fun D => V.bl (decide (C = D))) = (List.range 23).map fun m => V.bl (decide (m = i)) := by
  have hl : (Cs a).length = 23 := rfl
  refine List.ext_getElem (by simp [hl]) fun m h1 h2 => ?_
  obtain ⟨hi, e⟩ := List.getElem?_eq_some_iff.mp hC
  simp only [List.getElem_map, List.getElem_range, V.bl.injEq, decide_eq_decide]
  rw [← e]
  constructor
  · intro h
    exact ((List.getElem_inj nd).mp h).symm
  · intro h
    subst h
    rfl
def sp_right (K : PySem.W.Frag) : Sp := fun vs H Q _ => ∃ (p : Addr) (n i : Nat), vs = [.ref p, .int (i : Int)] ∧ Box H p n ∧ n ≤ 1000 ∧ i < 23 ∧ ∀ H', Keep p H H' → Box H' p (n + 2) → Q (.bl true) H'
theorem ok_right (T : Txt K mg a) : FnG P w K mg base CX0 4 a.f_l_right a.d_l_right ["_law_box_here", "_law_way"] (sp_right K) := by
  have O_l_value : FnOk P w K mg base CX0 _ _ _ _ _ := ok_value T
  have O_l_made : FnOk P w K mg base CX0 _ _ _ _ _ := ok_made T
  have O_l_classes : FnOk P w K mg base CX0 _ _ _ _ _ := ok_classes T
  have O_l_field : FnOk P w K mg base CX0 _ _ _ _ _ := ok_field T
  have O_l_same : FnG P w K mg base CX0 _ _ _ _ _ := ok_same T
  refine okG T.h_l_right.F sc_l_right (fun vs H Q E h => ?_) (fun cdv A outer s H vs Q E hr hgd h => ?_)
  · obtain ⟨p, n, i, rfl, _⟩ := h
    rfl
  · obtain ⟨p, n, i, rfl, hB, hn, hi, k⟩ := h
    refine ⟨_, (pss_cons (ps_set (i := 2) sc_l_right.nd rfl (.inl rfl) (pe_call O_l_value (hr.mono (by decide)) rfl T.h_l_value.g T.h_l_value.F.kp T.b_l_value .nil pass0 (pa_cons (pv 0) (pa_nil))))
  (pss_cons (ps_set (i := 3) sc_l_right.nd rfl (.inl rfl) (pe_call O_l_made (hr.mono (by decide)) rfl T.h_l_made.g T.h_l_made.F.kp T.b_l_made .nil pass0 (pa_cons (pv 1) (pa_cons (pv 2) (pa_nil)))))
  (pss_cons (ps_if (PW.pt (pw_or (pt_not (pt_val (pe_callB Wk.call_isX (by rfl) T.z_isinstance (by decide +kernel) (pa_cons (pv 3) (pa_cons (Wk.pe_gref T.kb.mgK) pa_nil))))) (pw_or1 (pt_not (pt_val (pe_callB Wk.call_isX (by rfl) T.z_isinstance (by decide +kernel) (pa_cons (pv 3) (pa_cons (pe_bltn (by rfl) T.z_ValueError (by decide +kernel) (show RelV (.ty "ValueError") _ from rfl)) pa_nil)))))))) (pss_one (ps_ret pe_bl)) pss_nil)
  (pss_cons (ps_if (pt_cmpR (op_neD hr.units) (pe_call O_l_classes (hr.mono (by decide)) rfl T.h_l_classes.g T.h_l_classes.F.kp T.b_l_classes .nil pass0 (pa_cons (pv 3) (pa_nil))) (pe_lc (own := [("_law_k", 4)]) (g := gName 4) (tt := tYes) rfl sc_l_right.nd (pi_range1 rfl T.z_range (pa_cons pe_int (pa_nil))) (blkOk_by (own := [("_law_k", 4)]) (N := ["_law_box_here", "_law_way", "_law_value_here", "_law_e", "_law_k", "_law_turn"]) (sc := defScope s_l_right) (by decide +kernel)) (fun _ _ _ _ _ => pg_name (i := 4) sc_l_right.nd rfl (Or.inl rfl)) (fun _ _ _ _ _ => pts_nil) (fun _ _ _ _ _ => (pe_cmpR op_eq (pv 4) (pv 1) (nomark _)))) (nomark _)) (pss_one (ps_ret pe_bl)) pss_nil)
  (pss_cons (ps_if (pt_cmpR op_gt (pv 1) pe_int (nomark _)) (pss_one (ps_ret pe_bl)) pss_nil)
  (pss_cons (ps_for PassesOwn.never rfl (pi_range1 rfl T.z_range (pa_cons pe_int (pa_nil))) (pg_name (i := 5) sc_l_right.nd rfl (.inl rfl)) (pss_cons (ps_if (pt_not (pt_val (Wk.pe_callG O_l_same (hr.mono (by decide)) hgd rfl T.h_l_same.g T.h_l_same.F.kp T.b_l_same .nil pass0 (pa_cons (pe_call O_l_field (hr.mono (by decide)) rfl T.h_l_field.g T.h_l_field.F.kp T.b_l_field .nil pass0 (pa_cons (pv 1) (pa_cons (pv 3) (pa_nil)))) (pa_cons (pv 2) (pa_nil)))))) (pss_one (ps_ret pe_bl)) pss_nil)
  (pss_cons (ps_if (pt_val (pe_callB call_isi (by rfl) T.z_isinstance (by decide +kernel) (pa_cons (pv 2) (pa_cons (pe_bltn (by rfl) T.z_list (by decide +kernel) (show RelV (.ty "list") _ from rfl)) pa_nil)))) (pss_one (ps_expr (Wk.pe_bmK rfl PySem.F.plainAttrs_list PySem.F.slot_list_append PySem.F.type_list_append mt_append (pv 2) (pa_cons (pv 1) (pa_nil))))) pss_nil)
  (pss_one (ps_if (pt_val (pe_callB call_isi (by rfl) T.z_isinstance (by decide +kernel) (pa_cons (pv 2) (pa_cons (pe_bltn (by rfl) T.z_dict (by decide +kernel) (show RelV (.ty "dict") _ from rfl)) pa_nil)))) (pss_one (ps_dput (hu_of hr) (pv 2) (pv 1) (pv 5) rfl)) pss_nil)))))
  (pss_one (ps_ret pe_bl)))))))), ?_⟩
    walk_at "rd"
    refine ⟨p, n, rfl, hB, by omega, fun v H1 kp bx hv nv => ?_⟩
    walk_at "rd"
    refine ⟨i, v, rfl, hi, fun e C H2 s2 hC hE => ?_⟩
    walk_at "rd"
    have hCm : C ∈ Cs a := List.mem_of_getElem? hC
    refine isk T hCm hE ⟨true, rfl, ?_⟩
    rw [if_neg (by decide)]
    refine isv T hCm hE ⟨true, rfl, ?_⟩
    rw [if_neg (by decide)]
    refine ⟨e, C, _, rfl, hCm, hE, fun l H3 s3 hl => ?_⟩
    refine lc_hide fun g' tt' te' Q' hg' htt' hte' hQ' => ?_
    unfold tLc iRng1
    walk_at "rd"
    refine ⟨by decide, by decide, fun z hz => ?_⟩
    refine lc_range (lo := 0) (n := Int.toNat 23) (g := g') (tt := tt') (te := te') (vs := [4]) (fun j H' => Same H3 H' ∧ H' z = some (.lst ((List.range j).map fun m => V.bl (decide (m = i))))) ?_ ?_ ?_
    · exact ⟨Same.new hz, upd_same⟩
    · rintro j H4 hj ⟨s4, h4⟩
      rw [hg', htt', hte']
      simp only [wipe]
      walk_at "rd"
      have e1 : decide (0 + (j : Int) = (i : Int)) = decide (j = i) := by
        rw [decide_eq_decide]
        omega
      rw [e1]
      exact ⟨_, h4, sz_lt (by rw [List.length_map, List.length_range]; have h : j < 23 := hj; omega), Same.mut s4 hz, by rw [List.range_succ, List.map_append]; rfl⟩
    · rintro H4 ⟨s4, h4⟩
      rw [hQ']
      have nd : (Cs a ++ [a.CK]).Nodup := T.nd
      have nd1 := (List.nodup_append.mp nd).1
      have hl4 := s4 _ _ hl
      rw [bools_eq nd1 hC] at hl4
      refine ⟨only i, only i, .lst (SqL.of hl4) (dpAll_bools _ _), .lst (SqL.of h4) (dpAll_bools _ _), only_ok i hi, only_ok i hi, ?_⟩
      rw [PySem.SeqAt.eqv_refl _ (SeqAt.canLay_of_shaped (only_ok i hi))]
      refine ⟨false, rfl, ?_⟩
      rw [if_neg (by decide)]
      have kp4 : Keep p H H4 := Keep.trans kp (Keep.of (s2.trans (s3.trans s4)))
      have bx4 : Box H4 p (n + 2) := bx.same (s2.trans (s3.trans s4))
      refine ite2 (fun h18 => k _ kp4 bx4) (fun h18 => ?_)
      have hi19 : i < 19 := by omega
      obtain ⟨f, hf⟩ : ∃ f, fieldOf[i]? = some f := ⟨_, List.getElem?_eq_getElem (by simpa [fieldOf] using hi19)⟩
      have hE4 : ExV H4 e C (some [(f, v)]) := by
        have h := exv_same hE (s3.trans s4)
        unfold fsOf at h
        rw [hf] at h
        exact h
      have hv4 : ValV K H4 v := hv.same (s2.trans (s3.trans s4))
      refine for_hide fun tb D htb hD => ?_
      unfold tFor iRng1
      walk_at "rd"
      refine ⟨by decide, by decide, ?_⟩
      refine for_range (lo := 0) (n := Int.toNat 2) (g := gName 5) (tb := tb) (D := D) (fun j σ H' => ∃ x, σ = [some (V.ref p), some (V.int i), some v, some (V.ref e), none, x] ∧ ExV H' e C (some [(f, v)]) ∧ Keep p H H' ∧ Box H' p (n + 2) ∧ (j < 2 → ValJ K H' j v)) ?_ ?_ ?_
      · exact ⟨_, rfl, hE4, kp4, bx4, fun _ => hv4.wk⟩
      · rintro j σ H5 hj ⟨x, rfl, hE5, kp5, bx5, hv5⟩
        rw [htb]
        walk_at "rd"
        refine ⟨e, C, i, f, v, rfl, hC, hf, hE5, fun H6 s6 => ?_⟩
        walk_at "rd"
        have hw : ValJ K H6 j v := (hv5 hj).same s6
        obtain ⟨d, hd, hs⟩ := hw.dq
        refine ⟨v, v, d, rfl, hd, hd, hs, ?_⟩
        walk_at "rd"
        rw [if_neg (by decide)]
        have hE6 := exv_same hE5 s6
        have kp6 := Keep.trans kp5 (Keep.of s6)
        have bx6 := bx5.same s6
        have mutq : ∀ {q : Addr} {o o' : HO}, v = .ref q → H6 q = some o → (∀ b D d, o ≠ exo b D d) → (∀ d l, o ≠ exd d l) → ExV (upd H6 q o') e C (some [(f, v)]) ∧ Keep p H (upd H6 q o') ∧ Box (upd H6 q o') p (n + 2) := fun {q o o'} ev hq n1 n2 => by
          have hq0 : H q = none := nv q ev
          refine ⟨?_, fun b u nb z => ?_, Box.upd bx6 (hB.ne hq0).symm⟩
          · obtain ⟨d, x1, x2⟩ := hE6
            refine ⟨d, ?_, ?_⟩
            · rw [upd_ne (fun z => by rw [z, hq] at x1; exact n1 _ _ _ (Option.some.inj x1))]
              exact x1
            · rw [upd_ne (fun z => by rw [z, hq] at x2; exact n2 _ _ (Option.some.inj x2))]
              exact x2
          · rw [upd_ne (ne_of_none z hq0)]
            exact kp6 _ _ nb z
        have hj2 : j = 0 ∨ j = 1 := by have hj' : j < 2 := hj; omega
        cases hw with
        | flat h nn s ty l m =>
          refine ⟨_, _, _, _, false, rfl, .ty _, ty, kit_ty l, false, rfl, ?_⟩
          rw [if_neg (by decide)]
          refine ⟨_, _, _, _, false, rfl, .ty _, ty, kit_ty m, false, rfl, ?_⟩
          rw [if_neg (by decide)]
          exact ⟨hE6, kp6, bx6, fun _ => .flat h nn s ty l m⟩
        | @lst q vs ds h hd' hn' s z g =>
          refine ⟨_, _, _, _, true, rfl, .ty _, .base (.lst h), kit_ty (by decide +kernel), true, rfl, ?_⟩
          rw [if_pos rfl]
          refine ⟨.inl ⟨rfl, _, .inl (.inl h)⟩, q, rfl, vs, h, sz_lt (by omega), ?_⟩
          obtain ⟨m1, m2, m3⟩ := mutq (o' := .lst (vs ++ [V.int i])) rfl h (fun _ _ _ z => nomatch z) (fun _ _ z => nomatch z)
          refine ⟨_, _, _, _, false, rfl, .ty _, .base (.lst upd_same), kit_ty (by decide +kernel), false, rfl, ?_⟩
          rw [if_neg (by decide)]
          refine ⟨m1, m2, m3, fun hj3 => ?_⟩
          obtain ⟨F, f1, f2, f3, f4⟩ := g (by omega)
          obtain ⟨g1, g2⟩ := f4 i (by omega)
          exact .lst upd_same (dpAll_snoc (.int _) (dpAll_same (Same.mut f2 f1) f3)) g2 g1 (by rw [List.length_append]; simp; omega) (fun z => by omega)
        | @dct q l h s z g =>
          refine ⟨_, _, _, _, false, rfl, .ty _, .base (.dK h), kit_ty (by decide +kernel), false, rfl, ?_⟩
          rw [if_neg (by decide)]
          refine ⟨_, _, _, _, true, rfl, .ty _, .base (.dK h), kit_ty (by decide +kernel), true, rfl, ?_⟩
          rw [if_pos rfl]
          obtain ⟨m1, m2, m3⟩ := mutq (o' := .dK (putK (kvI l) (.inl (i : Int)) (.int (0 + j)))) rfl h (fun _ _ _ z => nomatch z) (fun _ _ z => nomatch z)
          refine ⟨q, rfl, _, DPut.k (k := .inl (i : Int)) h (sz_lt (by unfold kvI; rw [List.length_map]; omega)), m1, m2, m3, fun hj3 => ?_⟩
          obtain ⟨g1, g2⟩ := g (by omega) i (0 + j) (by omega) (by omega)
          refine .dct (l := l ++ [((Sum.inl (i : Int) : Key), (0 + (j : Int) : Int))]) (by rw [upd_same, g2]) g1 (by rw [List.length_append]; simp; omega) (fun z => by omega)
      · rintro σ H5 ⟨x, rfl, hE5, kp5, bx5, hv5⟩
        rw [hD]
        exact k _ kp5 bx5
def sp_law (K : PySem.W.Frag) : Sp := fun vs H Q _ => ∃ (p : Addr) (ns : List Int), vs = [.ref p] ∧ SqL K H p (ns.map V.int) ∧ ns.length ≤ 63 ∧ ∀ H', Q (.bl true) H'
theorem ok_law (T : Txt K mg a) : FnG P w K mg base CX0 19 a.f_law a.d_law ["_law_script"] (sp_law K) := by
  have O_l_cell : FnOk P w K mg base CX0 _ _ _ _ _ := ok_l_cell T
  have O_l_box : FnOk P w K mg base CX0 _ _ _ _ _ := ok_l_box T
  have O_l_mixed : FnOk P w K mg base CX0 _ _ _ _ _ := ok_mixed T
  have O_l_right : FnG P w K mg base CX0 _ _ _ _ _ := ok_right T
  refine okG T.h_law.F sc_law (fun vs H Q E h => ?_) (fun cdv A outer s H vs Q E hr hgd h => ?_)
  · obtain ⟨p, ns, rfl, _⟩ := h
    rfl
  · obtain ⟨p, ns, rfl, hS, hn, k⟩ := h
    refine ⟨_, (pss_cons (ps_for PassesOwn.never rfl (pi_range1 rfl T.z_range (pa_cons (pe_callB (call_max2 rfl) (by rfl) T.z_max (by decide +kernel) (pa_cons pe_int (pa_cons (pe_callB (call_min2 rfl) (by rfl) T.z_min (by decide +kernel) (pa_cons pe_int (pa_cons (pe_callB call_len_seq (by rfl) T.z_len (by decide +kernel) (pa_cons (pv 0) (pa_nil))) (pa_nil)))) (pa_nil)))) (pa_nil))) (pg_name (i := 1) sc_law.nd rfl (.inl rfl)) (pss_cons (ps_set (i := 2) sc_law.nd rfl (.inl rfl) (pe_call O_l_box (hr.mono (by decide)) rfl T.h_l_box.g T.h_l_box.F.kp T.b_l_box .nil pass0 (pa_cons (pe_call O_l_cell (hr.mono (by decide)) rfl T.h_l_cell.g T.h_l_cell.F.kp T.b_l_cell .nil pass0 (pa_cons (pv 0) (pa_cons (pv 1) (pa_nil)))) (pa_nil))))
  (pss_one (ps_for PassesOwn.never rfl (pi_list (pe_slice sl_list (pe_call O_l_mixed (hr.mono (by decide)) rfl T.h_l_mixed.g T.h_l_mixed.F.kp T.b_l_mixed .nil pass0 (pa_cons (pv 2) (pa_cons (pe_listRg (by rfl) (by rfl) T.z_list (prg_1 (by rfl) T.z_range pe_int)) (pa_nil)))) po_none (po_some pe_int))) (pg_name (i := 3) sc_law.nd rfl (.inl rfl)) (pss_one (ps_if (pt_not (pt_val (Wk.pe_callG O_l_right (hr.mono (by decide)) hgd rfl T.h_l_right.g T.h_l_right.F.kp T.b_l_right .nil pass0 (pa_cons (pv 2) (pa_cons (pv 3) (pa_nil)))))) (pss_one (ps_ret pe_bl)) pss_nil))))))
  (pss_one (ps_ret pe_bl))), ?_⟩
    refine for_hide fun tb D htb hD => ?_
    unfold tFor iRng1
    walk_at "rd"
    refine ⟨_, .inl hS, ?_⟩
    generalize hm : (if (if (((ns.map V.int).length : Nat) : Int) < 8 then (((ns.map V.int).length : Nat) : Int) else 8) > 3 then if (((ns.map V.int).length : Nat) : Int) < 8 then (((ns.map V.int).length : Nat) : Int) else 8 else 3) = many
    have hm0 : 0 ≤ many ∧ many ≤ 8 := by
      rw [← hm]
      split
      · split <;> omega
      · omega
    refine ⟨by omega, by omega, ?_⟩
    refine for_range (lo := 0) (n := many.toNat) (g := gName 1) (tb := tb) (D := D) (fun j σ H' => ∃ x1 x2 x3, σ = [some (V.ref p), x1, x2, x3] ∧ Same H H') ⟨_, _, _, rfl, Same.refl H⟩ ?_ ?_
    · rintro j σ H1 hj ⟨x1, x2, x3, rfl, s1⟩
      rw [htb]
      walk_at "rd"
      refine ⟨p, ns, j, by simp, s1.seq hS, by omega, fun c => ?_⟩
      walk_at "rd"
      refine ⟨c, rfl, fun H2 q s2 hq hB => ?_⟩
      refine for_hide fun tb2 D2 htb2 hD2 => ?_
      unfold tFor iList
      walk_at "rd"
      refine ⟨by unfold RgOk; decide, fun l hl => ?_⟩
      have e23 : rgV 0 23 = vints (List.range 23) := by decide
      rw [e23]
      have nql : q ≠ l := (hB.ne hl).symm
      refine ⟨q, l, 0, List.range 23, rfl, Box.upd hB nql, by decide, upd_same, by decide, fun r ys H3 hlen hmem kp bx hr3 => ?_⟩
      refine ⟨r, _, rfl, SqL.of hr3, fun t ht => ?_⟩
      walk_at "rd"
      have kp2 : Keep q H2 H3 := Keep.trans (Keep.of (Same.new hl)) kp
      have hq0 : H q = none := s1.free hq
      have s3 : Same H H3 := Keep.same (kp2.trans Keep.refl) (s1.trans s2) hq0
      have ntq : q ≠ t := (bx.ne ht).symm
      refine ⟨⟨_, SqL.of upd_same⟩, ?_⟩
      refine for_list (a := t) (xs := cutV (vints ys) none (some 12)) (g := gName 3) (tb := tb2) (D := D2) (fun i σ H' => ∃ x3, σ = [some (V.ref p), some (V.int (0 + (j : Int))), some (V.ref q), x3] ∧ H' t = some (.lst (cutV (vints ys) none (some 12))) ∧ Same H H' ∧ Box H' q (100 + 2 * i)) ⟨_, rfl, upd_same, s3.trans (Same.new ht), Box.upd (bx.more (by omega)) ntq⟩ ?_ ?_ ?_
      · rintro i σ H4 hi ⟨x3, rfl, h4, s4, b4⟩
        exact SqL.of h4
      · rintro i x σ H4 hx ⟨x3, rfl, h4, s4, b4⟩
        rw [htb2]
        have hxm : x ∈ vints ys := by
          have h := List.mem_of_getElem? hx
          unfold cutV at h
          exact List.mem_of_mem_drop (List.mem_of_mem_take h)
        obtain ⟨m, hm1, rfl⟩ := List.mem_map.mp hxm
        have hm2 : m < 23 := List.mem_range.mp (hmem m hm1)
        have hi2 : i < 23 := by
          obtain ⟨h, _⟩ := List.getElem?_eq_some_iff.mp hx
          have h2 : (cutV (vints ys) none (some 12)).length ≤ ys.length := by
            unfold cutV vints
            rw [List.length_take, List.length_drop, List.length_map]
            omega
          rw [hlen, List.length_range] at h2
          omega
        walk_at "rd"
        refine ⟨q, 100 + 2 * i, m, rfl, b4, by omega, hm2, fun H5 kp5 bx5 => ?_⟩
        walk_at "rd"
        rw [if_neg (by decide)]
        refine ⟨kp5 _ _ (Ne.symm ntq) h4, Keep.same kp5 s4 hq0, bx5.more (by omega)⟩
      · rintro σ H4 ⟨x3, rfl, h4, s4, b4⟩
        rw [hD2]
        exact ⟨_, _, _, rfl, s4⟩
    · rintro σ H1 ⟨x1, x2, x3, rfl, s1⟩
      rw [hD]
      exact k H1
end
theorem txt_mk {K : PySem.W.Frag} {h : Heap} {mg : Str → Option Value} {CK C_ByZero f_ByZero_init C_BadText f_BadText_init C_Twice f_Twice_init C_BadName f_BadName_init C_BadFilling f_BadFilling_init C_BadLine f_BadLine_init C_Unknown f_Unknown_init C_BadMacro f_BadMacro_init C_BadPlace f_BadPlace_init C_BadKnot f_BadKnot_init C_NoKind f_NoKind_init C_BadForm f_BadForm_init C_BadKind f_BadKind_init C_BadTree f_BadTree_init C_BadUnits f_BadUnits_init C_BadBudget f_BadBudget_init C_BadStep f_BadStep_init C_BadDeeds f_BadDeeds_init C_BadWeight f_BadWeight_init C_TooMany f_TooMany_init C_NoSuch f_NoSuch_init C_NothingToUndo f_NothingToUndo_init C_NothingToRedo f_NothingToRedo_init f_l_cell f_l_box f_l_take f_l_mixed f_l_value f_l_made f_l_field f_l_classes f_l_same f_l_right f_law : Addr} {d_ByZero_init d_BadText_init d_Twice_init d_BadName_init d_BadFilling_init d_BadLine_init d_Unknown_init d_BadMacro_init d_BadPlace_init d_BadKnot_init d_NoKind_init d_BadForm_init d_BadKind_init d_BadTree_init d_BadUnits_init d_BadBudget_init d_BadStep_init d_BadDeeds_init d_BadWeight_init d_TooMany_init d_NoSuch_init d_NothingToUndo_init d_NothingToRedo_init d_l_cell d_l_box d_l_take d_l_mixed d_l_value d_l_made d_l_field d_l_classes d_l_same d_l_right d_law : FuncData} (X : K.In h) (G : h.Ns mainGlobals mg)
    (kb : Wk.KBase K mg CK)
    (e_ByZero : Wk.ExcT K mg "ByZero" C_ByZero f_ByZero_init)
    (F_ByZero_init : Fun K "__init__" "ByZero.__init__" s_ByZero_init f_ByZero_init d_ByZero_init)
    (e_BadText : Wk.ExcT K mg "BadText" C_BadText f_BadText_init)
    (F_BadText_init : Fun K "__init__" "BadText.__init__" s_BadText_init f_BadText_init d_BadText_init)
    (n_BadText_at : PySem.W.findIn K (.ref C_BadText) "at" = some none)
    (e_Twice : Wk.ExcT K mg "Twice" C_Twice f_Twice_init)
    (F_Twice_init : Fun K "__init__" "Twice.__init__" s_Twice_init f_Twice_init d_Twice_init)
    (n_Twice_name : PySem.W.findIn K (.ref C_Twice) "name" = some none)
    (e_BadName : Wk.ExcT K mg "BadName" C_BadName f_BadName_init)
    (F_BadName_init : Fun K "__init__" "BadName.__init__" s_BadName_init f_BadName_init d_BadName_init)
    (n_BadName_name : PySem.W.findIn K (.ref C_BadName) "name" = some none)
    (e_BadFilling : Wk.ExcT K mg "BadFilling" C_BadFilling f_BadFilling_init)
    (F_BadFilling_init : Fun K "__init__" "BadFilling.__init__" s_BadFilling_init f_BadFilling_init d_BadFilling_init)
    (n_BadFilling_name : PySem.W.findIn K (.ref C_BadFilling) "name" = some none)
    (e_BadLine : Wk.ExcT K mg "BadLine" C_BadLine f_BadLine_init)
    (F_BadLine_init : Fun K "__init__" "BadLine.__init__" s_BadLine_init f_BadLine_init d_BadLine_init)
    (n_BadLine_number : PySem.W.findIn K (.ref C_BadLine) "number" = some none)
    (e_Unknown : Wk.ExcT K mg "Unknown" C_Unknown f_Unknown_init)
    (F_Unknown_init : Fun K "__init__" "Unknown.__init__" s_Unknown_init f_Unknown_init d_Unknown_init)
    (n_Unknown_name : PySem.W.findIn K (.ref C_Unknown) "name" = some none)
    (e_BadMacro : Wk.ExcT K mg "BadMacro" C_BadMacro f_BadMacro_init)
    (F_BadMacro_init : Fun K "__init__" "BadMacro.__init__" s_BadMacro_init f_BadMacro_init d_BadMacro_init)
    (n_BadMacro_name : PySem.W.findIn K (.ref C_BadMacro) "name" = some none)
    (e_BadPlace : Wk.ExcT K mg "BadPlace" C_BadPlace f_BadPlace_init)
    (F_BadPlace_init : Fun K "__init__" "BadPlace.__init__" s_BadPlace_init f_BadPlace_init d_BadPlace_init)
    (n_BadPlace_given : PySem.W.findIn K (.ref C_BadPlace) "given" = some none)
    (e_BadKnot : Wk.ExcT K mg "BadKnot" C_BadKnot f_BadKnot_init)
    (F_BadKnot_init : Fun K "__init__" "BadKnot.__init__" s_BadKnot_init f_BadKnot_init d_BadKnot_init)
    (n_BadKnot_given : PySem.W.findIn K (.ref C_BadKnot) "given" = some none)
    (e_NoKind : Wk.ExcT K mg "NoKind" C_NoKind f_NoKind_init)
    (F_NoKind_init : Fun K "__init__" "NoKind.__init__" s_NoKind_init f_NoKind_init d_NoKind_init)
    (e_BadForm : Wk.ExcT K mg "BadForm" C_BadForm f_BadForm_init)
    (F_BadForm_init : Fun K "__init__" "BadForm.__init__" s_BadForm_init f_BadForm_init d_BadForm_init)
    (n_BadForm_number : PySem.W.findIn K (.ref C_BadForm) "number" = some none)
    (e_BadKind : Wk.ExcT K mg "BadKind" C_BadKind f_BadKind_init)
    (F_BadKind_init : Fun K "__init__" "BadKind.__init__" s_BadKind_init f_BadKind_init d_BadKind_init)
    (n_BadKind_given : PySem.W.findIn K (.ref C_BadKind) "given" = some none)
    (e_BadTree : Wk.ExcT K mg "BadTree" C_BadTree f_BadTree_init)
    (F_BadTree_init : Fun K "__init__" "BadTree.__init__" s_BadTree_init f_BadTree_init d_BadTree_init)
    (n_BadTree_given : PySem.W.findIn K (.ref C_BadTree) "given" = some none)
    (e_BadUnits : Wk.ExcT K mg "BadUnits" C_BadUnits f_BadUnits_init)
    (F_BadUnits_init : Fun K "__init__" "BadUnits.__init__" s_BadUnits_init f_BadUnits_init d_BadUnits_init)
    (n_BadUnits_given : PySem.W.findIn K (.ref C_BadUnits) "given" = some none)
    (e_BadBudget : Wk.ExcT K mg "BadBudget" C_BadBudget f_BadBudget_init)
    (F_BadBudget_init : Fun K "__init__" "BadBudget.__init__" s_BadBudget_init f_BadBudget_init d_BadBudget_init)
    (n_BadBudget_given : PySem.W.findIn K (.ref C_BadBudget) "given" = some none)
    (e_BadStep : Wk.ExcT K mg "BadStep" C_BadStep f_BadStep_init)
    (F_BadStep_init : Fun K "__init__" "BadStep.__init__" s_BadStep_init f_BadStep_init d_BadStep_init)
    (n_BadStep_given : PySem.W.findIn K (.ref C_BadStep) "given" = some none)
    (e_BadDeeds : Wk.ExcT K mg "BadDeeds" C_BadDeeds f_BadDeeds_init)
    (F_BadDeeds_init : Fun K "__init__" "BadDeeds.__init__" s_BadDeeds_init f_BadDeeds_init d_BadDeeds_init)
    (n_BadDeeds_given : PySem.W.findIn K (.ref C_BadDeeds) "given" = some none)
    (e_BadWeight : Wk.ExcT K mg "BadWeight" C_BadWeight f_BadWeight_init)
    (F_BadWeight_init : Fun K "__init__" "BadWeight.__init__" s_BadWeight_init f_BadWeight_init d_BadWeight_init)
    (n_BadWeight_given : PySem.W.findIn K (.ref C_BadWeight) "given" = some none)
    (e_TooMany : Wk.ExcT K mg "TooMany" C_TooMany f_TooMany_init)
    (F_TooMany_init : Fun K "__init__" "TooMany.__init__" s_TooMany_init f_TooMany_init d_TooMany_init)
    (n_TooMany_count : PySem.W.findIn K (.ref C_TooMany) "count" = some none)
    (e_NoSuch : Wk.ExcT K mg "NoSuch" C_NoSuch f_NoSuch_init)
    (F_NoSuch_init : Fun K "__init__" "NoSuch.__init__" s_NoSuch_init f_NoSuch_init d_NoSuch_init)
    (n_NoSuch_name : PySem.W.findIn K (.ref C_NoSuch) "name" = some none)
    (e_NothingToUndo : Wk.ExcT K mg "NothingToUndo" C_NothingToUndo f_NothingToUndo_init)
    (F_NothingToUndo_init : Fun K "__init__" "NothingToUndo.__init__" s_NothingToUndo_init f_NothingToUndo_init d_NothingToUndo_init)
    (e_NothingToRedo : Wk.ExcT K mg "NothingToRedo" C_NothingToRedo f_NothingToRedo_init)
    (F_NothingToRedo_init : Fun K "__init__" "NothingToRedo.__init__" s_NothingToRedo_init f_NothingToRedo_init d_NothingToRedo_init)
    (tG : PySem.W.specialIn K (.builtin "object.__class__") "__get__" = some (some (.builtin "getset_descriptor.__get__")))
    (tT : PySem.W.takesIn K (.builtin "object.__class__") = some true)
    (kc : PySem.W.isClsIn K CK = true)
    (kt : PySem.W.typeIn K (.ref CK) = some (.type "type"))
    (xa_BadText : PySem.W.findIn K (.ref C_BadText) "__class__" = some (some (.builtin "object.__class__")))
    (mr_BadText : Wk.MroX K C_BadText CK)
    (xa_Twice : PySem.W.findIn K (.ref C_Twice) "__class__" = some (some (.builtin "object.__class__")))
    (mr_Twice : Wk.MroX K C_Twice CK)
    (xa_BadName : PySem.W.findIn K (.ref C_BadName) "__class__" = some (some (.builtin "object.__class__")))
    (mr_BadName : Wk.MroX K C_BadName CK)
    (xa_BadFilling : PySem.W.findIn K (.ref C_BadFilling) "__class__" = some (some (.builtin "object.__class__")))
    (mr_BadFilling : Wk.MroX K C_BadFilling CK)
    (xa_BadLine : PySem.W.findIn K (.ref C_BadLine) "__class__" = some (some (.builtin "object.__class__")))
    (mr_BadLine : Wk.MroX K C_BadLine CK)
    (xa_Unknown : PySem.W.findIn K (.ref C_Unknown) "__class__" = some (some (.builtin "object.__class__")))
    (mr_Unknown : Wk.MroX K C_Unknown CK)
    (xa_BadMacro : PySem.W.findIn K (.ref C_BadMacro) "__class__" = some (some (.builtin "object.__class__")))
    (mr_BadMacro : Wk.MroX K C_BadMacro CK)
    (xa_BadTree : PySem.W.findIn K (.ref C_BadTree) "__class__" = some (some (.builtin "object.__class__")))
    (mr_BadTree : Wk.MroX K C_BadTree CK)
    (xa_BadPlace : PySem.W.findIn K (.ref C_BadPlace) "__class__" = some (some (.builtin "object.__class__")))
    (mr_BadPlace : Wk.MroX K C_BadPlace CK)
    (xa_BadKnot : PySem.W.findIn K (.ref C_BadKnot) "__class__" = some (some (.builtin "object.__class__")))
    (mr_BadKnot : Wk.MroX K C_BadKnot CK)
    (xa_BadKind : PySem.W.findIn K (.ref C_BadKind) "__class__" = some (some (.builtin "object.__class__")))
    (mr_BadKind : Wk.MroX K C_BadKind CK)
    (xa_BadForm : PySem.W.findIn K (.ref C_BadForm) "__class__" = some (some (.builtin "object.__class__")))
    (mr_BadForm : Wk.MroX K C_BadForm CK)
    (xa_BadDeeds : PySem.W.findIn K (.ref C_BadDeeds) "__class__" = some (some (.builtin "object.__class__")))
    (mr_BadDeeds : Wk.MroX K C_BadDeeds CK)
    (xa_BadWeight : PySem.W.findIn K (.ref C_BadWeight) "__class__" = some (some (.builtin "object.__class__")))
    (mr_BadWeight : Wk.MroX K C_BadWeight CK)
    (xa_BadUnits : PySem.W.findIn K (.ref C_BadUnits) "__class__" = some (some (.builtin "object.__class__")))
    (mr_BadUnits : Wk.MroX K C_BadUnits CK)
    (xa_BadBudget : PySem.W.findIn K (.ref C_BadBudget) "__class__" = some (some (.builtin "object.__class__")))
    (mr_BadBudget : Wk.MroX K C_BadBudget CK)
    (xa_BadStep : PySem.W.findIn K (.ref C_BadStep) "__class__" = some (some (.builtin "object.__class__")))
    (mr_BadStep : Wk.MroX K C_BadStep CK)
    (xa_TooMany : PySem.W.findIn K (.ref C_TooMany) "__class__" = some (some (.builtin "object.__class__")))
    (mr_TooMany : Wk.MroX K C_TooMany CK)
    (xa_NoSuch : PySem.W.findIn K (.ref C_NoSuch) "__class__" = some (some (.builtin "object.__class__")))
    (mr_NoSuch : Wk.MroX K C_NoSuch CK)
    (xa_ByZero : PySem.W.findIn K (.ref C_ByZero) "__class__" = some (some (.builtin "object.__class__")))
    (mr_ByZero : Wk.MroX K C_ByZero CK)
    (xa_NoKind : PySem.W.findIn K (.ref C_NoKind) "__class__" = some (some (.builtin "object.__class__")))
    (mr_NoKind : Wk.MroX K C_NoKind CK)
    (xa_NothingToUndo : PySem.W.findIn K (.ref C_NothingToUndo) "__class__" = some (some (.builtin "object.__class__")))
    (mr_NothingToUndo : Wk.MroX K C_NothingToUndo CK)
    (xa_NothingToRedo : PySem.W.findIn K (.ref C_NothingToRedo) "__class__" = some (some (.builtin "object.__class__")))
    (mr_NothingToRedo : Wk.MroX K C_NothingToRedo CK)
    (nd : [C_BadText, C_Twice, C_BadName, C_BadFilling, C_BadLine, C_Unknown, C_BadMacro, C_BadTree, C_BadPlace, C_BadKnot, C_BadKind, C_BadForm, C_BadDeeds, C_BadWeight, C_BadUnits, C_BadBudget, C_BadStep, C_TooMany, C_NoSuch, C_ByZero, C_NoKind, C_NothingToUndo, C_NothingToRedo, CK].Nodup)
    (h_l_cell : Wk.FnT K mg "_law_cell" s_l_cell f_l_cell d_l_cell)
    (h_l_box : Wk.FnT K mg "_law_box" s_l_box f_l_box d_l_box)
    (h_l_take : Wk.FnT K mg "_law_take" s_l_take f_l_take d_l_take)
    (h_l_mixed : Wk.FnT K mg "_law_mixed" s_l_mixed f_l_mixed d_l_mixed)
    (h_l_value : Wk.FnT K mg "_law_value" s_l_value f_l_value d_l_value)
    (h_l_made : Wk.FnT K mg "_law_made" s_l_made f_l_made d_l_made)
    (h_l_field : Wk.FnT K mg "_law_field" s_l_field f_l_field d_l_field)
    (h_l_classes : Wk.FnT K mg "_law_classes" s_l_classes f_l_classes d_l_classes)
    (h_l_same : Wk.FnT K mg "_law_same" s_l_same f_l_same d_l_same)
    (h_l_right : Wk.FnT K mg "_law_right" s_l_right f_l_right d_l_right)
    (h_law : Wk.FnT K mg "law" s_law f_law d_law)
    (z_ValueError : PySem.W.nsIn K mainGlobals "ValueError" = some none)
    (z_abs : PySem.W.nsIn K mainGlobals "abs" = some none)
    (z_dict : PySem.W.nsIn K mainGlobals "dict" = some none)
    (z_isinstance : PySem.W.nsIn K mainGlobals "isinstance" = some none)
    (z_len : PySem.W.nsIn K mainGlobals "len" = some none)
    (z_list : PySem.W.nsIn K mainGlobals "list" = some none)
    (z_max : PySem.W.nsIn K mainGlobals "max" = some none)
    (z_min : PySem.W.nsIn K mainGlobals "min" = some none)
    (z_range : PySem.W.nsIn K mainGlobals "range" = some none)
    (z_repr : PySem.W.nsIn K mainGlobals "repr" = some none)
    (z_str : PySem.W.nsIn K mainGlobals "str" = some none) :
    Txt K mg ⟨CK, C_ByZero, f_ByZero_init, d_ByZero_init, C_BadText, f_BadText_init, d_BadText_init, C_Twice, f_Twice_init, d_Twice_init, C_BadName, f_BadName_init, d_BadName_init, C_BadFilling, f_BadFilling_init, d_BadFilling_init, C_BadLine, f_BadLine_init, d_BadLine_init, C_Unknown, f_Unknown_init, d_Unknown_init, C_BadMacro, f_BadMacro_init, d_BadMacro_init, C_BadPlace, f_BadPlace_init, d_BadPlace_init, C_BadKnot, f_BadKnot_init, d_BadKnot_init, C_NoKind, f_NoKind_init, d_NoKind_init, C_BadForm, f_BadForm_init, d_BadForm_init, C_BadKind, f_BadKind_init, d_BadKind_init, C_BadTree, f_BadTree_init, d_BadTree_init, C_BadUnits, f_BadUnits_init, d_BadUnits_init, C_BadBudget, f_BadBudget_init, d_BadBudget_init, C_BadStep, f_BadStep_init, d_BadStep_init, C_BadDeeds, f_BadDeeds_init, d_BadDeeds_init, C_BadWeight, f_BadWeight_init, d_BadWeight_init, C_TooMany, f_TooMany_init, d_TooMany_init, C_NoSuch, f_NoSuch_init, d_NoSuch_init, C_NothingToUndo, f_NothingToUndo_init, d_NothingToUndo_init, C_NothingToRedo, f_NothingToRedo_init, d_NothingToRedo_init, f_l_cell, d_l_cell, f_l_box, d_l_box, f_l_take, d_l_take, f_l_mixed, d_l_mixed, f_l_value, d_l_value, f_l_made, d_l_made, f_l_field, d_l_field, f_l_classes, d_l_classes, f_l_same, d_l_same, f_l_right, d_l_right, f_law, d_law⟩ :=
  { kb := kb,
    e_ByZero := e_ByZero,
    F_ByZero_init := F_ByZero_init,
    b_ByZero_init := F_ByZero_init.binds (ps := ["self"]) fun _ _ _ _ _ _ us hl => match us, hl with | [_], _ => rfl,
    e_BadText := e_BadText,
    F_BadText_init := F_BadText_init,
    b_BadText_init := F_BadText_init.binds (ps := ["self", "at"]) fun _ _ _ _ _ _ us hl => match us, hl with | [_, _], _ => rfl,
    n_BadText_at := n_BadText_at,
    e_Twice := e_Twice,
    F_Twice_init := F_Twice_init,
    b_Twice_init := F_Twice_init.binds (ps := ["self", "name"]) fun _ _ _ _ _ _ us hl => match us, hl with | [_, _], _ => rfl,
    n_Twice_name := n_Twice_name,
    e_BadName := e_BadName,
    F_BadName_init := F_BadName_init,
    b_BadName_init := F_BadName_init.binds (ps := ["self", "name"]) fun _ _ _ _ _ _ us hl => match us, hl with | [_, _], _ => rfl,
    n_BadName_name := n_BadName_name,
    e_BadFilling := e_BadFilling,
    F_BadFilling_init := F_BadFilling_init,
    b_BadFilling_init := F_BadFilling_init.binds (ps := ["self", "name"]) fun _ _ _ _ _ _ us hl => match us, hl with | [_, _], _ => rfl,
    n_BadFilling_name := n_BadFilling_name,
    e_BadLine := e_BadLine,
    F_BadLine_init := F_BadLine_init,
    b_BadLine_init := F_BadLine_init.binds (ps := ["self", "number"]) fun _ _ _ _ _ _ us hl => match us, hl with | [_, _], _ => rfl,
    n_BadLine_number := n_BadLine_number,
    e_Unknown := e_Unknown,
    F_Unknown_init := F_Unknown_init,
    b_Unknown_init := F_Unknown_init.binds (ps := ["self", "name"]) fun _ _ _ _ _ _ us hl => match us, hl with | [_, _], _ => rfl,
    n_Unknown_name := n_Unknown_name,
    e_BadMacro := e_BadMacro,
    F_BadMacro_init := F_BadMacro_init,
    b_BadMacro_init := F_BadMacro_init.binds (ps := ["self", "name"]) fun _ _ _ _ _ _ us hl => match us, hl with | [_, _], _ => rfl,
    n_BadMacro_name := n_BadMacro_name,
    e_BadPlace := e_BadPlace,
    F_BadPlace_init := F_BadPlace_init,
    b_BadPlace_init := F_BadPlace_init.binds (ps := ["self", "given"]) fun _ _ _ _ _ _ us hl => match us, hl with | [_, _], _ => rfl,
    n_BadPlace_given := n_BadPlace_given,
    e_BadKnot := e_BadKnot,
    F_BadKnot_init := F_BadKnot_init,
    b_BadKnot_init := F_BadKnot_init.binds (ps := ["self", "given"]) fun _ _ _ _ _ _ us hl => match us, hl with | [_, _], _ => rfl,
    n_BadKnot_given := n_BadKnot_given,
    e_NoKind := e_NoKind,
    F_NoKind_init := F_NoKind_init,
    b_NoKind_init := F_NoKind_init.binds (ps := ["self"]) fun _ _ _ _ _ _ us hl => match us, hl with | [_], _ => rfl,
    e_BadForm := e_BadForm,
    F_BadForm_init := F_BadForm_init,
    b_BadForm_init := F_BadForm_init.binds (ps := ["self", "number"]) fun _ _ _ _ _ _ us hl => match us, hl with | [_, _], _ => rfl,
    n_BadForm_number := n_BadForm_number,
    e_BadKind := e_BadKind,
    F_BadKind_init := F_BadKind_init,
    b_BadKind_init := F_BadKind_init.binds (ps := ["self", "given"]) fun _ _ _ _ _ _ us hl => match us, hl with | [_, _], _ => rfl,
    n_BadKind_given := n_BadKind_given,
    e_BadTree := e_BadTree,
    F_BadTree_init := F_BadTree_init,
    b_BadTree_init := F_BadTree_init.binds (ps := ["self", "given"]) fun _ _ _ _ _ _ us hl => match us, hl with | [_, _], _ => rfl,
    n_BadTree_given := n_BadTree_given,
    e_BadUnits := e_BadUnits,
    F_BadUnits_init := F_BadUnits_init,
    b_BadUnits_init := F_BadUnits_init.binds (ps := ["self", "given"]) fun _ _ _ _ _ _ us hl => match us, hl with | [_, _], _ => rfl,
    n_BadUnits_given := n_BadUnits_given,
    e_BadBudget := e_BadBudget,
    F_BadBudget_init := F_BadBudget_init,
    b_BadBudget_init := F_BadBudget_init.binds (ps := ["self", "given"]) fun _ _ _ _ _ _ us hl => match us, hl with | [_, _], _ => rfl,
    n_BadBudget_given := n_BadBudget_given,
    e_BadStep := e_BadStep,
    F_BadStep_init := F_BadStep_init,
    b_BadStep_init := F_BadStep_init.binds (ps := ["self", "given"]) fun _ _ _ _ _ _ us hl => match us, hl with | [_, _], _ => rfl,
    n_BadStep_given := n_BadStep_given,
    e_BadDeeds := e_BadDeeds,
    F_BadDeeds_init := F_BadDeeds_init,
    b_BadDeeds_init := F_BadDeeds_init.binds (ps := ["self", "given"]) fun _ _ _ _ _ _ us hl => match us, hl with | [_, _], _ => rfl,
    n_BadDeeds_given := n_BadDeeds_given,
    e_BadWeight := e_BadWeight,
    F_BadWeight_init := F_BadWeight_init,
    b_BadWeight_init := F_BadWeight_init.binds (ps := ["self", "given"]) fun _ _ _ _ _ _ us hl => match us, hl with | [_, _], _ => rfl,
    n_BadWeight_given := n_BadWeight_given,
    e_TooMany := e_TooMany,
    F_TooMany_init := F_TooMany_init,
    b_TooMany_init := F_TooMany_init.binds (ps := ["self", "count"]) fun _ _ _ _ _ _ us hl => match us, hl with | [_, _], _ => rfl,
    n_TooMany_count := n_TooMany_count,
    e_NoSuch := e_NoSuch,
    F_NoSuch_init := F_NoSuch_init,
    b_NoSuch_init := F_NoSuch_init.binds (ps := ["self", "name"]) fun _ _ _ _ _ _ us hl => match us, hl with | [_, _], _ => rfl,
    n_NoSuch_name := n_NoSuch_name,
    e_NothingToUndo := e_NothingToUndo,
    F_NothingToUndo_init := F_NothingToUndo_init,
    b_NothingToUndo_init := F_NothingToUndo_init.binds (ps := ["self"]) fun _ _ _ _ _ _ us hl => match us, hl with | [_], _ => rfl,
    e_NothingToRedo := e_NothingToRedo,
    F_NothingToRedo_init := F_NothingToRedo_init,
    b_NothingToRedo_init := F_NothingToRedo_init.binds (ps := ["self"]) fun _ _ _ _ _ _ us hl => match us, hl with | [_], _ => rfl,
    tG := tG,
    tT := tT,
    kc := kc,
    kt := kt,
    xa_BadText := xa_BadText,
    mr_BadText := mr_BadText,
    xa_Twice := xa_Twice,
    mr_Twice := mr_Twice,
    xa_BadName := xa_BadName,
    mr_BadName := mr_BadName,
    xa_BadFilling := xa_BadFilling,
    mr_BadFilling := mr_BadFilling,
    xa_BadLine := xa_BadLine,
    mr_BadLine := mr_BadLine,
    xa_Unknown := xa_Unknown,
    mr_Unknown := mr_Unknown,
    xa_BadMacro := xa_BadMacro,
    mr_BadMacro := mr_BadMacro,
    xa_BadTree := xa_BadTree,
    mr_BadTree := mr_BadTree,
    xa_BadPlace := xa_BadPlace,
    mr_BadPlace := mr_BadPlace,
    xa_BadKnot := xa_BadKnot,
    mr_BadKnot := mr_BadKnot,
    xa_BadKind := xa_BadKind,
    mr_BadKind := mr_BadKind,
    xa_BadForm := xa_BadForm,
    mr_BadForm := mr_BadForm,
    xa_BadDeeds := xa_BadDeeds,
    mr_BadDeeds := mr_BadDeeds,
    xa_BadWeight := xa_BadWeight,
    mr_BadWeight := mr_BadWeight,
    xa_BadUnits := xa_BadUnits,
    mr_BadUnits := mr_BadUnits,
    xa_BadBudget := xa_BadBudget,
    mr_BadBudget := mr_BadBudget,
    xa_BadStep := xa_BadStep,
    mr_BadStep := mr_BadStep,
    xa_TooMany := xa_TooMany,
    mr_TooMany := mr_TooMany,
    xa_NoSuch := xa_NoSuch,
    mr_NoSuch := mr_NoSuch,
    xa_ByZero := xa_ByZero,
    mr_ByZero := mr_ByZero,
    xa_NoKind := xa_NoKind,
    mr_NoKind := mr_NoKind,
    xa_NothingToUndo := xa_NothingToUndo,
    mr_NothingToUndo := mr_NothingToUndo,
    xa_NothingToRedo := xa_NothingToRedo,
    mr_NothingToRedo := mr_NothingToRedo,
    nd := nd,
    h_l_cell := h_l_cell,
    b_l_cell := h_l_cell.F.binds (ps := ["_law_script", "_law_k"]) fun _ _ _ _ _ _ us hl => match us, hl with | [_, _], _ => rfl,
    h_l_box := h_l_box,
    b_l_box := h_l_box.F.binds (ps := ["_law_cell_here"]) fun _ _ _ _ _ _ us hl => match us, hl with | [_], _ => rfl,
    h_l_take := h_l_take,
    b_l_take := h_l_take.F.binds (ps := ["_law_box_here", "_law_many"]) fun _ _ _ _ _ _ us hl => match us, hl with | [_, _], _ => rfl,
    h_l_mixed := h_l_mixed,
    b_l_mixed := h_l_mixed.F.binds (ps := ["_law_box_here", "_law_some"]) fun _ _ _ _ _ _ us hl => match us, hl with | [_, _], _ => rfl,
    h_l_value := h_l_value,
    b_l_value := h_l_value.F.binds (ps := ["_law_box_here"]) fun _ _ _ _ _ _ us hl => match us, hl with | [_], _ => rfl,
    h_l_made := h_l_made,
    b_l_made := h_l_made.F.binds (ps := ["_law_way", "_law_value_here"]) fun _ _ _ _ _ _ us hl => match us, hl with | [_, _], _ => rfl,
    h_l_field := h_l_field,
    b_l_field := h_l_field.F.binds (ps := ["_law_way", "_law_e"]) fun _ _ _ _ _ _ us hl => match us, hl with | [_, _], _ => rfl,
    h_l_classes := h_l_classes,
    b_l_classes := h_l_classes.F.binds (ps := ["_law_e"]) fun _ _ _ _ _ _ us hl => match us, hl with | [_], _ => rfl,
    h_l_same := h_l_same,
    b_l_same := h_l_same.F.binds (ps := ["_law_one", "_law_other"]) fun _ _ _ _ _ _ us hl => match us, hl with | [_, _], _ => rfl,
    h_l_right := h_l_right,
    b_l_right := h_l_right.F.binds (ps := ["_law_box_here", "_law_way"]) fun _ _ _ _ _ _ us hl => match us, hl with | [_, _], _ => rfl,
    h_law := h_law,
    z_ValueError := PySem.W.mg_none_of X G z_ValueError,
    z_abs := PySem.W.mg_none_of X G z_abs,
    z_dict := PySem.W.mg_none_of X G z_dict,
    z_isinstance := PySem.W.mg_none_of X G z_isinstance,
    z_len := PySem.W.mg_none_of X G z_len,
    z_list := PySem.W.mg_none_of X G z_list,
    z_max := PySem.W.mg_none_of X G z_max,
    z_min := PySem.W.mg_none_of X G z_min,
    z_range := PySem.W.mg_none_of X G z_range,
    z_repr := PySem.W.mg_none_of X G z_repr,
    z_str := PySem.W.mg_none_of X G z_str }
theorem law_end {l : PySem.W.OpenLaw} {w : World} {K : PySem.W.Frag} {h : Heap} {mg : Str → Option Value} {fa : Addr} {a : Ad} (G : h.Ns mainGlobals mg) (hfa : mg "law" = some (.ref fa)) (T : Txt K mg a) :
    ∃ fd : FuncData, (∀ (s : Shared) (v : Value), BindsTo s fd ⟨[v], []⟩ [("_law_script", v)]) ∧ ∀ base : Heap, K.In base → base.Ns mainGlobals mg → FnG l.prog w K mg base CX0 19 fa fd ["_law_script"] (sp_law K) := by
  have e := hfa.symm.trans T.h_law.g
  cases e
  obtain ⟨oc, od, kV, doc, pm, an, cdv, ct, osl, e1, e2, e3⟩ := T.h_law.F.ex
  refine ⟨a.d_law, fun s v => ?_, fun base _ _ => ok_law T⟩
  rw [e1]
  exact .of_eq rfl
end Exc1
open PySem PySem.W PyProof.Rows in
set_option maxRecDepth 100000 in
set_option maxHeartbeats 0 in
theorem PySem.Challenge.cw_widestkind_k01_exceptions_apart_holds : PySem.Challenge.rw_widestkind_k01_exceptions_apart.Holds := by
  w_on; o_law; k_head; (case hw => w_witness2)
  k_fill
  refine Wk.walk_ofG (l := PySem.Challenge.rw_widestkind_k01_exceptions_apart) (n := 63) (k := 19) (x := "_law_script") (CX := fun _ => L2.CX0) (sp := fun w => Exc1.sp_law _) rfl (by decide) rfl ⟨rfl, by decide, by decide⟩ (fun w h Y => PySem.W.kIn_of Y) ?F (fun _ _ a ns hl _ hS => ⟨a, ns, rfl, hS, hl, fun _ => rfl⟩) (fun _ _ _ _ _ h => h)
  case F =>
    intro w mg fa h KX G hmg
    refine' Exc1.law_end (l := PySem.Challenge.rw_widestkind_k01_exceptions_apart) (w := w) G hmg (Exc1.txt_mk KX G ?kb ?e_ByZero ?F_ByZero_init ?e_BadText ?F_BadText_init ?n_BadText_at ?e_Twice ?F_Twice_init ?n_Twice_name ?e_BadName ?F_BadName_init ?n_BadName_name ?e_BadFilling ?F_BadFilling_init ?n_BadFilling_name ?e_BadLine ?F_BadLine_init ?n_BadLine_number ?e_Unknown ?F_Unknown_init ?n_Unknown_name ?e_BadMacro ?F_BadMacro_init ?n_BadMacro_name ?e_BadPlace ?F_BadPlace_init ?n_BadPlace_given ?e_BadKnot ?F_BadKnot_init ?n_BadKnot_given ?e_NoKind ?F_NoKind_init ?e_BadForm ?F_BadForm_init ?n_BadForm_number ?e_BadKind ?F_BadKind_init ?n_BadKind_given ?e_BadTree ?F_BadTree_init ?n_BadTree_given ?e_BadUnits ?F_BadUnits_init ?n_BadUnits_given ?e_BadBudget ?F_BadBudget_init ?n_BadBudget_given ?e_BadStep ?F_BadStep_init ?n_BadStep_given ?e_BadDeeds ?F_BadDeeds_init ?n_BadDeeds_given ?e_BadWeight ?F_BadWeight_init ?n_BadWeight_given ?e_TooMany ?F_TooMany_init ?n_TooMany_count ?e_NoSuch ?F_NoSuch_init ?n_NoSuch_name ?e_NothingToUndo ?F_NothingToUndo_init ?e_NothingToRedo ?F_NothingToRedo_init ?tG ?tT ?kc ?kt ?xa_BadText ?mr_BadText ?xa_Twice ?mr_Twice ?xa_BadName ?mr_BadName ?xa_BadFilling ?mr_BadFilling ?xa_BadLine ?mr_BadLine ?xa_Unknown ?mr_Unknown ?xa_BadMacro ?mr_BadMacro ?xa_BadTree ?mr_BadTree ?xa_BadPlace ?mr_BadPlace ?xa_BadKnot ?mr_BadKnot ?xa_BadKind ?mr_BadKind ?xa_BadForm ?mr_BadForm ?xa_BadDeeds ?mr_BadDeeds ?xa_BadWeight ?mr_BadWeight ?xa_BadUnits ?mr_BadUnits ?xa_BadBudget ?mr_BadBudget ?xa_BadStep ?mr_BadStep ?xa_TooMany ?mr_TooMany ?xa_NoSuch ?mr_NoSuch ?xa_ByZero ?mr_ByZero ?xa_NoKind ?mr_NoKind ?xa_NothingToUndo ?mr_NothingToUndo ?xa_NothingToRedo ?mr_NothingToRedo ?nd ?h_l_cell ?h_l_box ?h_l_take ?h_l_mixed ?h_l_value ?h_l_made ?h_l_field ?h_l_classes ?h_l_same ?h_l_right ?h_law ?z_ValueError ?z_abs ?z_dict ?z_isinstance ?z_len ?z_list ?z_max ?z_min ?z_range ?z_repr ?z_str)
    (case kb => refine' Wk.kb_mk KX G ?a1 ?a2 ?a3 ?a4; (case a1 => k_is); (case a2 => k_is); (case a3 => k_is); (case a4 => k_is))
    (case e_ByZero => refine' Wk.exc_mk KX G ?a1 ?a2 ?a3 ?a4 ?a5 ?a6 ?a7 ?a8 ?a9 ?b1 ?b2 ?b3 ?b4 ?b5; (case a1 => k_is); (case a2 => k_is); (case a3 => decide +kernel); (case a4 => k_is); (case a5 => k_is); (case a6 => k_is); (case a7 => k_is); (case a8 => k_is); (case a9 => k_is); (case b1 => k_is); (case b2 => k_is); (case b3 => k_is); (case b4 => k_is); (case b5 => first | rfl | k_is))
    (case F_ByZero_init => refine' L2.fun_mk ?a1 ?a2 ?a3; (case a1 => k_is); (case a2 => k_is); (case a3 => k_is))
    (case e_BadText => refine' Wk.exc_mk KX G ?a1 ?a2 ?a3 ?a4 ?a5 ?a6 ?a7 ?a8 ?a9 ?b1 ?b2 ?b3 ?b4 ?b5; (case a1 => k_is); (case a2 => k_is); (case a3 => decide +kernel); (case a4 => k_is); (case a5 => k_is); (case a6 => k_is); (case a7 => k_is); (case a8 => k_is); (case a9 => k_is); (case b1 => k_is); (case b2 => k_is); (case b3 => k_is); (case b4 => k_is); (case b5 => first | rfl | k_is))
    (case F_BadText_init => refine' L2.fun_mk ?a1 ?a2 ?a3; (case a1 => k_is); (case a2 => k_is); (case a3 => k_is))
    (case n_BadText_at => k_is)
    (case e_Twice => refine' Wk.exc_mk KX G ?a1 ?a2 ?a3 ?a4 ?a5 ?a6 ?a7 ?a8 ?a9 ?b1 ?b2 ?b3 ?b4 ?b5; (case a1 => k_is); (case a2 => k_is); (case a3 => decide +kernel); (case a4 => k_is); (case a5 => k_is); (case a6 => k_is); (case a7 => k_is); (case a8 => k_is); (case a9 => k_is); (case b1 => k_is); (case b2 => k_is); (case b3 => k_is); (case b4 => k_is); (case b5 => first | rfl | k_is))
    (case F_Twice_init => refine' L2.fun_mk ?a1 ?a2 ?a3; (case a1 => k_is); (case a2 => k_is); (case a3 => k_is))
    (case n_Twice_name => k_is)
    (case e_BadName => refine' Wk.exc_mk KX G ?a1 ?a2 ?a3 ?a4 ?a5 ?a6 ?a7 ?a8 ?a9 ?b1 ?b2 ?b3 ?b4 ?b5; (case a1 => k_is); (case a2 => k_is); (case a3 => decide +kernel); (case a4 => k_is); (case a5 => k_is); (case a6 => k_is); (case a7 => k_is); (case a8 => k_is); (case a9 => k_is); (case b1 => k_is); (case b2 => k_is); (case b3 => k_is); (case b4 => k_is); (case b5 => first | rfl | k_is))
    (case F_BadName_init => refine' L2.fun_mk ?a1 ?a2 ?a3; (case a1 => k_is); (case a2 => k_is); (case a3 => k_is))
    (case n_BadName_name => k_is)
    (case e_BadFilling => refine' Wk.exc_mk KX G ?a1 ?a2 ?a3 ?a4 ?a5 ?a6 ?a7 ?a8 ?a9 ?b1 ?b2 ?b3 ?b4 ?b5; (case a1 => k_is); (case a2 => k_is); (case a3 => decide +kernel); (case a4 => k_is); (case a5 => k_is); (case a6 => k_is); (case a7 => k_is); (case a8 => k_is); (case a9 => k_is); (case b1 => k_is); (case b2 => k_is); (case b3 => k_is); (case b4 => k_is); (case b5 => first | rfl | k_is))
    (case F_BadFilling_init => refine' L2.fun_mk ?a1 ?a2 ?a3; (case a1 => k_is); (case a2 => k_is); (case a3 => k_is))
    (case n_BadFilling_name => k_is)
    (case e_BadLine => refine' Wk.exc_mk KX G ?a1 ?a2 ?a3 ?a4 ?a5 ?a6 ?a7 ?a8 ?a9 ?b1 ?b2 ?b3 ?b4 ?b5; (case a1 => k_is); (case a2 => k_is); (case a3 => decide +kernel); (case a4 => k_is); (case a5 => k_is); (case a6 => k_is); (case a7 => k_is); (case a8 => k_is); (case a9 => k_is); (case b1 => k_is); (case b2 => k_is); (case b3 => k_is); (case b4 => k_is); (case b5 => first | rfl | k_is))
    (case F_BadLine_init => refine' L2.fun_mk ?a1 ?a2 ?a3; (case a1 => k_is); (case a2 => k_is); (case a3 => k_is))
    (case n_BadLine_number => k_is)
    (case e_Unknown => refine' Wk.exc_mk KX G ?a1 ?a2 ?a3 ?a4 ?a5 ?a6 ?a7 ?a8 ?a9 ?b1 ?b2 ?b3 ?b4 ?b5; (case a1 => k_is); (case a2 => k_is); (case a3 => decide +kernel); (case a4 => k_is); (case a5 => k_is); (case a6 => k_is); (case a7 => k_is); (case a8 => k_is); (case a9 => k_is); (case b1 => k_is); (case b2 => k_is); (case b3 => k_is); (case b4 => k_is); (case b5 => first | rfl | k_is))
    (case F_Unknown_init => refine' L2.fun_mk ?a1 ?a2 ?a3; (case a1 => k_is); (case a2 => k_is); (case a3 => k_is))
    (case n_Unknown_name => k_is)
    (case e_BadMacro => refine' Wk.exc_mk KX G ?a1 ?a2 ?a3 ?a4 ?a5 ?a6 ?a7 ?a8 ?a9 ?b1 ?b2 ?b3 ?b4 ?b5; (case a1 => k_is); (case a2 => k_is); (case a3 => decide +kernel); (case a4 => k_is); (case a5 => k_is); (case a6 => k_is); (case a7 => k_is); (case a8 => k_is); (case a9 => k_is); (case b1 => k_is); (case b2 => k_is); (case b3 => k_is); (case b4 => k_is); (case b5 => first | rfl | k_is))
    (case F_BadMacro_init => refine' L2.fun_mk ?a1 ?a2 ?a3; (case a1 => k_is); (case a2 => k_is); (case a3 => k_is))
    (case n_BadMacro_name => k_is)
    (case e_BadPlace => refine' Wk.exc_mk KX G ?a1 ?a2 ?a3 ?a4 ?a5 ?a6 ?a7 ?a8 ?a9 ?b1 ?b2 ?b3 ?b4 ?b5; (case a1 => k_is); (case a2 => k_is); (case a3 => decide +kernel); (case a4 => k_is); (case a5 => k_is); (case a6 => k_is); (case a7 => k_is); (case a8 => k_is); (case a9 => k_is); (case b1 => k_is); (case b2 => k_is); (case b3 => k_is); (case b4 => k_is); (case b5 => first | rfl | k_is))
    (case F_BadPlace_init => refine' L2.fun_mk ?a1 ?a2 ?a3; (case a1 => k_is); (case a2 => k_is); (case a3 => k_is))
    (case n_BadPlace_given => k_is)
    (case e_BadKnot => refine' Wk.exc_mk KX G ?a1 ?a2 ?a3 ?a4 ?a5 ?a6 ?a7 ?a8 ?a9 ?b1 ?b2 ?b3 ?b4 ?b5; (case a1 => k_is); (case a2 => k_is); (case a3 => decide +kernel); (case a4 => k_is); (case a5 => k_is); (case a6 => k_is); (case a7 => k_is); (case a8 => k_is); (case a9 => k_is); (case b1 => k_is); (case b2 => k_is); (case b3 => k_is); (case b4 => k_is); (case b5 => first | rfl | k_is))
    (case F_BadKnot_init => refine' L2.fun_mk ?a1 ?a2 ?a3; (case a1 => k_is); (case a2 => k_is); (case a3 => k_is))
    (case n_BadKnot_given => k_is)
    (case e_NoKind => refine' Wk.exc_mk KX G ?a1 ?a2 ?a3 ?a4 ?a5 ?a6 ?a7 ?a8 ?a9 ?b1 ?b2 ?b3 ?b4 ?b5; (case a1 => k_is); (case a2 => k_is); (case a3 => decide +kernel); (case a4 => k_is); (case a5 => k_is); (case a6 => k_is); (case a7 => k_is); (case a8 => k_is); (case a9 => k_is); (case b1 => k_is); (case b2 => k_is); (case b3 => k_is); (case b4 => k_is); (case b5 => first | rfl | k_is))
    (case F_NoKind_init => refine' L2.fun_mk ?a1 ?a2 ?a3; (case a1 => k_is); (case a2 => k_is); (case a3 => k_is))
    (case e_BadForm => refine' Wk.exc_mk KX G ?a1 ?a2 ?a3 ?a4 ?a5 ?a6 ?a7 ?a8 ?a9 ?b1 ?b2 ?b3 ?b4 ?b5; (case a1 => k_is); (case a2 => k_is); (case a3 => decide +kernel); (case a4 => k_is); (case a5 => k_is); (case a6 => k_is); (case a7 => k_is); (case a8 => k_is); (case a9 => k_is); (case b1 => k_is); (case b2 => k_is); (case b3 => k_is); (case b4 => k_is); (case b5 => first | rfl | k_is))
    (case F_BadForm_init => refine' L2.fun_mk ?a1 ?a2 ?a3; (case a1 => k_is); (case a2 => k_is); (case a3 => k_is))
    (case n_BadForm_number => k_is)
    (case e_BadKind => refine' Wk.exc_mk KX G ?a1 ?a2 ?a3 ?a4 ?a5 ?a6 ?a7 ?a8 ?a9 ?b1 ?b2 ?b3 ?b4 ?b5; (case a1 => k_is); (case a2 => k_is); (case a3 => decide +kernel); (case a4 => k_is); (case a5 => k_is); (case a6 => k_is); (case a7 => k_is); (case a8 => k_is); (case a9 => k_is); (case b1 => k_is); (case b2 => k_is); (case b3 => k_is); (case b4 => k_is); (case b5 => first | rfl | k_is))
    (case F_BadKind_init => refine' L2.fun_mk ?a1 ?a2 ?a3; (case a1 => k_is); (case a2 => k_is); (case a3 => k_is))
    (case n_BadKind_given => k_is)
    (case e_BadTree => refine' Wk.exc_mk KX G ?a1 ?a2 ?a3 ?a4 ?a5 ?a6 ?a7 ?a8 ?a9 ?b1 ?b2 ?b3 ?b4 ?b5; (case a1 => k_is); (case a2 => k_is); (case a3 => decide +kernel); (case a4 => k_is); (case a5 => k_is); (case a6 => k_is); (case a7 => k_is); (case a8 => k_is); (case a9 => k_is); (case b1 => k_is); (case b2 => k_is); (case b3 => k_is); (case b4 => k_is); (case b5 => first | rfl | k_is))
    (case F_BadTree_init => refine' L2.fun_mk ?a1 ?a2 ?a3; (case a1 => k_is); (case a2 => k_is); (case a3 => k_is))
    (case n_BadTree_given => k_is)
    (case e_BadUnits => refine' Wk.exc_mk KX G ?a1 ?a2 ?a3 ?a4 ?a5 ?a6 ?a7 ?a8 ?a9 ?b1 ?b2 ?b3 ?b4 ?b5; (case a1 => k_is); (case a2 => k_is); (case a3 => decide +kernel); (case a4 => k_is); (case a5 => k_is); (case a6 => k_is); (case a7 => k_is); (case a8 => k_is); (case a9 => k_is); (case b1 => k_is); (case b2 => k_is); (case b3 => k_is); (case b4 => k_is); (case b5 => first | rfl | k_is))
    (case F_BadUnits_init => refine' L2.fun_mk ?a1 ?a2 ?a3; (case a1 => k_is); (case a2 => k_is); (case a3 => k_is))
    (case n_BadUnits_given => k_is)
    (case e_BadBudget => refine' Wk.exc_mk KX G ?a1 ?a2 ?a3 ?a4 ?a5 ?a6 ?a7 ?a8 ?a9 ?b1 ?b2 ?b3 ?b4 ?b5; (case a1 => k_is); (case a2 => k_is); (case a3 => decide +kernel); (case a4 => k_is); (case a5 => k_is); (case a6 => k_is); (case a7 => k_is); (case a8 => k_is); (case a9 => k_is); (case b1 => k_is); (case b2 => k_is); (case b3 => k_is); (case b4 => k_is); (case b5 => first | rfl | k_is))
    (case F_BadBudget_init => refine' L2.fun_mk ?a1 ?a2 ?a3; (case a1 => k_is); (case a2 => k_is); (case a3 => k_is))
    (case n_BadBudget_given => k_is)
    (case e_BadStep => refine' Wk.exc_mk KX G ?a1 ?a2 ?a3 ?a4 ?a5 ?a6 ?a7 ?a8 ?a9 ?b1 ?b2 ?b3 ?b4 ?b5; (case a1 => k_is); (case a2 => k_is); (case a3 => decide +kernel); (case a4 => k_is); (case a5 => k_is); (case a6 => k_is); (case a7 => k_is); (case a8 => k_is); (case a9 => k_is); (case b1 => k_is); (case b2 => k_is); (case b3 => k_is); (case b4 => k_is); (case b5 => first | rfl | k_is))
    (case F_BadStep_init => refine' L2.fun_mk ?a1 ?a2 ?a3; (case a1 => k_is); (case a2 => k_is); (case a3 => k_is))
    (case n_BadStep_given => k_is)
    (case e_BadDeeds => refine' Wk.exc_mk KX G ?a1 ?a2 ?a3 ?a4 ?a5 ?a6 ?a7 ?a8 ?a9 ?b1 ?b2 ?b3 ?b4 ?b5; (case a1 => k_is); (case a2 => k_is); (case a3 => decide +kernel); (case a4 => k_is); (case a5 => k_is); (case a6 => k_is); (case a7 => k_is); (case a8 => k_is); (case a9 => k_is); (case b1 => k_is); (case b2 => k_is); (case b3 => k_is); (case b4 => k_is); (case b5 => first | rfl | k_is))
    (case F_BadDeeds_init => refine' L2.fun_mk ?a1 ?a2 ?a3; (case a1 => k_is); (case a2 => k_is); (case a3 => k_is))
    (case n_BadDeeds_given => k_is)
    (case e_BadWeight => refine' Wk.exc_mk KX G ?a1 ?a2 ?a3 ?a4 ?a5 ?a6 ?a7 ?a8 ?a9 ?b1 ?b2 ?b3 ?b4 ?b5; (case a1 => k_is); (case a2 => k_is); (case a3 => decide +kernel); (case a4 => k_is); (case a5 => k_is); (case a6 => k_is); (case a7 => k_is); (case a8 => k_is); (case a9 => k_is); (case b1 => k_is); (case b2 => k_is); (case b3 => k_is); (case b4 => k_is); (case b5 => first | rfl | k_is))
    (case F_BadWeight_init => refine' L2.fun_mk ?a1 ?a2 ?a3; (case a1 => k_is); (case a2 => k_is); (case a3 => k_is))
    (case n_BadWeight_given => k_is)
    (case e_TooMany => refine' Wk.exc_mk KX G ?a1 ?a2 ?a3 ?a4 ?a5 ?a6 ?a7 ?a8 ?a9 ?b1 ?b2 ?b3 ?b4 ?b5; (case a1 => k_is); (case a2 => k_is); (case a3 => decide +kernel); (case a4 => k_is); (case a5 => k_is); (case a6 => k_is); (case a7 => k_is); (case a8 => k_is); (case a9 => k_is); (case b1 => k_is); (case b2 => k_is); (case b3 => k_is); (case b4 => k_is); (case b5 => first | rfl | k_is))
    (case F_TooMany_init => refine' L2.fun_mk ?a1 ?a2 ?a3; (case a1 => k_is); (case a2 => k_is); (case a3 => k_is))
    (case n_TooMany_count => k_is)
    (case e_NoSuch => refine' Wk.exc_mk KX G ?a1 ?a2 ?a3 ?a4 ?a5 ?a6 ?a7 ?a8 ?a9 ?b1 ?b2 ?b3 ?b4 ?b5; (case a1 => k_is); (case a2 => k_is); (case a3 => decide +kernel); (case a4 => k_is); (case a5 => k_is); (case a6 => k_is); (case a7 => k_is); (case a8 => k_is); (case a9 => k_is); (case b1 => k_is); (case b2 => k_is); (case b3 => k_is); (case b4 => k_is); (case b5 => first | rfl | k_is))
    (case F_NoSuch_init => refine' L2.fun_mk ?a1 ?a2 ?a3; (case a1 => k_is); (case a2 => k_is); (case a3 => k_is))
    (case n_NoSuch_name => k_is)
    (case e_NothingToUndo => refine' Wk.exc_mk KX G ?a1 ?a2 ?a3 ?a4 ?a5 ?a6 ?a7 ?a8 ?a9 ?b1 ?b2 ?b3 ?b4 ?b5; (case a1 => k_is); (case a2 => k_is); (case a3 => decide +kernel); (case a4 => k_is); (case a5 => k_is); (case a6 => k_is); (case a7 => k_is); (case a8 => k_is); (case a9 => k_is); (case b1 => k_is); (case b2 => k_is); (case b3 => k_is); (case b4 => k_is); (case b5 => first | rfl | k_is))
    (case F_NothingToUndo_init => refine' L2.fun_mk ?a1 ?a2 ?a3; (case a1 => k_is); (case a2 => k_is); (case a3 => k_is))
    (case e_NothingToRedo => refine' Wk.exc_mk KX G ?a1 ?a2 ?a3 ?a4 ?a5 ?a6 ?a7 ?a8 ?a9 ?b1 ?b2 ?b3 ?b4 ?b5; (case a1 => k_is); (case a2 => k_is); (case a3 => decide +kernel); (case a4 => k_is); (case a5 => k_is); (case a6 => k_is); (case a7 => k_is); (case a8 => k_is); (case a9 => k_is); (case b1 => k_is); (case b2 => k_is); (case b3 => k_is); (case b4 => k_is); (case b5 => first | rfl | k_is))
    (case F_NothingToRedo_init => refine' L2.fun_mk ?a1 ?a2 ?a3; (case a1 => k_is); (case a2 => k_is); (case a3 => k_is))
    (case tG => k_is)
    (case tT => k_is)
    (case kc => k_is)
    (case kt => k_is)
    (case xa_BadText => k_is)
    (case mr_BadText => refine' Wk.mro_mk ?a1; (case a1 => k_is))
    (case xa_Twice => k_is)
    (case mr_Twice => refine' Wk.mro_mk ?a1; (case a1 => k_is))
    (case xa_BadName => k_is)
    (case mr_BadName => refine' Wk.mro_mk ?a1; (case a1 => k_is))
    (case xa_BadFilling => k_is)
    (case mr_BadFilling => refine' Wk.mro_mk ?a1; (case a1 => k_is))
    (case xa_BadLine => k_is)
    (case mr_BadLine => refine' Wk.mro_mk ?a1; (case a1 => k_is))
    (case xa_Unknown => k_is)
    (case mr_Unknown => refine' Wk.mro_mk ?a1; (case a1 => k_is))
    (case xa_BadMacro => k_is)
    (case mr_BadMacro => refine' Wk.mro_mk ?a1; (case a1 => k_is))
    (case xa_BadTree => k_is)
    (case mr_BadTree => refine' Wk.mro_mk ?a1; (case a1 => k_is))
    (case xa_BadPlace => k_is)
    (case mr_BadPlace => refine' Wk.mro_mk ?a1; (case a1 => k_is))
    (case xa_BadKnot => k_is)
    (case mr_BadKnot => refine' Wk.mro_mk ?a1; (case a1 => k_is))
    (case xa_BadKind => k_is)
    (case mr_BadKind => refine' Wk.mro_mk ?a1; (case a1 => k_is))
    (case xa_BadForm => k_is)
    (case mr_BadForm => refine' Wk.mro_mk ?a1; (case a1 => k_is))
    (case xa_BadDeeds => k_is)
    (case mr_BadDeeds => refine' Wk.mro_mk ?a1; (case a1 => k_is))
    (case xa_BadWeight => k_is)
    (case mr_BadWeight => refine' Wk.mro_mk ?a1; (case a1 => k_is))
    (case xa_BadUnits => k_is)
    (case mr_BadUnits => refine' Wk.mro_mk ?a1; (case a1 => k_is))
    (case xa_BadBudget => k_is)
    (case mr_BadBudget => refine' Wk.mro_mk ?a1; (case a1 => k_is))
    (case xa_BadStep => k_is)
    (case mr_BadStep => refine' Wk.mro_mk ?a1; (case a1 => k_is))
    (case xa_TooMany => k_is)
    (case mr_TooMany => refine' Wk.mro_mk ?a1; (case a1 => k_is))
    (case xa_NoSuch => k_is)
    (case mr_NoSuch => refine' Wk.mro_mk ?a1; (case a1 => k_is))
    (case xa_ByZero => k_is)
    (case mr_ByZero => refine' Wk.mro_mk ?a1; (case a1 => k_is))
    (case xa_NoKind => k_is)
    (case mr_NoKind => refine' Wk.mro_mk ?a1; (case a1 => k_is))
    (case xa_NothingToUndo => k_is)
    (case mr_NothingToUndo => refine' Wk.mro_mk ?a1; (case a1 => k_is))
    (case xa_NothingToRedo => k_is)
    (case mr_NothingToRedo => refine' Wk.mro_mk ?a1; (case a1 => k_is))
    (case nd => decide)
    (case h_l_cell => refine' Wk.fn_here KX G ?a1 ?a2 ?a3 ?a4; (case a1 => k_is); (case a2 => k_is); (case a3 => k_is); (case a4 => k_is))
    (case h_l_box => refine' Wk.fn_here KX G ?a1 ?a2 ?a3 ?a4; (case a1 => k_is); (case a2 => k_is); (case a3 => k_is); (case a4 => k_is))
    (case h_l_take => refine' Wk.fn_here KX G ?a1 ?a2 ?a3 ?a4; (case a1 => k_is); (case a2 => k_is); (case a3 => k_is); (case a4 => k_is))
    (case h_l_mixed => refine' Wk.fn_here KX G ?a1 ?a2 ?a3 ?a4; (case a1 => k_is); (case a2 => k_is); (case a3 => k_is); (case a4 => k_is))
    (case h_l_value => refine' Wk.fn_here KX G ?a1 ?a2 ?a3 ?a4; (case a1 => k_is); (case a2 => k_is); (case a3 => k_is); (case a4 => k_is))
    (case h_l_made => refine' Wk.fn_here KX G ?a1 ?a2 ?a3 ?a4; (case a1 => k_is); (case a2 => k_is); (case a3 => k_is); (case a4 => k_is))
    (case h_l_field => refine' Wk.fn_here KX G ?a1 ?a2 ?a3 ?a4; (case a1 => k_is); (case a2 => k_is); (case a3 => k_is); (case a4 => k_is))
    (case h_l_classes => refine' Wk.fn_here KX G ?a1 ?a2 ?a3 ?a4; (case a1 => k_is); (case a2 => k_is); (case a3 => k_is); (case a4 => k_is))
    (case h_l_same => refine' Wk.fn_here KX G ?a1 ?a2 ?a3 ?a4; (case a1 => k_is); (case a2 => k_is); (case a3 => k_is); (case a4 => k_is))
    (case h_l_right => refine' Wk.fn_here KX G ?a1 ?a2 ?a3 ?a4; (case a1 => k_is); (case a2 => k_is); (case a3 => k_is); (case a4 => k_is))
    (case h_law => refine' Wk.fn_here KX G ?a1 ?a2 ?a3 ?a4; (case a1 => k_is); (case a2 => k_is); (case a3 => k_is); (case a4 => k_is))
    (case z_ValueError => k_is)
    (case z_abs => k_is)
    (case z_dict => k_is)
    (case z_isinstance => k_is)
    (case z_len => k_is)
    (case z_list => k_is)
    (case z_max => k_is)
    (case z_min => k_is)
    (case z_range => k_is)
    (case z_repr => k_is)
    (case z_str => k_is)
