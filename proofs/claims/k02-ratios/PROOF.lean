import PyProof.Rows.All
import Wide.All
import OpenK.AllK
import Wide.FinOn
import HandS.ForMost
import HandS.ForExc
import HandS.ExcInit
import HandS.ExcField
import HandS.IsInst
import HandS.Property
import HandS.Defaults
import HandS.MakeKw
import HandS.MakeKwOnly
import HandS.FStr
import HandS.Wide
import HandS.RaiseMore
import KE.KOpsOwn
import HandS.Style
import HandS.Walk
import PySem.Challenge.RW_widestkind_k02_ratios
set_option Elab.async false
set_option linter.all false
set_option maxRecDepth 100000
set_option maxHeartbeats 4000000
/-! Shared by the proofs over this package: KindError.__init__(self, ..) in an exception's own __init__. -/
namespace Wk
open PySem L2
/-- what the top says of the base class of the package's exceptions -/
structure KBase (K : PySem.W.Frag) (mg : Str → Option Value) (CK : Addr) : Prop where
  mgK : mg "KindError" = some (.ref CK)
  rd : PySem.W.readsIn K CK (.type "type") = true
  ga : PySem.W.specialIn K (.ref CK) "__getattribute__" = some (some (.builtin "type.__getattribute__"))
  fv : PySem.W.findCls K (.ref CK) (.type "type") "__init__" = some (.val (.builtin "ValueError.__init__"))
section
variable {X : Cx} {e : Expr} {es : List Expr} {ta : TA} {p1 p2 pos : Pos} {CK : Addr}
theorem pe_kinit {pl : Sem Bool} (B : KBase X.K X.mg CK) (ha : PA X (e :: es) ta) (hg : Gl X "KindError" := by rfl)
    (hc : eval (.Call (.Attribute (.Name "KindError" p1) "__init__" p2) (e :: es) [] pos) X.env = (do
      let ov ← eval (.Name "KindError" p1) X.env
      standAt p2.atName
      let (f, first) ← holding [ov] (getMethod ov "__init__" pl)
      callWith pos f first (backTo pos (starEach (e :: es) X.env)) (backToKw pos (keywordEach [] X.env))) := by rfl)
    (he : starEach (e :: es) X.env = (false, eval e X.env) :: starEach es X.env := by rfl)
    (hpl : (backTo pos (starEach es X.env)).any (·.1) = false := by rfl) :
    PE X (.Call (.Attribute (.Name "KindError" p1) "__init__" p2) (e :: es) [] pos) (tVeI X.K ta) := by
  refine ⟨fun pins s σ H Q I h => ?_⟩
  refine PySem.W.methodCall_KW (ld_glob I hg B.mgK ?_) hc
  refine PySem.W.method_cls I.kIn B.ga (PySem.W.cls_value I.kIn B.rd B.fv (by decide +kernel) ?_)
  show wpAny _ _ (callWith pos (Value.builtin "ValueError.__init__") [] (backTo pos (starEach (e :: es) X.env)) []) _ _ _
  refine PyProof.Rows.callWith_method1 (thn (ha.run pos pins _ σ H _ (I.tok _) h) fun us s1 ⟨vs, H1, I1, r1, a, C, ws, ev, hl, T, ea, q⟩ => ?_) he hpl
  subst ev
  cases r1 with
  | @cons _ u0 _ ur ra rw' =>
    obtain rfl : u0 = Value.ref a := ra
    have hlen : ur.length ≤ sizeLine := by
      have l := Paired.length rw'
      rw [sizeLine_eq]
      omega
    exact oinit_ok T I1 ea hlen fun s' J => ⟨.non, H1, J, rfl, q⟩
end
end Wk
namespace Wk
open PySem L2
/-- a def of the top -/
structure FnT (K : PySem.W.Frag) (mg : Str → Option Value) (x : Str) (st : Stmt) (f : Addr) (fd : FuncData) : Prop where
  F : Fun K x x st f fd
  g : mg x = some (.ref f)
theorem fn_here {K : PySem.W.Frag} {h : Heap} {mg : Str → Option Value} {x : Str} {st : Stmt} {f : Addr} {oc : Value} {od an : Option Addr} {osl : Array (Option Value)} {kV doc pm cdv ct : Value} (X : K.In h) (G : h.Ns mainGlobals mg)
    (a : PySem.W.nsIn K mainGlobals x = some (some (.ref f)))
    (l : K.lookup f = some ⟨oc, od, .func (PySem.W.fnOf x x (defArgs st) (defBody st) (defScope st) .none kV doc pm an cdv ct), osl⟩)
    (c : PySem.W.codeIn K cdv x = true) (k : PySem.W.keepIn K (.ref f) = true) :
    FnT K mg x st f (PySem.W.fnOf x x (defArgs st) (defBody st) (defScope st) .none kV doc pm an cdv ct) :=
  ⟨fun_mk l c k, PySem.W.mg_of X G a⟩
theorem kb_mk {K : PySem.W.Frag} {h : Heap} {mg : Str → Option Value} {CK : Addr} (X : K.In h) (G : h.Ns mainGlobals mg)
    (a : PySem.W.nsIn K mainGlobals "KindError" = some (some (.ref CK))) (rd : PySem.W.readsIn K CK (.type "type") = true)
    (ga : PySem.W.specialIn K (.ref CK) "__getattribute__" = some (some (.builtin "type.__getattribute__")))
    (fv : PySem.W.findCls K (.ref CK) (.type "type") "__init__" = some (.val (.builtin "ValueError.__init__"))) : KBase K mg CK :=
  ⟨PySem.W.mg_of X G a, rd, ga, fv⟩
/-- an exception class x of the package, at C, its own __init__ at fI -/
structure ExcT (K : PySem.W.Frag) (mg : Str → Option Value) (x : Str) (C fI : Addr) : Prop where
  g : mg x = some (.ref C)
  o : OexC K C
  xf : XfC K C
  iC : PySem.W.findIn K (.ref C) "__init__" = some (some (.ref fI))
  tI : PySem.W.typeIn K (.ref fI) = some (.type "function")
  te : PySem.W.exmOne K (.ref C) (.ref C) = some true
theorem exm_own {K : PySem.W.Frag} {S : Addr} (h1 : PySem.W.subIn K (.ref S) (.type "BaseException") = some true) (h2 : PySem.W.isClsIn K S = true)
    (h3 : PySem.W.typeIn K (.ref S) = some (.type "type")) (h4 : PySem.W.subIn K (.ref S) (.ref S) = some true) : PySem.W.exmOne K (.ref S) (.ref S) = some true := by
  have h2' : (PySem.W.clsIn K S).isSome = true := h2
  unfold PySem.W.exmOne PySem.W.kitCls
  simp only [h1, h3, h4, h2']
  rfl
theorem exc_mk {K : PySem.W.Frag} {h : Heap} {mg : Str → Option Value} {x : Str} {C fI : Addr} {nm q : Str} {N : Addr} {bs bm : List Value} {sn : List Str} {sub : List Value} {ab : Bool} {col : Option Bool} {dd : Option Addr} {m0 m1 m2 m3 m5 : Option Value}
    (X : K.In h) (G : h.Ns mainGlobals mg) (aC : PySem.W.nsIn K mainGlobals x = some (some (.ref C)))
    (xL : K.lookup C = some (excClassObj nm q C N bs bm true sn sub ab col dd m0 m1 m2 m3 m5 "ValueError.__new__")) (hb : PySem.HandSPX.refsVE bm = true)
    (sa : PySem.W.findIn K (.ref C) "__setattr__" = some (some (.builtin "object.__setattr__")))
    (ga : PySem.W.findIn K (.ref C) "__getattribute__" = some (some (.builtin "BaseException.__getattribute__")))
    (gg : PySem.W.findIn K (.ref C) "__getattr__" = some none) (a1 : PySem.W.findIn K (.ref C) "__init__" = some (some (.ref fI)))
    (t1 : PySem.W.typeIn K (.ref fI) = some (.type "function")) (kC : PySem.W.keepIn K (.ref C) = true)
    (eC : PySem.W.subIn K (.ref C) (.type "BaseException") = some true) (tC : PySem.W.typeIn K (.ref C) = some (.type "type"))
    (hC : PySem.W.hasDictIn K C = true) (iC : PySem.W.isClsIn K C = true) (sC : PySem.W.subIn K (.ref C) (.ref C) = some true) : ExcT K mg x C fI :=
  { g := PySem.W.mg_of X G aC, o := ⟨⟨nm, q, N, bs, bm, sn, sub, ab, col, dd, m0, m1, m2, m3, m5, xL, hb⟩, sa, eC, tC, kC⟩, xf := ⟨ga, gg, eC, hC⟩, iC := a1, tI := t1, te := exm_own eC iC tC sC }
theorem sqT_mk {K : PySem.W.Frag} {a : Addr} {xs : List V} {its : List Value} {n : Nat} {dd : Option Addr} {sl : Array (Option Value)}
    (l : K.lookup a = some ⟨.type "tuple", dd, .seq its.toArray n, sl⟩) (z : its.toArray.size ≤ sizeLine) (r : Vals xs its) : ∀ H, SqT K H a xs := fun _ =>
  .inr ⟨_, its.toArray, n, l, rfl, rfl, z, by simpa using r⟩
end Wk
namespace Wk
open PySem L2
section
variable {X : Cx} {x : Str} {pos : Pos}
theorem pe_gstr {z : Str} {t : Tok} (hm : X.mg x = some (.str z t)) (hg : Gl X x := by rfl) (hdb : (x == ("__debug__" : Str)) = false := by decide) : PE X (.Name x pos) (tC (.str z)) := pe_glob hg hm (v := .str z) ⟨t, rfl⟩ hdb
theorem pe_gint {i : Int} {t : Tok} (hm : X.mg x = some (.int i t)) (hg : Gl X x := by rfl) (hdb : (x == ("__debug__" : Str)) = false := by decide) : PE X (.Name x pos) (tC (.int i)) := pe_glob hg hm (v := .int i) ⟨t, rfl⟩ hdb
theorem pe_gref {b : Addr} (hm : X.mg x = some (.ref b)) (hg : Gl X x := by rfl) (hdb : (x == ("__debug__" : Str)) = false := by decide) : PE X (.Name x pos) (tC (.ref b)) := pe_glob hg hm (v := .ref b) rfl hdb
end
end Wk
namespace Wk
open PySem L2
/-- a loop's turn: the next state is in the invariant, with a smaller number -/
theorem turn_to {W : Nat → L2.St → Hp → Prop} {m : Nat} {tb : TS} {D : Ends} {σ : L2.St} {H : Hp}
    (h : tb { D with nx := fun σ' H' => ∃ m', m' < m ∧ W m' σ' H', ct := fun σ' H' => ∃ m', m' < m ∧ W m' σ' H', bk := D.nx } σ H) :
    ∃ N : L2.St → Hp → Prop, (∀ σ' H', N σ' H' → ∃ m', m' < m ∧ W m' σ' H') ∧ tb { D with nx := N, ct := N, bk := D.nx } σ H :=
  ⟨_, fun _ _ z => z, h⟩
theorem ite_b {b : Bool} {A B : Prop} (h1 : b = true → A) (h2 : b = false → B) : if b = true then A else B := by
  cases b
  · exact iteF (h2 rfl)
  · exact iteT (h1 rfl)
end Wk
namespace Wk
open PySem L2
abbrev cs (z : Str) : List Nat := z.cps.toList
abbrev S (l : List Nat) : Str := ⟨l.toArray⟩
theorem S_cs (z : Str) : S (cs z) = z := by
  cases z
  simp
theorem cs_S (l : List Nat) : cs (S l) = l := by simp
theorem cs_len (z : Str) : (cs z).length = z.length := by simp [Str.length]
theorem S_len (l : List Nat) : (S l).length = l.length := by simp [Str.length]
theorem S_inj {l m : List Nat} : S l = S m ↔ l = m := by
  constructor
  · intro h
    have := congrArg (fun z : Str => z.cps.toList) h
    simpa using this
  · intro h; rw [h]
theorem one_inj {x c : Nat} : ((⟨#[x]⟩ : Str) = ⟨#[c]⟩) = (x = c) := propext ⟨fun h => by
  have := congrArg (fun z : Str => z.cps.toList) h
  simpa using this, fun h => by rw [h]⟩
theorem atI_eq {α : Type} (l : List α) (n : Nat) : atI l (n : Int) = l[n]? := by
  cases h : l[n]? with
  | some v => exact atI_nat h
  | none =>
    have hl : l.length ≤ n := by simpa using h
    unfold atI ixN
    rw [if_pos (by omega), if_neg (by omega)]
    rfl
theorem sz_of {n : Nat} (h : n ≤ 100000) : n ≤ sizeLine := Nat.le_trans h (by decide)
theorem sz_lt {n : Nat} (h : n < 100000) : n < sizeLine := Nat.lt_of_lt_of_le h (by decide)
theorem cut_to (z : Str) (n : Nat) : cutS z none (some (n : Int)) = S ((cs z).take n) := by
  unfold cutS
  rw [HT.sIx_none, HT.sIx_nat]
  congr 1
  simp only [List.drop_zero, Nat.sub_zero]
  congr 1
  rw [List.take_eq_take_iff, cs_len]
  omega
theorem cut_mid (z : Str) (n m : Nat) : cutS z (some (n : Int)) (some (m : Int)) = S (((cs z).drop n).take (m - n)) := by
  unfold cutS
  rw [HT.sIx_nat, HT.sIx_nat]
  congr 1
  congr 1
  by_cases h : n ≤ z.length
  · rw [Nat.min_eq_left h, List.take_eq_take_iff, List.length_drop, cs_len]
    omega
  · rw [List.drop_of_length_le (by rw [cs_len]; omega), List.drop_of_length_le (by rw [cs_len]; omega)]
    simp
theorem cut_from (z : Str) (n : Nat) : cutS z (some (n : Int)) none = S ((cs z).drop n) := by
  unfold cutS
  rw [HT.sIx_nat, HT.sIx_none]
  congr 1
  congr 1
  by_cases h : n ≤ z.length
  · rw [Nat.min_eq_left h, List.take_of_length_le (by rw [List.length_drop, cs_len]; omega)]
  · rw [List.drop_of_length_le (by rw [cs_len]; omega), List.drop_of_length_le (by rw [cs_len]; omega)]
    simp
end Wk
namespace Wk
open PySem L2
section
variable {K : PySem.W.Frag} {H : Hp} {Q : VK}
theorem rin_t {p : Addr} {xs : List V} {x : V} {neg : Bool} (h : SqT K H p xs) (hx : flatV x = true) (ha : xs.all flatV = true)
    (q : Q (.bl (if neg then !inV x xs else inV x xs)) H) : rIn K neg x (.ref p) H Q := ⟨p, xs, rfl, .inr h, hx, ha, q⟩
theorem rin_l {p : Addr} {xs : List V} {x : V} {neg : Bool} (h : SqL K H p xs) (hx : flatV x = true) (ha : xs.all flatV = true)
    (q : Q (.bl (if neg then !inV x xs else inV x xs)) H) : rIn K neg x (.ref p) H Q := ⟨p, xs, rfl, .inl h, hx, ha, q⟩
theorem inV_strs (z : Str) : ∀ ls : List (List Nat), inV (.str z) (ls.map fun l => V.str (S l)) = decide (cs z ∈ ls)
  | [] => by simp [inV]
  | l :: ls => by
    have ih := inV_strs z ls
    have e : eqV (.str (S l)) (.str z) = decide (cs z = l) := by
      show (S l == z) = _
      rw [Bool.eq_iff_iff, beq_iff_eq, decide_eq_true_eq]
      constructor
      · intro h; rw [← h, cs_S]
      · intro h; rw [← h, S_cs]
    show (eqV (.str (S l)) (.str z) || inV (.str z) (ls.map fun l => V.str (S l))) = _
    rw [e, ih, Bool.eq_iff_iff, Bool.or_eq_true, decide_eq_true_eq, decide_eq_true_eq, decide_eq_true_eq, List.mem_cons]
theorem isi_str {z : Str} (q : Q (.bl true) H) : rIsi K [.str z, .ty "str"] H Q := ⟨_, _, _, _, true, rfl, .ty _, .base (.str _), kit_ty (by decide +kernel), q⟩
end
end Wk
namespace Wk
open PySem L2
/-- tuples stay -/
def TSame (H H' : Hp) : Prop := ∀ q xs, H q = some (.tup xs) → H' q = some (.tup xs)
theorem TSame.of {H H' : Hp} (h : Same H H') : TSame H H' := fun q _ e => h q _ e
theorem TSame.trans {H H1 H2 : Hp} (a : TSame H H1) (b : TSame H1 H2) : TSame H H2 := fun q xs e => b q xs (a q xs e)
theorem TSame.lst {H : Hp} {l : Addr} {vs ws : List V} (h : H l = some (.lst vs)) : TSame H (upd H l (.lst ws)) := fun q xs e => by
  rw [upd_ne (ne_of e h (by intro z; cases z))]
  exact e
theorem Same.new {H : Hp} {p : Addr} {o : HO} (h : H p = none) : Same H (upd H p o) := fun b u e => by
  rw [upd_ne (ne_of_none e h)]
  exact e
/-- an object that H does not know may change -/
theorem Same.mut {H H' : Hp} {p : Addr} {o : HO} (e : Same H H') (h : H p = none) : Same H (upd H' p o) := fun b u q => by
  rw [upd_ne (ne_of_none q h)]
  exact e b u q
end Wk
namespace Wk
open PySem L2
/-- the heap behind a made exception: nothing that stood has changed -/
theorem exc_heap {H : Hp} {e d : Addr} {o1 o2 o3 o4 : HO} (he : H e = none) (hd : H d = none) : Same H (upd (del (upd (upd (upd H e o1) d o2) e o3) e) d o4) := fun b o q => by
  have n1 : b ≠ e := ne_of_none q he
  have n2 : b ≠ d := ne_of_none q hd
  rw [upd_ne n2, del_ne n1, upd_ne n1, upd_ne n2, upd_ne n1]
  exact q
end Wk
namespace Wk
open PySem L2
/-! rules over tracked lists and tuples alone: what they ask is settled by the heap -/
theorem atI_lit {α : Type} (l : List α) (n : Nat) : atI l (@OfNat.ofNat Int n instOfNat) = l[n]? := atI_eq l n
section
variable {X : Cx}
def rIxLT : R2 := fun x y H Q => ∃ p xs i v, x = .ref p ∧ y = .int i ∧ H p = some (.lst xs) ∧ atI xs i = some v ∧ Q v H
def rIxTT : R2 := fun x y H Q => ∃ p xs i v, x = .ref p ∧ y = .int i ∧ H p = some (.tup xs) ∧ atI xs i = some v ∧ Q v H
theorem ix_listT : IxR X rIxLT := fun value slice pins s σ H x y v u Q I rx ry ⟨p, xs, i, z, e1, e2, e3, e4, q⟩ hs =>
  ix_list value slice pins s σ H x y v u Q I rx ry ⟨p, xs, i, z, e1, e2, SqL.of e3, e4, q⟩ hs
theorem ix_tupT : IxR X rIxTT := fun value slice pins s σ H x y v u Q I rx ry ⟨p, xs, i, z, e1, e2, e3, e4, q⟩ hs =>
  ix_tup value slice pins s σ H x y v u Q I rx ry ⟨p, xs, i, z, e1, e2, SqT.of e3, e4, q⟩ hs
def rLenLT : List V → Hp → VK → Prop := fun xs H Q => ∃ p ys, xs = [.ref p] ∧ H p = some (.lst ys) ∧ Q (.int ys.length) H
def rLenTT : List V → Hp → VK → Prop := fun xs H Q => ∃ p ys, xs = [.ref p] ∧ H p = some (.tup ys) ∧ Q (.int ys.length) H
theorem call_lenLT : CallR X (.builtin "len") rLenLT := fun pins s σ H xs us Q I r ⟨p, ys, e1, e2, q⟩ =>
  call_len_seq pins s σ H xs us Q I r ⟨p, ys, e1, .inl (SqL.of e2), q⟩
theorem call_lenTT : CallR X (.builtin "len") rLenTT := fun pins s σ H xs us Q I r ⟨p, ys, e1, e2, q⟩ =>
  call_len_seq pins s σ H xs us Q I r ⟨p, ys, e1, .inr (SqT.of e2), q⟩
end
theorem cxK {CX : CXT} {P : Program} {w : World} {K : PySem.W.Frag} {mg : Str → Option Value} {base : Heap} {N : List Str} {q : Str} {sc : Scope} {f : Addr} {cd : Value} {A : Around} {o : List Env} {s : Shared} {H : Hp} {E : XK} :
    (cxOf CX P w K mg base N q sc f cd A o s H E).K = K := rfl
theorem cxKn {CX : CXT} {P : Program} {w : World} {K : PySem.W.Frag} {mg : Str → Option Value} {base : Heap} {N : List Str} {q : Str} {sc : Scope} {f : Addr} {cd : Value} {A : Around} {o : List Env} {s : Shared} {H : Hp} {E : XK} :
    (cxOf CX P w K mg base N q sc f cd A o s H E).nox.K = K := rfl
end Wk
namespace Wk
open PySem L2
theorem atI_lits {α : Type} (l : List α) : atI l 0 = l[0]? ∧ atI l 1 = l[1]? ∧ atI l 2 = l[2]? ∧ atI l 3 = l[3]? ∧ atI l 4 = l[4]? ∧ atI l 5 = l[5]? ∧ atI l 6 = l[6]? ∧ atI l 7 = l[7]? ∧ atI l 8 = l[8]? ∧ atI l 9 = l[9]? ∧ atI l 10 = l[10]? ∧ atI l 11 = l[11]? ∧ atI l 12 = l[12]? ∧ atI l 13 = l[13]? ∧ atI l 14 = l[14]? ∧ atI l 15 = l[15]? ∧ atI l 16 = l[16]? ∧ atI l 17 = l[17]? ∧ atI l 18 = l[18]? ∧ atI l 19 = l[19]? ∧ atI l 20 = l[20]? ∧ atI l 21 = l[21]? ∧ atI l 22 = l[22]? ∧ atI l 23 = l[23]? := ⟨atI_eq l 0, atI_eq l 1, atI_eq l 2, atI_eq l 3, atI_eq l 4, atI_eq l 5, atI_eq l 6, atI_eq l 7, atI_eq l 8, atI_eq l 9, atI_eq l 10, atI_eq l 11, atI_eq l 12, atI_eq l 13, atI_eq l 14, atI_eq l 15, atI_eq l 16, atI_eq l 17, atI_eq l 18, atI_eq l 19, atI_eq l 20, atI_eq l 21, atI_eq l 22, atI_eq l 23⟩
theorem ixN_0 (n : Nat) : ixN (n + 1) 0 = some 0 := by
  unfold ixN
  rw [if_pos (by decide), if_pos (by omega)]
  rfl
theorem ixN_1 (n : Nat) : ixN (n + 1 + 1) 1 = some 1 := by
  unfold ixN
  rw [if_pos (by decide), if_pos (by omega)]
  rfl
theorem ixN_2 (n : Nat) : ixN (n + 1 + 1 + 1) 2 = some 2 := by
  unfold ixN
  rw [if_pos (by decide), if_pos (by omega)]
  rfl
end Wk
namespace Wk
open PySem L2
/-- the body of a for and what follows it, put aside while its head is read -/
theorem for_hide {wi : TI} {g : TG} {tb : TS} {D : Ends} {σ : L2.St} {H : Hp} (h : ∀ (tb' : TS) (D' : Ends), tb' = tb → D' = D → tFor wi g tb' D' σ H) : tFor wi g tb D σ H := h tb D rfl rfl
end Wk
set_option Elab.async false
set_option linter.all false
set_option maxRecDepth 100000
set_option maxHeartbeats 4000000
/-! Exceptions without values; own operators and own ==. -/
namespace Wk
open PySem PySem.Spec PyProof.Rows L2
/-- C(), C's own __init__ keeping sp and storing nothing -/
def tMkO0 (C : Addr) (sp : Sp) : L2.St → Hp → XK → Prop := fun _ H Q => ∀ a, H a = none → sp [.ref a] (upd H a (exo a C none))
  (fun v H2 => v = .non ∧ H2 a = some (exo a C none) ∧ Q (.ref C) none (del H2 a)) (fun _ _ _ => False)
section
variable {X : Cx}
theorem mk_bare {pins : List (Addr × Obj)} {σ : L2.St} {H1 H2 : Hp} {hp hp2 h2 : Heap} {g1 g2 : Array GenState} {d1 d2 : Drawn} {t1 t2 : Nat} {os1 os2 : OsState} {a C : Addr}
    (I1 : Inv X pins σ H1 ⟨hp, g1, d1, t1, os1⟩) (ha : hp.objs.size ≤ a) (k : ∀ b o, hp.get? b = some o → hp2.get? b = some o)
    (un : Un (frs X.stack) [] (upd H1 a (exo a C none)) H2 hp2 h2) (hok : HOk X.prog X.w H2 h2) (ho : os2 = os1) (hb : AllBare g2) (ea : H2 a = some (exo a C none)) :
    ∃ (t0 : Addr) (G : Heap), Inv X pins σ (del H2 a) ⟨G, g2, d2, t2, os2⟩ ∧ (∀ b o, G.get? b = some o → h2.get? b = some o) ∧ G.get? a = none ∧
      h2.get? a = some ({ cls := .ref C, dict := none, data := .fields #[.ref t0, .none, .none, .none, .bool false, .none] } : Obj) := by
  obtain ⟨t0, hoe⟩ := exo_at hok ea
  have hn : H1 a = none := I1.hok.fresh ha
  obtain ⟨G, g1', g2'⟩ := restrict h2 fun b => decide (b ≠ a)
  have gk : ∀ b, b ≠ a → G.get? b = h2.get? b := fun b hb => g1' b (decide_eq_true hb)
  have ge : G.get? a = none := g2' a (by simp)
  have nha : ∀ {b : Addr} {o : Obj}, hp.get? b = some o → b ≠ a := fun z => Nat.ne_of_lt (Nat.lt_of_lt_of_le (Heap.lt_size z) ha)
  have up : ∀ {b : Addr}, b ≠ a → H1 b = none → upd H1 a (exo a C none) b = none := fun hb n => (upd_ne hb).trans n
  have U : Un (frs X.stack) [] H1 (del H2 a) hp G := {
    keep := fun b o z n hf hx => (gk b (nha z)).trans (un.keep b o (k b o z) (up (nha z) n) hf hx)
    slot := fun b o z n hf hx => by
      rw [gk b (nha z)]
      exact un.slot b o (k b o z) (up (nha z) n) hf hx
    free := fun b o z n hx => (del_ne (nha z)).trans (un.free b o (k b o z) (up (nha z) n) hx)
    there := fun b o z hx => by
      rw [gk b (nha z)]
      exact un.there b o (k b o z) hx
    tups := fun b xs z => (del_ne (ne_of_none z hn)).trans (un.tups b xs ((upd_ne (ne_of_none z hn)).trans z))
    frzs := fun b o v z => (del_ne (ne_of_none z hn)).trans (un.frzs b o v ((upd_ne (ne_of_none z hn)).trans z))
    tbls := fun b ps z => by
      rw [del_ne (ne_of_none z hn)]
      exact un.tbls b ps ((upd_ne (ne_of_none z hn)).trans z) }
  have hok3 : HOk X.prog X.w (del H2 a) G := fun b o z => by
    have hba : b ≠ a := fun e => by
      rw [e, del_same] at z
      cases z
    rw [del_ne hba] at z
    have noa : ∀ {c : Addr}, H2 c = some (.own b) → c ≠ a := fun hc => at_ne ea hc exo_own
    refine (hok b o z).stay (fun c v hc y => ?_) (fun c hc => (del_ne (noa hc)).trans hc) (fun c xs hc => (del_ne (at_ne ea hc exo_tup)).trans hc)
    have hca : c ≠ a := by
      rcases hc with hc | hc
      · rw [hc]
        exact hba
      · exact noa hc
    exact (gk c hca).trans y
  refine ⟨t0, G, I1.call' (ch := []) ho U hok3 hb (fun b z => absurd z (by simp)), fun b o z => ?_, ge, hoe⟩
  by_cases hba : b = a
  · rw [hba, ge] at z
    cases z
  · exact (gk b hba).symm.trans z
theorem pmk_oex0 {CX : CXT} {x : Str} {C fI : Addr} {k : Nat} {fd : FuncData} {ps : List Str} {sp : Sp} {p pos : Pos} (T : OexC X.K C)
    (iC : PySem.W.findIn X.K (.ref C) "__init__" = some (some (.ref fI))) (tI : PySem.W.typeIn X.K (.ref fI) = some (.type "function"))
    (F1 : FnOk X.prog X.w X.K X.mg X.base CX k fI fd ps sp) (hr : Room (k + 1) X.A) (hb : Binds X.K fd ps []) (hx : Passes CX X (fun _ _ _ => False)) (hg : Gl X x)
    (hm : X.mg x = some (.ref C)) (hdb : (x == ("__debug__" : Str)) = false := by decide) : PMk X (.Call (.Name x p) [] [] pos) (tMkO0 C sp) := by
  intro pins s σ H Q I h
  obtain ⟨nm, q, N, bs, bm, sn, sub, ab, col, dd, k0, k1, k2, k3, k5, hC, hbm⟩ := T.cls
  refine wpAny_Call_Name_kw (ld_glob I hg hm ?_ hdb)
  refine PySem.W.callWith_K0 I.kIn T.kC ?_
  show wpAny _ _ (call (.ref C) []) _ _ _
  obtain ⟨hp, g, dr, tk, os⟩ := s
  have hsz : hp.objs.size ≤ hp.objs.size + 1 := Nat.le_succ _
  have hn : H (hp.objs.size + 1) = none := I.hok.fresh hsz
  have hq := h (hp.objs.size + 1) hn
  have kk : ∀ b o, hp.get? b = some o → ((hp.push (PySem.W.kdv_tup [])).push (PySem.HandSPX.excO C hp.objs.size)).get? b = some o := fun b o e => Heap.get?_push_of_some _ (Heap.get?_push_of_some _ e)
  have hget : ((hp.push (PySem.W.kdv_tup [])).push (PySem.HandSPX.excO C hp.objs.size)).get? (hp.objs.size + 1) = some (PySem.HandSPX.excO C hp.objs.size) := by heap_get
  have I2 : Inv X pins σ (upd H (hp.objs.size + 1) (exo (hp.objs.size + 1) C none)) ⟨(hp.push (PySem.W.kdv_tup [])).push (PySem.HandSPX.excO C hp.objs.size), g, dr, tk, os⟩ :=
    I.laid (t' := tk) (a := hp.objs.size + 1) (o := exo (hp.objs.size + 1) C none) (h' := (hp.push (PySem.W.kdv_tup [])).push (PySem.HandSPX.excO C hp.objs.size)) kk hsz (exo_ok hget)
  have r2 : Vals [V.ref (hp.objs.size + 1)] [Value.ref (hp.objs.size + 1)] := .cons rfl .nil
  have hl : ([Value.ref (hp.objs.size + 1)] ++ []).length = ps.length := F1.len _ _ _ _ hq
  refine wpAny_call (PySem.HandSPX.call_own F.excBase_ValueError (fun Y => PySem.HandSPX.refsVE_contains Y bm hbm) (I.kIn _ _ hC) (PySem.W.looks_findIn I.kIn iC) (fun self => PySem.W.bind_fn I.kIn self tI) (Nat.zero_le _)
    (codeAny_mono (F1.run _ X.stack _ _ ⟨[Value.ref (hp.objs.size + 1)], []⟩ [Value.ref (hp.objs.size + 1)] _ _ (fun _ _ _ => False) (hr.make C [] []) (I2.env0.make C [] []) (hb _ [Value.ref (hp.objs.size + 1)] I2.kIn hl) r2 hq) fun r s' hq' => ?_))
  cases r with
  | error er => exact hx pins σ _ _ er s' I2 hq'
  | ok fl =>
    cases fl with
    | ret u =>
      obtain ⟨v, H2, os2, bare2, un2, hok2, rv, ev, ea, q2⟩ := hq'
      subst ev
      obtain ⟨h2, g2, d2, t2, os'⟩ := s'
      obtain ⟨t0, G, J, kG, ge, hoe⟩ := mk_bare (d2 := d2) (t2 := t2) I hsz kk un2 hok2 os2 bare2 ea
      exact ⟨rv, ⟨hp.objs.size + 1, _, _, ⟨G, g2, d2, t2, os'⟩, _, .ref C, none, rfl, J, kG, ge, hoe, ⟨rfl, rfl⟩, rfl, rfl, del_same, rfl, bare2, raises_own T.exC T.tyC, q2⟩⟩
    | next => exact False.elim hq'
    | brk => exact False.elim hq'
    | cont => exact False.elim hq'
/-! ### own operators -/
theorem cmpBack_of {pins : List (Addr × Obj)} {σ : L2.St} {Q : VK} {u : Value} {s' : Shared} (h : EP X pins σ Q u s') : PySem.W.CmpBack (EP X pins σ Q) u s' := by
  obtain ⟨v, H', I, r, q⟩ := h
  cases v with
  | non => cases (show u = Value.none from r); exact ⟨.non, H', I, rfl, q⟩
  | bl b => cases (show u = Value.bool b from r); exact ⟨.bl b, H', I, rfl, q⟩
  | int i => obtain ⟨t, e⟩ := (show ∃ t, u = Value.int i t from r); cases e; exact ⟨.int i, H', I, ⟨t, rfl⟩, q⟩
  | str x => obtain ⟨t, e⟩ := (show ∃ t, u = Value.str x t from r); cases e; exact ⟨.str x, H', I, ⟨t, rfl⟩, q⟩
  | byt x => obtain ⟨t, e⟩ := (show ∃ t, u = Value.bytes x t from r); cases e; exact ⟨.byt x, H', I, ⟨t, rfl⟩, q⟩
  | flt x => obtain ⟨t, e⟩ := (show ∃ t, u = Value.float x t from r); cases e; exact ⟨.flt x, H', I, ⟨t, rfl⟩, q⟩
  | ref b => cases (show u = Value.ref b from r); exact ⟨.ref b, H', I, rfl, q⟩
  | ty n => cases (show u = Value.type n from r); exact ⟨.ty n, H', I, rfl, q⟩
/-- what the written part says of an own operator of the class at C -/
structure OwnOp (K : PySem.W.Frag) (C f : Addr) (op : Operator) : Prop where
  sf : PySem.W.selfFirst K C = true
  at_ : PySem.W.findIn K (.ref C) (PySem.dunder op.info.2) = some (some (.ref f))
  fn : PySem.W.isFn K (.ref f) = true
  nor : PySem.W.findIn K (.ref C) (dunderR op.info.2) = some none
  i1 : ∃ fo, PySem.W.findIn K (.type "int") (PySem.dunder op.info.2) = some fo
  i2 : ∃ ro, PySem.W.findIn K (.type "int") (dunderR op.info.2) = some ro
  sub : PySem.W.subIn K (.type "int") (.ref C) = some false
/-- a op b: a an instance of the class at C, b another one or an int -/
def rOwn (C : Addr) (sp : Sp) (E : XK) : R2 := fun x y H Q => ∃ a dx fs, x = .ref a ∧ H a = some (.ins C dx fs) ∧
  ((∃ b dy gs, y = .ref b ∧ H b = some (.ins C dy gs)) ∨ ∃ i, y = .int i) ∧ sp [x, y] H Q E
theorem op_own {CX : CXT} {op : Operator} {C f : Addr} {k : Nat} {fd : FuncData} {ps : List Str} {sp : Sp} {E : XK} (T : OwnOp X.K C f op) (F1 : FnOk X.prog X.w X.K X.mg X.base CX k f fd ps sp) (hr : Room k X.A)
    (hb : Binds X.K fd ps []) (hx : Passes CX X E) : OpR X (binaryOp op) (rOwn C sp E) := by
  intro pins s σ H x y v u Q I rx ry h
  obtain ⟨a, dx, fs, rfl, ea, hy, h⟩ := h
  cases (show v = Value.ref a from rx)
  obtain ⟨mA, O, _, _, _, _⟩ := ins_get I.hok ea
  obtain ⟨od, J, _⟩ := O.look
  obtain ⟨m, hF⟩ := I.fr
  have run : wpAny (model X.prog X.w) X.A (call (.ref f) [.ref a, u]) (PySem.W.CmpBack (EP X pins σ Q)) X.xe s :=
    wpAny_mono (run_fn (us := [.ref a, u]) (vs := [.ref a, y]) F1 hr hb .nil hx I (.cons rfl (.cons ry .nil)) h) (fun w s' z => cmpBack_of z) fun _ _ z => z
  rcases hy with ⟨b, dy, gs, rfl, eb⟩ | ⟨i, rfl⟩
  · cases (show u = Value.ref b from ry)
    obtain ⟨mB, O', _, _, _, _⟩ := ins_get I.hok eb
    obtain ⟨od', J', _⟩ := O'.look
    exact PySem.W.binop_K hF I.ok.mod.kin J J'.type T.sf T.at_ T.fn run
  · obtain ⟨t, e⟩ := (show ∃ t, u = Value.int i t from ry)
    cases e
    obtain ⟨fo, h1⟩ := T.i1
    obtain ⟨ro, h2⟩ := T.i2
    exact PySem.W.ksp_binT hF I.ok.mod.kin J rfl T.sf T.at_ T.fn T.nor (.inl rfl) h1 h2 T.sub run
/-- a == b by a's own ==, b of any told type that is no subclass of it -/
def rOwnEq (K : PySem.W.Frag) (C : Addr) (sp : Sp) (E : XK) : R2 := fun x y H Q => ∃ a dx fs t, x = .ref a ∧ H a = some (.ins C dx fs) ∧ TyX K H y t ∧ PySem.W.notFirst K C t = true ∧ sp [x, y] H Q E
theorem op_ownEq {CX : CXT} {C f : Addr} {k : Nat} {fd : FuncData} {ps : List Str} {sp : Sp} {E : XK} (at_ : PySem.W.findIn X.K (.ref C) "__eq__" = some (some (.ref f))) (fn : PySem.W.isFn X.K (.ref f) = true)
    (F1 : FnOk X.prog X.w X.K X.mg X.base CX k f fd ps sp) (hr : Room k X.A) (hb : Binds X.K fd ps []) (hx : Passes CX X E) : OpR X (compareOp .Eq) (rOwnEq X.K C sp E) := by
  intro pins s σ H x y v u Q I rx ry h
  obtain ⟨a, dx, fs, t, rfl, ea, ty, nf, h⟩ := h
  cases (show v = Value.ref a from rx)
  obtain ⟨mA, O, _, _, _, _⟩ := ins_get I.hok ea
  obtain ⟨od, J, _⟩ := O.look
  obtain ⟨m, hF⟩ := I.fr
  have run : wpAny (model X.prog X.w) X.A (call (.ref f) [.ref a, u]) (PySem.W.CmpBack (EP X pins σ Q)) X.xe s :=
    wpAny_mono (run_fn (us := [.ref a, u]) (vs := [.ref a, y]) F1 hr hb .nil hx I (.cons rfl (.cons ry .nil)) h) (fun w s' z => cmpBack_of z) fun _ _ z => z
  obtain ⟨P, Z, hp, _⟩ := kit_of I ry ty
  show wpAny (model X.prog X.w) X.A (richCompare .Eq (.ref a) u) _ _ _
  exact PySem.W.cmp_K (op := .Eq) hr.units0 hF I.ok.mod.kin J (Z.ty _ _ I.kIn hp) nf at_ fn run
theorem op_ownEqK {CX : CXT} {K : PySem.W.Frag} {C f : Addr} {k : Nat} {fd : FuncData} {ps : List Str} {sp : Sp} {E : XK} (hK : X.K = K) (at_ : PySem.W.findIn K (.ref C) "__eq__" = some (some (.ref f))) (fn : PySem.W.isFn K (.ref f) = true)
    (F1 : FnOk X.prog X.w K X.mg X.base CX k f fd ps sp) (hr : Room k X.A) (hb : Binds K fd ps []) (hx : Passes CX X E) : OpR X (compareOp .Eq) (rOwnEq K C sp E) := by
  subst hK
  exact op_ownEq at_ fn F1 hr hb hx
end
end Wk
namespace Wk
open PySem PySem.Spec PyProof.Rows L2
section
variable {X : Cx}
theorem call_repr_bool : CallR X (.builtin "repr") (fun xs H Q => ∃ b, xs = [.bl b] ∧ Q (.str (if b then "True" else "False")) H) := by
  intro pins s σ H xs us Q I r h
  obtain ⟨b, rfl, q⟩ := h
  obtain ⟨u, rfl, e⟩ := vals1 r
  cases (show u = Value.bool b from e)
  exact PySem.P.repr_of_bool ⟨.str _, H, I.tok _, ⟨_, rfl⟩, q⟩
end
/-- a def of the text with one default value, an int written in the text -/
abbrev FunD1 (K : PySem.W.Frag) (x qual : Str) (st : Stmt) (f : Addr) (fd : FuncData) : Prop := FunD K x qual (defArgs st) (defBody st) (defScope st) [.int 1] [] f fd
theorem fund_mk {K : PySem.W.Frag} {x qual : Str} {st : Stmt} {f T : Addr} {oc : Value} {od an dd : Option Addr} {osl sl : Array (Option Value)} {kV doc pm cdv ct cc u : Value} {n : Nat}
    (l : K.lookup f = some ⟨oc, od, .func (PySem.W.fnOf x qual (defArgs st) (defBody st) (defScope st) (.ref T) kV doc pm an cdv ct), osl⟩) (c : PySem.W.codeIn K cdv qual = true)
    (k : PySem.W.keepIn K (.ref f) = true) (t : K.lookup T = some ⟨cc, dd, .seq [u].toArray n, sl⟩) (r : RelV (.int 1) u) :
    FunD1 K x qual st f (PySem.W.fnOf x qual (defArgs st) (defBody st) (defScope st) (.ref T) kV doc pm an cdv ct) :=
  ⟨⟨oc, od, .ref T, kV, doc, pm, an, cdv, ct, osl, rfl, l, c, .inr ⟨by simp, T, _, [u], n, rfl, t, rfl, .cons r .nil⟩, .inl rfl⟩, k⟩
end Wk
namespace Wk
open PySem L2
/-- a comprehension's parts and what follows it, put aside while its head is read -/
theorem lc_hide {wi : TI} {g : TG} {tt : TT} {te : TE} {vs : List Nat} {σ : L2.St} {H : Hp} {Q : VK} (h : ∀ (g' : TG) (tt' : TT) (te' : TE) (Q' : VK), g' = g → tt' = tt → te' = te → Q' = Q → tLc wi g' tt' te' vs σ H Q') : tLc wi g tt te vs σ H Q := h g tt te Q rfl rfl rfl rfl
end Wk
namespace Wk
open PySem L2
theorem kit_own {K : PySem.W.Frag} {t : Value} {C : Addr} {b : Bool} (h0 : (t == Value.ref C) = false) (h1 : PySem.W.isClsIn K C = true) (h2 : PySem.W.typeIn K (.ref C) = some (.type "type")) (h3 : PySem.W.subIn K t (.ref C) = some b) : PySem.W.kitOne K t (.ref C) = some b := by
  have h1' : (PySem.W.clsIn K C).isSome = true := h1
  unfold PySem.W.kitOne PySem.W.kitCls
  rw [h0]
  simp only [h1', h2, h3]
  rfl
theorem kit_blt {K : PySem.W.Frag} {C : Addr} {T : String} {b : Bool} (h0 : (Value.ref C == Value.type T) = false) (h1 : PySem.W.kitMeta T = true) (h3 : PySem.W.subIn K (.ref C) (.type T) = some b) : PySem.W.kitOne K (.ref C) (.type T) = some b := by
  unfold PySem.W.kitOne PySem.W.kitCls
  rw [h0]
  simp only [h1, h3]
  rfl
theorem kit_self {K : PySem.W.Frag} {C : Addr} : PySem.W.kitOne K (.ref C) (.ref C) = some true := by
  unfold PySem.W.kitOne
  rw [if_pos (by simp)]
end Wk
namespace Wk
open PySem L2
theorem prop_mk {K : PySem.W.Frag} {C p g : Addr} {f : Str} {rest : List Value} (h1 : PySem.W.findIn K (.ref C) f = some (some (.ref p))) (h2 : PySem.W.specialIn K (.ref p) "__get__" = some (some (.builtin "property.__get__")))
    (h3 : PySem.W.takesIn K (.ref p) = some true) (h4 : PySem.W.recIn K p "property" = some (.ref g :: rest)) : PropOf K C f p g := ⟨h1, h2, h3, _, h4⟩
theorem ownop_mk {K : PySem.W.Frag} {C f : Addr} {op : Operator} {fo ro : Option Value} (h1 : PySem.W.selfFirst K C = true) (h2 : PySem.W.findIn K (.ref C) (PySem.dunder op.info.2) = some (some (.ref f))) (h3 : PySem.W.isFn K (.ref f) = true)
    (h4 : PySem.W.findIn K (.ref C) (dunderR op.info.2) = some none) (h5 : PySem.W.findIn K (.type "int") (PySem.dunder op.info.2) = some fo) (h6 : PySem.W.findIn K (.type "int") (dunderR op.info.2) = some ro) (h7 : PySem.W.subIn K (.type "int") (.ref C) = some false) : OwnOp K C f op :=
  ⟨h1, h2, h3, h4, ⟨_, h5⟩, ⟨_, h6⟩, h7⟩
end Wk
set_option linter.all false
/-! Lowest terms. -/
namespace RatM
/-- a quotient in lowest terms, the bottom above 0 -/
def low (h l : Int) : Int × Int := ((if l < 0 then -1 else 1) * h / (Int.gcd h l : Int), (if l < 0 then -1 else 1) * l / (Int.gcd h l : Int))
theorem gcd_pos {h l : Int} (hl : l ≠ 0) : 0 < Int.gcd h l := Nat.pos_of_ne_zero fun z => hl (Int.eq_zero_of_gcd_eq_zero_right z)
theorem low_scale_pos {h l c : Int} (hc : 0 < c) (hl : l ≠ 0) : low (c * h) (c * l) = low h l := by
  have hg : (Int.gcd (c * h) (c * l) : Int) = c * (Int.gcd h l : Int) := by
    rw [Int.gcd_mul_left]
    rw [Int.natCast_mul]
    congr 1
    omega
  have hs : (c * l < 0) ↔ l < 0 := by
    constructor
    · intro q
      by_cases z : l < 0
      · exact z
      · have := Int.mul_nonneg (Int.le_of_lt hc) (show 0 ≤ l by omega)
        omega
    · intro q
      exact Int.mul_neg_of_pos_of_neg hc q
  unfold low
  rw [hg]
  simp only [hs]
  have key : ∀ x : Int, (if l < 0 then (-1 : Int) else 1) * (c * x) / (c * (Int.gcd h l : Int)) = (if l < 0 then (-1 : Int) else 1) * x / (Int.gcd h l : Int) := fun x => by
    rw [show (if l < 0 then (-1 : Int) else 1) * (c * x) = c * ((if l < 0 then (-1 : Int) else 1) * x) by rw [Int.mul_left_comm]]
    exact Int.mul_ediv_mul_of_pos _ _ hc
  rw [key, key]
theorem low_neg {h l : Int} (hl : l ≠ 0) : low (-h) (-l) = low h l := by
  unfold low
  rw [Int.gcd_neg, Int.neg_gcd]
  rcases Int.lt_or_gt_of_ne hl with z | z
  · rw [if_neg (by omega), if_pos z]
    simp [Int.neg_mul]
  · rw [if_pos (by omega), if_neg (by omega)]
    simp [Int.neg_mul]
theorem low_scale {h l c : Int} (hc : c ≠ 0) (hl : l ≠ 0) : low (c * h) (c * l) = low h l := by
  rcases Int.lt_or_gt_of_ne hc with z | z
  · have := low_scale_pos (h := h) (l := l) (c := -c) (by omega) hl
    rw [← this, ← low_neg (h := -c * h) (l := -c * l) (Int.mul_ne_zero (by omega) hl)]
    simp [Int.neg_mul]
  · exact low_scale_pos z hl
theorem low_eq {h l h' l' : Int} (hl : l ≠ 0) (hl' : l' ≠ 0) (e : h * l' = h' * l) : low h l = low h' l' := by
  rw [← low_scale (c := l') hl' hl, ← low_scale (h := h') (l := l') (c := l) hl hl', Int.mul_comm l' h, Int.mul_comm l h', e, Int.mul_comm l' l]
theorem low_spec {h l : Int} (hl : l ≠ 0) : (low h l).1 * l = h * (low h l).2 ∧ 0 < (low h l).2 := by
  have g0 := gcd_pos (h := h) hl
  obtain ⟨x, hx⟩ : (Int.gcd h l : Int) ∣ h := Int.gcd_dvd_left ..
  obtain ⟨y, hy⟩ : (Int.gcd h l : Int) ∣ l := Int.gcd_dvd_right ..
  have gp : (0 : Int) < (Int.gcd h l : Int) := by omega
  unfold low
  generalize (Int.gcd h l : Int) = g at *
  have e1 : ∀ (s z : Int), s * (g * z) / g = s * z := fun s z => by
    rw [Int.mul_left_comm, Int.mul_ediv_cancel_left _ (by omega)]
  subst hx
  subst hy
  rw [e1, e1]
  refine ⟨?_, ?_⟩
  · show (if g * y < 0 then (-1 : Int) else 1) * x * (g * y) = g * x * ((if g * y < 0 then (-1 : Int) else 1) * y)
    generalize (if g * y < 0 then (-1 : Int) else 1) = s
    simp only [Int.mul_comm, Int.mul_left_comm, Int.mul_assoc]
  · show 0 < (if g * y < 0 then (-1 : Int) else 1) * y
    by_cases q : g * y < 0
    · rw [if_pos q]
      have : y < 0 := by
        by_cases z : y < 0
        · exact z
        · have := Int.mul_nonneg (Int.le_of_lt gp) (show 0 ≤ y by omega)
          omega
      omega
    · rw [if_neg q]
      have : 0 < y := by
        by_cases z : 0 < y
        · exact z
        · have : y ≠ 0 := fun e => hl (by rw [e, Int.mul_zero])
          have := Int.mul_neg_of_pos_of_neg gp (show y < 0 by omega)
          omega
      omega
theorem low_one (w : Int) : low w 1 = (w, 1) := by
  unfold low
  rw [Int.gcd_one]
  simp
/-- what is told of two quotients -/
theorem low_add {a b c d : Int} (hb : b ≠ 0) (hd : d ≠ 0) : low ((low a b).1 * (low c d).2 + (low c d).1 * (low a b).2) ((low a b).2 * (low c d).2) = low (a * d + c * b) (b * d) := by
  obtain ⟨e1, p1⟩ := low_spec (h := a) hb
  obtain ⟨e2, p2⟩ := low_spec (h := c) hd
  generalize (low a b).1 = p at *
  generalize (low a b).2 = q at *
  generalize (low c d).1 = r at *
  generalize (low c d).2 = s at *
  refine low_eq (Int.mul_ne_zero (by omega) (by omega)) (Int.mul_ne_zero hb hd) ?_
  rw [Int.add_mul, Int.add_mul]
  rw [show p * s * (b * d) = (p * b) * (s * d) by simp only [Int.mul_comm, Int.mul_left_comm, Int.mul_assoc], e1]
  rw [show r * q * (b * d) = (r * d) * (q * b) by simp only [Int.mul_comm, Int.mul_left_comm, Int.mul_assoc], e2]
  simp only [Int.mul_comm, Int.mul_left_comm, Int.mul_assoc]
theorem low_sub {a b c d : Int} (hb : b ≠ 0) (hd : d ≠ 0) : low ((low a b).1 * (low c d).2 - (low c d).1 * (low a b).2) ((low a b).2 * (low c d).2) = low (a * d - c * b) (b * d) := by
  obtain ⟨e1, p1⟩ := low_spec (h := a) hb
  obtain ⟨e2, p2⟩ := low_spec (h := c) hd
  generalize (low a b).1 = p at *
  generalize (low a b).2 = q at *
  generalize (low c d).1 = r at *
  generalize (low c d).2 = s at *
  refine low_eq (Int.mul_ne_zero (by omega) (by omega)) (Int.mul_ne_zero hb hd) ?_
  rw [Int.sub_mul, Int.sub_mul]
  rw [show p * s * (b * d) = (p * b) * (s * d) by simp only [Int.mul_comm, Int.mul_left_comm, Int.mul_assoc], e1]
  rw [show r * q * (b * d) = (r * d) * (q * b) by simp only [Int.mul_comm, Int.mul_left_comm, Int.mul_assoc], e2]
  simp only [Int.mul_comm, Int.mul_left_comm, Int.mul_assoc]
theorem low_mul {a b c d : Int} (hb : b ≠ 0) (hd : d ≠ 0) : low ((low a b).1 * (low c d).1) ((low a b).2 * (low c d).2) = low (a * c) (b * d) := by
  obtain ⟨e1, p1⟩ := low_spec (h := a) hb
  obtain ⟨e2, p2⟩ := low_spec (h := c) hd
  generalize (low a b).1 = p at *
  generalize (low a b).2 = q at *
  generalize (low c d).1 = r at *
  generalize (low c d).2 = s at *
  refine low_eq (Int.mul_ne_zero (by omega) (by omega)) (Int.mul_ne_zero hb hd) ?_
  rw [show p * r * (b * d) = (p * b) * (r * d) by simp only [Int.mul_comm, Int.mul_left_comm, Int.mul_assoc], e1, e2]
  simp only [Int.mul_comm, Int.mul_left_comm, Int.mul_assoc]
theorem low_top {c d : Int} (hd : d ≠ 0) : (low c d).1 = 0 ↔ c = 0 := by
  obtain ⟨e2, p2⟩ := low_spec (h := c) hd
  constructor
  · intro z
    rw [z, Int.zero_mul] at e2
    rcases Int.mul_eq_zero.mp e2.symm with q | q
    · exact q
    · omega
  · intro z
    rw [z, Int.zero_mul] at e2
    rw [z]
    rcases Int.mul_eq_zero.mp e2 with q | q
    · exact q
    · exact absurd q hd
theorem low_over {a b c d : Int} (hb : b ≠ 0) (hd : d ≠ 0) (hc : c ≠ 0) : low ((low a b).1 * (low c d).2) ((low a b).2 * (low c d).1) = low (a * d) (b * c) := by
  have n : (low c d).1 ≠ 0 := fun z => hc ((low_top hd).mp z)
  obtain ⟨e1, p1⟩ := low_spec (h := a) hb
  obtain ⟨e2, p2⟩ := low_spec (h := c) hd
  generalize (low a b).1 = p at *
  generalize (low a b).2 = q at *
  generalize (low c d).1 = r at *
  generalize (low c d).2 = s at *
  refine low_eq (Int.mul_ne_zero (by omega) n) (Int.mul_ne_zero hb hc) ?_
  rw [show p * s * (b * c) = (p * b) * (c * s) by simp only [Int.mul_comm, Int.mul_left_comm, Int.mul_assoc], e1, ← e2]
  simp only [Int.mul_comm, Int.mul_left_comm, Int.mul_assoc]
theorem low_neg_iff {h l : Int} (hl : 0 < l) : (low h l).1 < 0 ↔ h < 0 := by
  obtain ⟨e1, p1⟩ := low_spec (h := h) (l := l) (by omega)
  generalize (low h l).1 = p at *
  generalize (low h l).2 = q at *
  constructor
  · intro z
    have := Int.mul_neg_of_neg_of_pos z hl
    by_cases y : h < 0
    · exact y
    · have := Int.mul_nonneg (show 0 ≤ h by omega) (Int.le_of_lt p1)
      omega
  · intro z
    have := Int.mul_neg_of_neg_of_pos z p1
    by_cases y : p < 0
    · exact y
    · have := Int.mul_nonneg (show 0 ≤ p by omega) (Int.le_of_lt hl)
      omega
theorem low_less {a b c d : Int} (hb : b ≠ 0) (hd : d ≠ 0) : (low (a * d - c * b) (b * d)).1 < 0 ↔ (low a b).1 * (low c d).2 < (low c d).1 * (low a b).2 := by
  rw [← low_sub hb hd, low_neg_iff (Int.mul_pos (low_spec (h := a) hb).2 (low_spec (h := c) hd).2)]
  omega
/-- sizes -/
theorem low_size {h l : Int} {n : Nat} (hl : l ≠ 0) (h1 : h.natAbs < 2 ^ n) (h2 : l.natAbs < 2 ^ n) : (low h l).1.natAbs < 2 ^ n ∧ (low h l).2.natAbs < 2 ^ n := by
  have g0 := gcd_pos (h := h) hl
  have key : ∀ x : Int, x.natAbs < 2 ^ n → (Int.gcd h l : Int) ∣ x → ((if l < 0 then (-1 : Int) else 1) * x / (Int.gcd h l : Int)).natAbs < 2 ^ n := fun x hx dv => by
    obtain ⟨y, hy⟩ := dv
    have gp : (Int.gcd h l : Int) ≠ 0 := by omega
    rw [hy, Int.mul_left_comm, Int.mul_ediv_cancel_left _ gp, Int.natAbs_mul]
    have e : (if l < 0 then (-1 : Int) else 1).natAbs = 1 := by split <;> rfl
    rw [e, Nat.one_mul]
    rw [hy, Int.natAbs_mul, Int.natAbs_natCast] at hx
    have := Nat.le_mul_of_pos_left y.natAbs g0
    omega
  exact ⟨key h h1 (Int.gcd_dvd_left ..), key l h2 (Int.gcd_dvd_right ..)⟩
theorem mul_size {x y : Int} {n m : Nat} (h1 : x.natAbs < 2 ^ n) (h2 : y.natAbs < 2 ^ m) : (x * y).natAbs < 2 ^ (n + m) := by
  rw [Int.natAbs_mul, Nat.pow_add]
  exact Nat.mul_lt_mul'' h1 h2
theorem add_size {x y : Int} {n : Nat} (h1 : x.natAbs < 2 ^ n) (h2 : y.natAbs < 2 ^ n) : (x + y).natAbs < 2 ^ (n + 1) := by
  rw [Nat.pow_succ]
  omega
theorem sub_size {x y : Int} {n : Nat} (h1 : x.natAbs < 2 ^ n) (h2 : y.natAbs < 2 ^ n) : (x - y).natAbs < 2 ^ (n + 1) := by
  rw [Nat.pow_succ]
  omega
theorem gcd_size {h l : Int} {n : Nat} (hl : l ≠ 0) (h2 : l.natAbs < 2 ^ n) : Int.gcd h l < 2 ^ n := by
  have := Int.gcd_le_natAbs_right h hl
  omega
end RatM
set_option Elab.async false
set_option linter.all false
set_option maxRecDepth 100000
set_option maxHeartbeats 4000000
namespace Rat2
open PySem L2 RatM Wk
local macro_rules | `(tactic| walk_at "rd") => `(tactic| simp only [tSeq, tAsg, gName, tC, tVar, tOp, tUn, tTest, tB, tAnd, tOr, tNot, tIf, tIfS, tRet, tDrop, tNext, tCB, tCons, tNil, tSl, tPart, tNoPart, tAug, ipI, rI0, rI, rU, tLst, tTup, tBM, rAppend, tCall, tPar, tPar3, gTup, gCons, gNil, tMkO, tMkO0, tCallS, WE, wAs, wOnly, tXf, tMake, tMakeK, tMeth, tProp, rOwn, rOwnEq, tFld, sFld, tFmt, tJs, rIxS, rIxLT, rIxTT, rLenLT, rLenTT, gSub, rSetL, Wk.ixN_0, Wk.ixN_1, Wk.ixN_2, Wk.cxK, Wk.cxKn, Wk.atI_lits, upd_same, HO.lst.injEq, HO.tup.injEq, rSlS, rEq, rNe, scal, tChain, tYes, tAndV, tOrV, tNotV, tM1, L2.start,
  List.map_nil, List.map_cons, List.replicate, List.length_cons, List.length_nil, List.cons_append, List.nil_append, List.getElem?_cons_zero, List.getElem?_cons_succ, List.set_cons_zero, List.set_cons_succ, Option.some.injEq, V.int.injEq, V.str.injEq, V.ref.injEq, V.bl.injEq, List.cons.injEq, and_true, true_and, and_assoc, exists_eq_left', exists_eq_left, exists_and_left, Wk.one_inj, Wk.atI_eq, Bool.false_eq_true, if_false, if_true, Bool.not_false, Bool.not_true, Bool.not_eq_true', decide_eq_false_iff_not, decide_eq_true_eq])
def top (i : Nat) : Stmt := PySem.Challenge.pw_widestkind_k02_ratios.main.body.getD i (.Pass ⟨0, 0, 0, 0⟩)
abbrev s_ByZero_init : Stmt := inClass (top 2) 0
abbrev s_common_divisor : Stmt := top 4
abbrev s_is_integer : Stmt := top 5
abbrev s_Ratio_init : Stmt := inClass (top 6) 0
abbrev s_Ratio_top : Stmt := inClass (top 6) 1
abbrev s_Ratio_bottom : Stmt := inClass (top 6) 2
abbrev s_Ratio_add : Stmt := inClass (top 6) 3
abbrev s_Ratio_sub : Stmt := inClass (top 6) 4
abbrev s_Ratio_mul : Stmt := inClass (top 6) 5
abbrev s_Ratio_eq : Stmt := inClass (top 6) 6
abbrev s_Ratio_over : Stmt := inClass (top 6) 7
abbrev s_Ratio_below : Stmt := inClass (top 6) 8
abbrev s_Ratio_written : Stmt := inClass (top 6) 9
abbrev s_is_number : Stmt := top 7
abbrev s_as_ratio : Stmt := top 8
abbrev s_l_cell : Stmt := top 10
abbrev s_l_box : Stmt := top 11
abbrev s_l_take : Stmt := top 12
abbrev s_l_mixed : Stmt := top 13
abbrev s_l_low : Stmt := top 14
abbrev s_l_number : Stmt := top 15
abbrev s_l_pair : Stmt := top 16
abbrev s_l_told : Stmt := top 17
abbrev s_l_text : Stmt := top 18
abbrev s_l_over : Stmt := top 19
abbrev s_l_two_right : Stmt := top 20
abbrev s_l_refused : Stmt := top 21
abbrev s_law : Stmt := top 22
theorem sc_ByZero_init : FnScope ["self"] ["self"] (defScope s_ByZero_init) :=
  ⟨rfl, rfl, rfl, by decide +kernel, rfl, by decide +kernel, by decide +kernel⟩
theorem sc_common_divisor : FnScope ["one", "other"] ["one", "other"] (defScope s_common_divisor) :=
  ⟨rfl, rfl, rfl, by decide +kernel, rfl, by decide +kernel, by decide +kernel⟩
theorem sc_is_integer : FnScope ["value"] ["value"] (defScope s_is_integer) :=
  ⟨rfl, rfl, rfl, by decide +kernel, rfl, by decide +kernel, by decide +kernel⟩
theorem sc_Ratio_init : FnScope ["self", "top", "bottom", "divisor", "sign"] ["self", "top", "bottom"] (defScope s_Ratio_init) :=
  ⟨rfl, rfl, rfl, by decide +kernel, rfl, by decide +kernel, by decide +kernel⟩
theorem sc_Ratio_top : FnScope ["self"] ["self"] (defScope s_Ratio_top) :=
  ⟨rfl, rfl, rfl, by decide +kernel, rfl, by decide +kernel, by decide +kernel⟩
theorem sc_Ratio_bottom : FnScope ["self"] ["self"] (defScope s_Ratio_bottom) :=
  ⟨rfl, rfl, rfl, by decide +kernel, rfl, by decide +kernel, by decide +kernel⟩
theorem sc_Ratio_add : FnScope ["self", "other", "more"] ["self", "other"] (defScope s_Ratio_add) :=
  ⟨rfl, rfl, rfl, by decide +kernel, rfl, by decide +kernel, by decide +kernel⟩
theorem sc_Ratio_sub : FnScope ["self", "other", "more"] ["self", "other"] (defScope s_Ratio_sub) :=
  ⟨rfl, rfl, rfl, by decide +kernel, rfl, by decide +kernel, by decide +kernel⟩
theorem sc_Ratio_mul : FnScope ["self", "other", "more"] ["self", "other"] (defScope s_Ratio_mul) :=
  ⟨rfl, rfl, rfl, by decide +kernel, rfl, by decide +kernel, by decide +kernel⟩
theorem sc_Ratio_eq : FnScope ["self", "other", "more"] ["self", "other"] (defScope s_Ratio_eq) :=
  ⟨rfl, rfl, rfl, by decide +kernel, rfl, by decide +kernel, by decide +kernel⟩
theorem sc_Ratio_over : FnScope ["self", "number", "more"] ["self", "number"] (defScope s_Ratio_over) :=
  ⟨rfl, rfl, rfl, by decide +kernel, rfl, by decide +kernel, by decide +kernel⟩
theorem sc_Ratio_below : FnScope ["self", "number", "more"] ["self", "number"] (defScope s_Ratio_below) :=
  ⟨rfl, rfl, rfl, by decide +kernel, rfl, by decide +kernel, by decide +kernel⟩
theorem sc_Ratio_written : FnScope ["self"] ["self"] (defScope s_Ratio_written) :=
  ⟨rfl, rfl, rfl, by decide +kernel, rfl, by decide +kernel, by decide +kernel⟩
theorem sc_is_number : FnScope ["value"] ["value"] (defScope s_is_number) :=
  ⟨rfl, rfl, rfl, by decide +kernel, rfl, by decide +kernel, by decide +kernel⟩
theorem sc_as_ratio : FnScope ["number"] ["number"] (defScope s_as_ratio) :=
  ⟨rfl, rfl, rfl, by decide +kernel, rfl, by decide +kernel, by decide +kernel⟩
theorem sc_l_cell : FnScope ["_law_script", "_law_k"] ["_law_script", "_law_k"] (defScope s_l_cell) :=
  ⟨rfl, rfl, rfl, by decide +kernel, rfl, by decide +kernel, by decide +kernel⟩
theorem sc_l_box : FnScope ["_law_cell_here"] ["_law_cell_here"] (defScope s_l_box) :=
  ⟨rfl, rfl, rfl, by decide +kernel, rfl, by decide +kernel, by decide +kernel⟩
theorem sc_l_take : FnScope ["_law_box_here", "_law_many", "_law_digit", "_law_number_here"] ["_law_box_here", "_law_many"] (defScope s_l_take) :=
  ⟨rfl, rfl, rfl, by decide +kernel, rfl, by decide +kernel, by decide +kernel⟩
theorem sc_l_low : FnScope ["_law_high", "_law_low_here", "_law_one", "_law_other", "_law_sign"] ["_law_high", "_law_low_here"] (defScope s_l_low) :=
  ⟨rfl, rfl, rfl, by decide +kernel, rfl, by decide +kernel, by decide +kernel⟩
theorem sc_l_number : FnScope ["_law_box_here", "_law_way"] ["_law_box_here"] (defScope s_l_number) :=
  ⟨rfl, rfl, rfl, by decide +kernel, rfl, by decide +kernel, by decide +kernel⟩
theorem sc_l_pair : FnScope ["_law_box_here", "_law_low_here"] ["_law_box_here"] (defScope s_l_pair) :=
  ⟨rfl, rfl, rfl, by decide +kernel, rfl, by decide +kernel, by decide +kernel⟩
theorem sc_l_told : FnScope ["_law_ratio"] ["_law_ratio"] (defScope s_l_told) :=
  ⟨rfl, rfl, rfl, by decide +kernel, rfl, by decide +kernel, by decide +kernel⟩
theorem sc_l_text : FnScope ["_law_pair_here"] ["_law_pair_here"] (defScope s_l_text) :=
  ⟨rfl, rfl, rfl, by decide +kernel, rfl, by decide +kernel, by decide +kernel⟩
theorem sc_l_over : FnScope ["_law_one", "_law_other"] ["_law_one", "_law_other"] (defScope s_l_over) :=
  ⟨rfl, rfl, rfl, by decide +kernel, rfl, by decide +kernel, by decide +kernel⟩
theorem sc_l_two_right : FnScope ["_law_first", "_law_second", "_law_one", "_law_other", "_law_a", "_law_b", "_law_c", "_law_d", "_law_alike2", "_law_less"] ["_law_first", "_law_second", "_law_one", "_law_other"] (defScope s_l_two_right) :=
  ⟨rfl, rfl, rfl, by decide +kernel, rfl, by decide +kernel, by decide +kernel⟩
theorem sc_l_refused : FnScope ["_law_high"] ["_law_high"] (defScope s_l_refused) :=
  ⟨rfl, rfl, rfl, by decide +kernel, rfl, by decide +kernel, by decide +kernel⟩
theorem sc_law : FnScope ["_law_script", "_law_k", "_law_box_here", "_law_pairs", "_law_turn", "_law_first", "_law_second", "_law_one", "_law_other", "_law_whole", "_law_odd"] ["_law_script"] (defScope s_law) :=
  ⟨rfl, rfl, rfl, by decide +kernel, rfl, by decide +kernel, by decide +kernel⟩
structure Ad where
  CK : Addr
  C_ByZero : Addr
  f_ByZero_init : Addr
  d_ByZero_init : FuncData
  C_Ratio : Addr
  f_Ratio_init : Addr
  d_Ratio_init : FuncData
  f_Ratio_top : Addr
  d_Ratio_top : FuncData
  pa_Ratio_top : Addr
  f_Ratio_bottom : Addr
  d_Ratio_bottom : FuncData
  pa_Ratio_bottom : Addr
  f_Ratio_add : Addr
  d_Ratio_add : FuncData
  f_Ratio_sub : Addr
  d_Ratio_sub : FuncData
  f_Ratio_mul : Addr
  d_Ratio_mul : FuncData
  f_Ratio_eq : Addr
  d_Ratio_eq : FuncData
  f_Ratio_over : Addr
  d_Ratio_over : FuncData
  f_Ratio_below : Addr
  d_Ratio_below : FuncData
  f_Ratio_written : Addr
  d_Ratio_written : FuncData
  f_common_divisor : Addr
  d_common_divisor : FuncData
  f_is_integer : Addr
  d_is_integer : FuncData
  f_is_number : Addr
  d_is_number : FuncData
  f_as_ratio : Addr
  d_as_ratio : FuncData
  f_l_cell : Addr
  d_l_cell : FuncData
  f_l_box : Addr
  d_l_box : FuncData
  f_l_take : Addr
  d_l_take : FuncData
  f_l_low : Addr
  d_l_low : FuncData
  f_l_number : Addr
  d_l_number : FuncData
  f_l_pair : Addr
  d_l_pair : FuncData
  f_l_told : Addr
  d_l_told : FuncData
  f_l_text : Addr
  d_l_text : FuncData
  f_l_over : Addr
  d_l_over : FuncData
  f_l_two_right : Addr
  d_l_two_right : FuncData
  f_l_refused : Addr
  d_l_refused : FuncData
  f_law : Addr
  d_law : FuncData
structure Txt (K : PySem.W.Frag) (mg : Str → Option Value) (a : Ad) : Prop where
  kb : Wk.KBase K mg a.CK
  e_ByZero : Wk.ExcT K mg "ByZero" a.C_ByZero a.f_ByZero_init
  F_ByZero_init : Fun K "__init__" "ByZero.__init__" s_ByZero_init a.f_ByZero_init a.d_ByZero_init
  b_ByZero_init : Binds K a.d_ByZero_init ["self"] []
  cl_Ratio : Cls K a.C_Ratio
  g_Ratio : mg "Ratio" = some (.ref a.C_Ratio)
  mk_Ratio : Mk K a.C_Ratio a.f_Ratio_init
  n_Ratio_numer : NoAttr K a.C_Ratio "numer"
  n_Ratio_denom : NoAttr K a.C_Ratio "denom"
  F_Ratio_init : Wk.FunD1 K "__init__" "Ratio.__init__" s_Ratio_init a.f_Ratio_init a.d_Ratio_init
  F_Ratio_top : Fun K "top" "Ratio.top" s_Ratio_top a.f_Ratio_top a.d_Ratio_top
  b_Ratio_top : Binds K a.d_Ratio_top ["self"] []
  p_Ratio_top : PropOf K a.C_Ratio "top" a.pa_Ratio_top a.f_Ratio_top
  F_Ratio_bottom : Fun K "bottom" "Ratio.bottom" s_Ratio_bottom a.f_Ratio_bottom a.d_Ratio_bottom
  b_Ratio_bottom : Binds K a.d_Ratio_bottom ["self"] []
  p_Ratio_bottom : PropOf K a.C_Ratio "bottom" a.pa_Ratio_bottom a.f_Ratio_bottom
  F_Ratio_add : Fun K "__add__" "Ratio.__add__" s_Ratio_add a.f_Ratio_add a.d_Ratio_add
  b_Ratio_add : Binds K a.d_Ratio_add ["self", "other"] []
  op_Ratio_add : Wk.OwnOp K a.C_Ratio a.f_Ratio_add .Add
  F_Ratio_sub : Fun K "__sub__" "Ratio.__sub__" s_Ratio_sub a.f_Ratio_sub a.d_Ratio_sub
  b_Ratio_sub : Binds K a.d_Ratio_sub ["self", "other"] []
  op_Ratio_sub : Wk.OwnOp K a.C_Ratio a.f_Ratio_sub .Sub
  F_Ratio_mul : Fun K "__mul__" "Ratio.__mul__" s_Ratio_mul a.f_Ratio_mul a.d_Ratio_mul
  b_Ratio_mul : Binds K a.d_Ratio_mul ["self", "other"] []
  op_Ratio_mul : Wk.OwnOp K a.C_Ratio a.f_Ratio_mul .Mult
  F_Ratio_eq : Fun K "__eq__" "Ratio.__eq__" s_Ratio_eq a.f_Ratio_eq a.d_Ratio_eq
  b_Ratio_eq : Binds K a.d_Ratio_eq ["self", "other"] []
  m_Ratio_eq : Meth K a.C_Ratio "__eq__" a.f_Ratio_eq
  F_Ratio_over : Fun K "over" "Ratio.over" s_Ratio_over a.f_Ratio_over a.d_Ratio_over
  b_Ratio_over : Binds K a.d_Ratio_over ["self", "number"] []
  m_Ratio_over : Meth K a.C_Ratio "over" a.f_Ratio_over
  F_Ratio_below : Fun K "below" "Ratio.below" s_Ratio_below a.f_Ratio_below a.d_Ratio_below
  b_Ratio_below : Binds K a.d_Ratio_below ["self", "number"] []
  m_Ratio_below : Meth K a.C_Ratio "below" a.f_Ratio_below
  F_Ratio_written : Fun K "written" "Ratio.written" s_Ratio_written a.f_Ratio_written a.d_Ratio_written
  b_Ratio_written : Binds K a.d_Ratio_written ["self"] []
  m_Ratio_written : Meth K a.C_Ratio "written" a.f_Ratio_written
  tC : PySem.W.findIn K (.ref a.C_Ratio) "__class__" = some (some (.builtin "object.__class__"))
  tG : PySem.W.specialIn K (.builtin "object.__class__") "__get__" = some (some (.builtin "getset_descriptor.__get__"))
  tT : PySem.W.takesIn K (.builtin "object.__class__") = some true
  tM : PySem.W.mroIn K a.C_Ratio (.type "object") = some true
  ki_int : PySem.W.kitOne K (.type "int") (.ref a.C_Ratio) = some false
  ki_bool : PySem.W.kitOne K (.type "bool") (.ref a.C_Ratio) = some false
  ki_none : PySem.W.kitOne K (.type "NoneType") (.ref a.C_Ratio) = some false
  ki_str : PySem.W.kitOne K (.type "str") (.ref a.C_Ratio) = some false
  ki_tuple : PySem.W.kitOne K (.type "tuple") (.ref a.C_Ratio) = some false
  ki_list : PySem.W.kitOne K (.type "list") (.ref a.C_Ratio) = some false
  ki_dict : PySem.W.kitOne K (.type "dict") (.ref a.C_Ratio) = some false
  kr_int : PySem.W.kitOne K (.ref a.C_Ratio) (.type "int") = some false
  kr_ratio : PySem.W.kitOne K (.ref a.C_Ratio) (.ref a.C_Ratio) = some true
  nf_int : PySem.W.notFirst K a.C_Ratio (.type "int") = true
  nf_bool : PySem.W.notFirst K a.C_Ratio (.type "bool") = true
  nf_none : PySem.W.notFirst K a.C_Ratio (.type "NoneType") = true
  nf_str : PySem.W.notFirst K a.C_Ratio (.type "str") = true
  nf_tuple : PySem.W.notFirst K a.C_Ratio (.type "tuple") = true
  nf_list : PySem.W.notFirst K a.C_Ratio (.type "list") = true
  nf_dict : PySem.W.notFirst K a.C_Ratio (.type "dict") = true
  nf_ratio : PySem.W.notFirst K a.C_Ratio (.ref a.C_Ratio) = true
  h_common_divisor : Wk.FnT K mg "common_divisor" s_common_divisor a.f_common_divisor a.d_common_divisor
  b_common_divisor : Binds K a.d_common_divisor ["one", "other"] []
  h_is_integer : Wk.FnT K mg "is_integer" s_is_integer a.f_is_integer a.d_is_integer
  b_is_integer : Binds K a.d_is_integer ["value"] []
  h_is_number : Wk.FnT K mg "is_number" s_is_number a.f_is_number a.d_is_number
  b_is_number : Binds K a.d_is_number ["value"] []
  h_as_ratio : Wk.FnT K mg "as_ratio" s_as_ratio a.f_as_ratio a.d_as_ratio
  b_as_ratio : Binds K a.d_as_ratio ["number"] []
  h_l_cell : Wk.FnT K mg "_law_cell" s_l_cell a.f_l_cell a.d_l_cell
  b_l_cell : Binds K a.d_l_cell ["_law_script", "_law_k"] []
  h_l_box : Wk.FnT K mg "_law_box" s_l_box a.f_l_box a.d_l_box
  b_l_box : Binds K a.d_l_box ["_law_cell_here"] []
  h_l_take : Wk.FnT K mg "_law_take" s_l_take a.f_l_take a.d_l_take
  b_l_take : Binds K a.d_l_take ["_law_box_here", "_law_many"] []
  h_l_low : Wk.FnT K mg "_law_low" s_l_low a.f_l_low a.d_l_low
  b_l_low : Binds K a.d_l_low ["_law_high", "_law_low_here"] []
  h_l_number : Wk.FnT K mg "_law_number" s_l_number a.f_l_number a.d_l_number
  b_l_number : Binds K a.d_l_number ["_law_box_here"] []
  h_l_pair : Wk.FnT K mg "_law_pair" s_l_pair a.f_l_pair a.d_l_pair
  b_l_pair : Binds K a.d_l_pair ["_law_box_here"] []
  h_l_told : Wk.FnT K mg "_law_told" s_l_told a.f_l_told a.d_l_told
  b_l_told : Binds K a.d_l_told ["_law_ratio"] []
  h_l_text : Wk.FnT K mg "_law_text" s_l_text a.f_l_text a.d_l_text
  b_l_text : Binds K a.d_l_text ["_law_pair_here"] []
  h_l_over : Wk.FnT K mg "_law_over" s_l_over a.f_l_over a.d_l_over
  b_l_over : Binds K a.d_l_over ["_law_one", "_law_other"] []
  h_l_two_right : Wk.FnT K mg "_law_two_right" s_l_two_right a.f_l_two_right a.d_l_two_right
  b_l_two_right : Binds K a.d_l_two_right ["_law_first", "_law_second", "_law_one", "_law_other"] []
  h_l_refused : Wk.FnT K mg "_law_refused" s_l_refused a.f_l_refused a.d_l_refused
  b_l_refused : Binds K a.d_l_refused ["_law_high"] []
  h_law : Wk.FnT K mg "law" s_law a.f_law a.d_law
  z_abs : mg "abs" = none
  z_bool : mg "bool" = none
  z_int : mg "int" = none
  z_isinstance : mg "isinstance" = none
  z_len : mg "len" = none
  z_max : mg "max" = none
  z_min : mg "min" = none
  z_range : mg "range" = none
  z_repr : mg "repr" = none
  z_str : mg "str" = none
section
variable {P : Program} {w : World} {K : PySem.W.Frag} {mg : Str → Option Value} {base : Heap} {a : Ad}
/-! ### the package -/
def sp_div : Sp := fun vs H Q _ => ∃ x y : Int, vs = [.int x, .int y] ∧ Q (.int (Int.gcd x y : Int)) H
theorem abs_nat (x : Int) : (if x < 0 then -x else x) = ((x.natAbs : Nat) : Int) := by split <;> omega
theorem fmod_nat (x y : Nat) : Int.fmod (x : Int) (y : Int) = ((x % y : Nat) : Int) := by
  rw [Int.fmod_eq_emod_of_nonneg _ (by omega)]
  rfl
theorem ok_div (T : Txt K mg a) : FnOk P w K mg base CX0 1 a.f_common_divisor a.d_common_divisor ["one", "other"] sp_div := by
  refine T.h_common_divisor.F.ok sc_common_divisor (fun vs H Q E h => ?_) (fun cdv A outer s H vs Q E hr h => ?_)
  · obtain ⟨x, y, rfl, _⟩ := h
    rfl
  · obtain ⟨x, y, rfl, k⟩ := h
    refine ⟨_, (pss_cons (ps_par (i := 0) (j := 1) (by rfl) sc_common_divisor.nd rfl rfl (by decide) rfl rfl (pa_cons (pe_callB call_abs (by rfl) T.z_abs (by decide +kernel) (pa_cons (pv 0) (pa_nil))) (pa_cons (pe_callB call_abs (by rfl) T.z_abs (by decide +kernel) (pa_cons (pv 1) (pa_nil))) (pa_nil))) (by rfl))
  (pss_cons (ps_while PassesOwn.never (pt_cmpR op_ne (pv 1) pe_int (nomark _)) (pss_one (ps_par (i := 0) (j := 1) (by rfl) sc_common_divisor.nd rfl rfl (by decide) rfl rfl (pa_cons (pv 1) (pa_cons (pe_op op_modN (pv 0) (pv 1)) (pa_nil))) (by rfl))))
  (pss_one (ps_ret (pv 0))))), ?_⟩
    walk_at "rd"
    rw [abs_nat, abs_nat]
    refine ⟨fun m σ H' => ∃ u v : Nat, σ = [some (.int (u : Int)), some (.int (v : Int))] ∧ Nat.gcd u v = Int.gcd x y ∧ v = m ∧ H' = H, ⟨_, _, _, rfl, rfl, rfl, rfl⟩, ?_⟩
    rintro m σ H' ⟨u, v, rfl, hg, rfl, rfl⟩
    walk_at "rd"
    refine ite2 (fun h => ?_) (fun h => ?_)
    · have hv : 0 < v := by omega
      refine ⟨_, fun _ _ q => q, fun q => h q, ?_⟩
      rw [fmod_nat]
      refine ⟨_, Nat.mod_lt u hv, v, u % v, rfl, ?_, rfl, rfl⟩
      rw [Nat.gcd_comm, ← Nat.gcd_rec, Nat.gcd_comm]
      exact hg
    · have hv : v = 0 := by omega
      subst hv
      rw [← hg, Nat.gcd_zero_right] at k
      exact k
def sp_byzero (C : Addr) : Sp := fun vs H Q _ => ∃ e : Addr, vs = [.ref e] ∧ H e = some (exo e C none) ∧ Q .non H
theorem ok_ByZero_init (T : Txt K mg a) : FnOk P w K mg base CX0 1 a.f_ByZero_init a.d_ByZero_init ["self"] (sp_byzero a.C_ByZero) := by
  refine T.F_ByZero_init.ok sc_ByZero_init (fun vs H Q E h => ?_) (fun cdv A outer s H vs Q E hr h => ?_)
  · obtain ⟨z, rfl, _⟩ := h
    rfl
  · obtain ⟨e, rfl, he, k⟩ := h
    refine ⟨_, (pss_one (ps_expr (Wk.pe_kinit T.kb (pa_cons (pv 0) (pa_cons pe_str (pa_nil)))))), ?_⟩
    exact ⟨_, rfl, e, a.C_ByZero, _, rfl, (by show 1 ≤ 1000; decide), T.e_ByZero.o, he, k⟩
/-- the fields of a Ratio -/
def rf (x y : Int) : List (Str × V) := [("numer", .int x), ("denom", .int y)]
theorem put_rf (x y : Int) : putF "denom" (.int y) (putF "numer" (.int x) []) = rf x y := by
  show (if ("numer" : Str) = "denom" then [(("numer" : Str), V.int y)] else (("numer" : Str), V.int x) :: putF "denom" (V.int y) []) = rf x y
  rw [if_neg (by decide +kernel)]
  rfl
theorem rf_numer (x y : Int) : (rf x y).lookup ("numer" : Str) = some (V.int x) := by
  rw [← put_rf, lookup_putF, if_neg (by decide +kernel), lookup_putF, if_pos rfl]
theorem rf_denom (x y : Int) : (rf x y).lookup ("denom" : Str) = some (V.int y) := by
  rw [← put_rf, lookup_putF, if_pos rfl]
theorem rf_no (x y : Int) {m : Str} (h1 : ¬ m = "denom") (h2 : ¬ m = "numer") : (rf x y).lookup m = none := by
  rw [← put_rf, lookup_putF, if_neg h1, lookup_putF, if_neg h2]
  rfl
theorem upd_upd {H : Hp} {p : Addr} {o o' : HO} : upd (upd H p o) p o' = upd H p o' := by
  funext b
  by_cases h : b = p
  · rw [h, upd_same, upd_same]
  · rw [upd_ne h, upd_ne h, upd_ne h]
def RatAt (C : Addr) (H : Hp) (p : Addr) (z : Int × Int) : Prop := ∃ dx, H p = some (.ins C dx (rf z.1 z.2))
/-- C(top, bottom): the fields are the lowest terms; or ByZero -/
def sp_init (C CZ : Addr) : Sp := fun vs H Q E => ∃ (p dx : Addr) (t b : Int), vs = [.ref p, .int t, .int b] ∧ H p = some (.ins C dx []) ∧ t.natAbs < 2 ^ 400 ∧ b.natAbs < 2 ^ 400 ∧
  (b ≠ 0 → Q .non (upd H p (.ins C dx (rf (low t b).1 (low t b).2)))) ∧ (b = 0 → ∀ H', Same H H' → E (.ref CZ) none H')
theorem ok_init (T : Txt K mg a) : FnOk P w K mg base (L2.CX P w) 3 a.f_Ratio_init a.d_Ratio_init ["self", "top", "bottom"] (sp_init a.C_Ratio a.C_ByZero) := by
  have O_common_divisor : FnOk P w K mg base CX0 _ _ _ _ _ := ok_div T
  have O_ByZero_init : FnOk P w K mg base CX0 _ _ _ _ _ := ok_ByZero_init T
  refine T.F_Ratio_init.ok (k := 2) sc_Ratio_init (fun vs H Q E h => ?_) (fun cdv A outer s H vs Q E hr h => ?_)
  · obtain ⟨p, dx, t, b, rfl, _⟩ := h
    rfl
  · obtain ⟨p, dx, t, b, rfl, hp, ht, hb, k1, k2⟩ := h
    refine ⟨_, (pss_cons (ps_if (pt_cmpR op_eq (pv 2) pe_int (nomark _)) (pss_one (ps_raise rfl (takes_of rfl rfl rfl rfl) (Wk.pmk_oex0 T.e_ByZero.o T.e_ByZero.iC T.e_ByZero.tI O_ByZero_init (hr.mono (by decide)) T.b_ByZero_init pass0 rfl T.e_ByZero.g))) pss_nil)
  (pss_cons (ps_set (i := 3) sc_Ratio_init.nd rfl (.inl rfl) (pe_call O_common_divisor (hr.mono (by decide)) rfl T.h_common_divisor.g T.h_common_divisor.F.kp T.b_common_divisor .nil pass0 (pa_cons (pv 1) (pa_cons (pv 2) (pa_nil)))))
  (pss_cons (ps_set (i := 4) sc_Ratio_init.nd rfl (.inl rfl) (pe_ifExp (pt_cmpR op_lt (pv 2) pe_int (nomark _)) (pe_un un_neg pe_int) pe_int))
  (pss_cons (ps_fld (pv 0) (pe_op op_fdivW (pe_op op_mulW (pv 4) (pv 1)) (pv 3)) rfl)
  (pss_one (ps_fld (pv 0) (pe_op op_fdivW (pe_op op_mulW (pv 4) (pv 2)) (pv 3)) rfl)))))), ?_⟩
    walk_at "rd"
    refine ite2 (fun hb0 => fun e he => ⟨e, rfl, upd_same, rfl, upd_same, k2 hb0 _ fun q o eq => ?_⟩) (fun hb0 => ?_)
    · have n : q ≠ e := ne_of_none eq he
      rw [del_ne n, upd_ne n]
      exact eq
    · refine ⟨t, b, rfl, ?_⟩
      have g0 := gcd_pos (h := t) hb0
      have g1 : (0 : Int) < (Int.gcd t b : Int) := by omega
      have gs : ((Int.gcd t b : Int)).natAbs < 2 ^ 400 := by
        rw [Int.natAbs_natCast]
        exact gcd_size hb0 hb
      have k1' := k1 hb0
      unfold low at k1'
      refine ite2 (fun hs => ?_) (fun hs => ?_)
      · rw [if_pos hs] at k1'
        walk_at "rd"
        refine ⟨wide_mul (a := 2) (b := 400) (by decide) ht (by decide) (by decide) (by decide), wide_div g1 gs (by decide) (by decide), _, _, _, hp, T.cl_Ratio, T.n_Ratio_numer, (by show 0 < 1000; decide),
          wide_mul (a := 2) (b := 400) (by decide) hb (by decide) (by decide) (by decide), wide_div g1 gs (by decide) (by decide), _, _, _, rfl, T.cl_Ratio, T.n_Ratio_denom, (by show 1 < 1000; decide), ?_⟩
        rw [upd_upd, put_rf]
        exact k1'
      · rw [if_neg hs] at k1'
        walk_at "rd"
        refine ⟨wide_mul (a := 2) (b := 400) (by decide) ht (by decide) (by decide) (by decide), wide_div g1 gs (by decide) (by decide), _, _, _, hp, T.cl_Ratio, T.n_Ratio_numer, (by show 0 < 1000; decide),
          wide_mul (a := 2) (b := 400) (by decide) hb (by decide) (by decide) (by decide), wide_div g1 gs (by decide) (by decide), _, _, _, rfl, T.cl_Ratio, T.n_Ratio_denom, (by show 1 < 1000; decide), ?_⟩
        rw [upd_upd, put_rf]
        exact k1'
theorem RatAt.same {C p : Addr} {H H' : Hp} {z : Int × Int} (h : RatAt C H p z) (e : Same H H') : RatAt C H' p z := by
  obtain ⟨dx, h⟩ := h
  exact ⟨dx, e _ _ h⟩
theorem ok_top (T : Txt K mg a) : FnOk P w K mg base CX0 1 a.f_Ratio_top a.d_Ratio_top ["self"] (getSp a.C_Ratio "numer") := by
  refine T.F_Ratio_top.ok sc_Ratio_top (fun vs H Q E h => ?_) (fun cdv A outer s H vs Q E hr h => ?_)
  · obtain ⟨p, dx, fs, v, rfl, _⟩ := h
    rfl
  · obtain ⟨p, dx, fs, v, rfl, hp, hl, k⟩ := h
    refine ⟨_, (pss_one (ps_ret (pe_fld (pv 0) rfl))), ?_⟩
    exact ⟨_, rfl, p, a.C_Ratio, dx, fs, v, rfl, hp, T.cl_Ratio, T.n_Ratio_numer, hl, k⟩
theorem ok_bottom (T : Txt K mg a) : FnOk P w K mg base CX0 1 a.f_Ratio_bottom a.d_Ratio_bottom ["self"] (getSp a.C_Ratio "denom") := by
  refine T.F_Ratio_bottom.ok sc_Ratio_bottom (fun vs H Q E h => ?_) (fun cdv A outer s H vs Q E hr h => ?_)
  · obtain ⟨p, dx, fs, v, rfl, _⟩ := h
    rfl
  · obtain ⟨p, dx, fs, v, rfl, hp, hl, k⟩ := h
    refine ⟨_, (pss_one (ps_ret (pe_fld (pv 0) rfl))), ?_⟩
    exact ⟨_, rfl, p, a.C_Ratio, dx, fs, v, rfl, hp, T.cl_Ratio, T.n_Ratio_denom, hl, k⟩
/-- a quotient or an int, as a value -/
def Num (C : Addr) (H : Hp) (v : V) (z : Int × Int) : Prop := (∃ p, v = .ref p ∧ RatAt C H p z) ∨ (∃ w : Int, v = .int w ∧ z = (w, 1))
theorem Num.same {C : Addr} {H H' : Hp} {v : V} {z : Int × Int} (h : Num C H v z) (e : Same H H') : Num C H' v z := by
  rcases h with ⟨p, h1, h2⟩ | h
  · exact .inl ⟨p, h1, h2.same e⟩
  · exact .inr h
/-- no number: its type is told -/
def NotNum (K : PySem.W.Frag) (C : Addr) (H : Hp) (v : V) : Prop := ∃ (t : Value) (b : Bool), TyX K H v t ∧ PySem.W.kitOne K t (.type "int") = some b ∧ (b = true → PySem.W.kitOne K t (.type "bool") = some true) ∧
  PySem.W.kitOne K t (.ref C) = some false
def SmallZ (z : Int × Int) : Prop := z.1.natAbs < 2 ^ 100 ∧ z.2.natAbs < 2 ^ 100 ∧ 0 < z.2
theorem ty_rat {K : PySem.W.Frag} {mg : Str → Option Value} {a : Ad} (T : Txt K mg a) {H : Hp} {p : Addr} {z : Int × Int} (h : RatAt a.C_Ratio H p z) : TyX K H (.ref p) (.ref a.C_Ratio) := by
  obtain ⟨dx, h⟩ := h
  exact .base (.ins h T.cl_Ratio T.tC T.tG T.tT T.tM)
def sp_is_integer (K : PySem.W.Frag) (C : Addr) : Sp := fun vs H Q _ => ∃ v, vs = [v] ∧ ((∃ w, v = .int w ∧ Q (.bl true) H) ∨ (∃ p z, v = .ref p ∧ RatAt C H p z ∧ Q (.bl false) H) ∨ (NotNum K C H v ∧ Q (.bl false) H))
theorem ok_is_integer (T : Txt K mg a) : FnOk P w K mg base CX0 1 a.f_is_integer a.d_is_integer ["value"] (sp_is_integer K a.C_Ratio) := by
  refine T.h_is_integer.F.ok sc_is_integer (fun vs H Q E h => ?_) (fun cdv A outer s H vs Q E hr h => ?_)
  · obtain ⟨v, rfl, _⟩ := h
    rfl
  · obtain ⟨v, rfl, h⟩ := h
    refine ⟨_, (pss_one (ps_ret (pe_and (pe_callB call_isi (by rfl) T.z_isinstance (by decide +kernel) (pa_cons (pv 0) (pa_cons (pe_bltn (by rfl) T.z_int (by decide +kernel) (show RelV (.ty "int") _ from rfl)) pa_nil))) (pe_one (pe_not (pe_callB call_isi (by rfl) T.z_isinstance (by decide +kernel) (pa_cons (pv 0) (pa_cons (pe_bltn (by rfl) T.z_bool (by decide +kernel) (show RelV (.ty "bool") _ from rfl)) pa_nil)))))))), ?_⟩
    walk_at "rd"
    rcases h with ⟨w, rfl, k⟩ | ⟨p, z, rfl, hp, k⟩ | ⟨⟨t, b, h1, h2, h3, h4⟩, k⟩
    · refine ⟨_, _, _, _, true, rfl, .ty _, .base (.int _), kit_ty (by decide +kernel), _, rfl, iteT ?_⟩
      refine ⟨_, _, _, _, false, rfl, .ty _, .base (.int _), kit_ty (by decide +kernel), _, rfl, k⟩
    · exact ⟨_, _, _, _, false, rfl, .ty _, ty_rat T hp, T.kr_int, _, rfl, iteF k⟩
    · refine ⟨_, _, _, _, b, rfl, .ty _, h1, h2, _, rfl, ?_⟩
      cases b with
      | true =>
        refine iteT ?_
        exact ⟨_, _, _, _, true, rfl, .ty _, h1, h3 rfl, _, rfl, k⟩
      | false => exact iteF k
def sp_is_number (K : PySem.W.Frag) (C : Addr) : Sp := fun vs H Q _ => ∃ v, vs = [v] ∧ ((∃ z, Num C H v z ∧ Q (.bl true) H) ∨ (NotNum K C H v ∧ Q (.bl false) H))
theorem ok_is_number (T : Txt K mg a) : FnOk P w K mg base CX0 2 a.f_is_number a.d_is_number ["value"] (sp_is_number K a.C_Ratio) := by
  have O_is_integer : FnOk P w K mg base CX0 _ _ _ _ _ := ok_is_integer T
  refine T.h_is_number.F.ok sc_is_number (fun vs H Q E h => ?_) (fun cdv A outer s H vs Q E hr h => ?_)
  · obtain ⟨v, rfl, _⟩ := h
    rfl
  · obtain ⟨v, rfl, h⟩ := h
    refine ⟨_, (pss_one (ps_ret (pe_or (pe_call O_is_integer (hr.mono (by decide)) rfl T.h_is_integer.g T.h_is_integer.F.kp T.b_is_integer .nil pass0 (pa_cons (pv 0) (pa_nil))) (pe_one (pe_callB call_isi (by rfl) T.z_isinstance (by decide +kernel) (pa_cons (pv 0) (pa_cons (Wk.pe_gref T.g_Ratio) pa_nil))))))), ?_⟩
    walk_at "rd"
    rcases h with ⟨z, ⟨p, rfl, hp⟩ | ⟨w, rfl, rfl⟩, k⟩ | ⟨nn, k⟩
    · refine ⟨_, rfl, .inr (.inl ⟨p, z, rfl, hp, _, rfl, iteF ?_⟩)⟩
      exact ⟨_, _, _, _, true, rfl, .own _, ty_rat T hp, T.kr_ratio, k⟩
    · exact ⟨_, rfl, .inl ⟨w, rfl, _, rfl, iteT k⟩⟩
    · refine ⟨_, rfl, .inr (.inr ⟨nn, _, rfl, iteF ?_⟩)⟩
      obtain ⟨t, b, h1, h2, h3, h4⟩ := nn
      exact ⟨_, _, _, _, false, rfl, .own _, h1, h4, k⟩
/-- how a Ratio is made -/
structure Binds2 (K : PySem.W.Frag) (a : Ad) : Prop where
  b1 : ∃ ds, Vals [V.int 1] ds ∧ Binds K a.d_Ratio_init ["self", "top", "bottom"] ds
  b2 : ∃ ds, Vals ([] : List V) ds ∧ Binds K a.d_Ratio_init ["self", "top", "bottom"] ds
  bk : KBn K a.d_Ratio_init ["self", "top", "bottom"] 1 ["bottom", "top"] (fun us ws => us ++ ws.reverse) (fun vs zs => vs ++ zs.reverse)
theorem vals_rev {xs : List V} {us : List Value} (h : Vals xs us) : Vals xs.reverse us.reverse := by
  induction h with
  | nil => exact .nil
  | cons r _ ih =>
    rw [List.reverse_cons, List.reverse_cons]
    exact Vals.append ih (.cons r .nil)
theorem binds2 (T : Txt K mg a) : Binds2 K a := by
  refine ⟨?_, ?_, ?_⟩
  · exact T.F_Ratio_init.binds1 (ps := ["self", "top", "bottom"]) 2 0 (by simp) rfl fun T0 kV doc pm an cdv ct us its h1 h2 => match us, its, h1, h2 with
      | [_, _], [_], _, _ => ⟨_, rfl, rfl⟩
  · obtain ⟨ds, h1, h2⟩ := T.F_Ratio_init.binds1 (ps := ["self", "top", "bottom"]) 3 1 (by simp) rfl fun T0 kV doc pm an cdv ct us its h1 h2 => match us, its, h1, h2 with
      | [_, _, _], [_], _, _ => ⟨_, rfl, rfl⟩
    exact ⟨ds, h1, h2⟩
  · obtain ⟨_, h⟩ := T.F_Ratio_init.kbindsD (ps := ["self", "top", "bottom"]) 1 ["bottom", "top"] (fun us _ ws => us ++ ws.reverse) (by simp) (fun h1 _ h3 => Vals.append h1 (vals_rev h3)) fun T0 kV doc pm an cdv ct us its ws h1 h2 h3 => match us, its, ws, h1, h2, h3 with
      | [_], [_], [_, _], _, _, _ => ⟨_, rfl, rfl⟩
    exact h
/-- the same value, or a new Ratio -/
def sp_as_ratio (C : Addr) : Sp := fun vs H Q _ => ∃ (v : V) (z : Int × Int), vs = [v] ∧ Num C H v z ∧ SmallZ z ∧ ∀ p H', Same H H' → RatAt C H' p z → Q (.ref p) H'
theorem rat_new {C x dx : Addr} {H : Hp} {z : Int × Int} (h1 : H x = none) (h2 : H dx = none) (h3 : dx ≠ x) :
    Same H (upd (upd (upd H dx (.own x)) x (.ins C dx [])) x (.ins C dx (rf z.1 z.2))) ∧ RatAt C (upd (upd (upd H dx (.own x)) x (.ins C dx [])) x (.ins C dx (rf z.1 z.2))) x z :=
  ⟨Same.mut (Same.mut (Same.new h2) h1) h1, dx, upd_same⟩
theorem pow_le {x n m : Nat} (h : x < 2 ^ n) (e : n ≤ m) : x < 2 ^ m := Nat.lt_of_lt_of_le h (Nat.pow_le_pow_right (by decide) e)
theorem ok_as_ratio (T : Txt K mg a) : FnOk P w K mg base CX0 6 a.f_as_ratio a.d_as_ratio ["number"] (sp_as_ratio a.C_Ratio) := by
  have O_Ratio_init : FnOk P w K mg base (L2.CX P w) _ _ _ _ _ := ok_init T
  obtain ⟨ds1, v1_Ratio, b1_Ratio⟩ := (binds2 T).b1
  refine T.h_as_ratio.F.ok sc_as_ratio (fun vs H Q E h => ?_) (fun cdv A outer s H vs Q E hr h => ?_)
  · obtain ⟨v, z, rfl, _⟩ := h
    rfl
  · obtain ⟨v, z, rfl, hn, hz, k⟩ := h
    refine ⟨_, (pss_one (ps_ret (pe_ifExp (pt_val (pe_callB call_isi (by rfl) T.z_isinstance (by decide +kernel) (pa_cons (pv 0) (pa_cons (Wk.pe_gref T.g_Ratio) pa_nil)))) (pv 0) (pe_make T.mk_Ratio O_Ratio_init (hr.mono (by decide)) rfl T.g_Ratio b1_Ratio v1_Ratio passL (pa_cons (pv 0) (pa_nil)))))), ?_⟩
    walk_at "rd"
    rcases hn with ⟨p, rfl, hp⟩ | ⟨w, rfl, rfl⟩
    · refine ⟨_, _, _, _, true, rfl, .own _, ty_rat T hp, T.kr_ratio, _, rfl, iteT (k p H (Same.refl H) hp)⟩
    · refine ⟨_, _, _, _, false, rfl, .own _, .base (.int _), T.ki_int, _, rfl, iteF ?_⟩
      intro x dx hx hdx hne
      refine ⟨x, dx, w, 1, rfl, upd_same, pow_le hz.1 (by decide), by decide, fun _ => ⟨rfl, ?_⟩, fun q => absurd q (by decide)⟩
      rw [low_one]
      obtain ⟨h1, h2⟩ := rat_new (C := a.C_Ratio) (z := (w, 1)) hx hdx hne
      exact k x _ h1 h2
theorem init_mk {C CZ x dx : Addr} {H : Hp} {Q : VK} {E : XK} {t b : Int} (hx : H x = none) (hdx : H dx = none) (hne : dx ≠ x) (ht : t.natAbs < 2 ^ 400) (hb : b.natAbs < 2 ^ 400) (h0 : b ≠ 0)
    (k : ∀ H', Same H H' → RatAt C H' x (low t b) → Q (.ref x) H') : sp_init C CZ [.ref x, .int t, .int b] (upd (upd H dx (.own x)) x (.ins C dx [])) (fun v H2 => v = .non ∧ Q (.ref x) H2) E := by
  obtain ⟨h1, h2⟩ := rat_new (C := C) (z := low t b) hx hdx hne
  exact ⟨x, dx, t, b, rfl, upd_same, ht, hb, fun _ => ⟨rfl, k _ h1 h2⟩, fun q => absurd q h0⟩
theorem mulW {x y : Int} (h1 : x.natAbs < 2 ^ 100) (h2 : y.natAbs < 2 ^ 100) : CMulW x y := wide_mul h1 h2 (by decide) (by decide) (by decide)
theorem mul4 {x y : Int} (h1 : x.natAbs < 2 ^ 100) (h2 : y.natAbs < 2 ^ 100) : (x * y).natAbs < 2 ^ 400 := pow_le (mul_size h1 h2) (by decide)
theorem add4 {x y u v : Int} (h1 : x.natAbs < 2 ^ 100) (h2 : y.natAbs < 2 ^ 100) (h3 : u.natAbs < 2 ^ 100) (h4 : v.natAbs < 2 ^ 100) : (x * y + u * v).natAbs < 2 ^ 400 := pow_le (add_size (mul_size h1 h2) (mul_size h3 h4)) (by decide)
theorem sub4 {x y u v : Int} (h1 : x.natAbs < 2 ^ 100) (h2 : y.natAbs < 2 ^ 100) (h3 : u.natAbs < 2 ^ 100) (h4 : v.natAbs < 2 ^ 100) : (x * y - u * v).natAbs < 2 ^ 400 := pow_le (sub_size (mul_size h1 h2) (mul_size h3 h4)) (by decide)
theorem pos_ne {x y : Int} (h1 : 0 < x) (h2 : 0 < y) : x * y ≠ 0 := Int.mul_ne_zero (by omega) (by omega)
/-- what an operation of two quotients promises: a new Ratio with the terms g -/
def sp_op (C : Addr) (g : Int × Int → Int × Int → Int × Int) : Sp := fun vs H Q _ => ∃ (p : Addr) (v : V) (z y : Int × Int), vs = [.ref p, v] ∧ RatAt C H p z ∧ Num C H v y ∧ SmallZ z ∧ SmallZ y ∧
  ∀ q H', Same H H' → RatAt C H' q (g z y) → Q (.ref q) H'
abbrev gAdd (z y : Int × Int) : Int × Int := low (z.1 * y.2 + y.1 * z.2) (z.2 * y.2)
abbrev gSub2 (z y : Int × Int) : Int × Int := low (z.1 * y.2 - y.1 * z.2) (z.2 * y.2)
abbrev gMul (z y : Int × Int) : Int × Int := low (z.1 * y.1) (z.2 * y.2)
theorem ok_add (T : Txt K mg a) : FnOk P w K mg base CX0 8 a.f_Ratio_add a.d_Ratio_add ["self", "other"] (sp_op a.C_Ratio gAdd) := by
  have O_Ratio_init : FnOk P w K mg base (L2.CX P w) _ _ _ _ _ := ok_init T
  have O_as_ratio : FnOk P w K mg base CX0 _ _ _ _ _ := ok_as_ratio T
  obtain ⟨ds2, v2_Ratio, b2_Ratio⟩ := (binds2 T).b2
  refine T.F_Ratio_add.ok sc_Ratio_add (fun vs H Q E h => ?_) (fun cdv A outer s H vs Q E hr h => ?_)
  · obtain ⟨p, v, z, y, rfl, _⟩ := h
    rfl
  · obtain ⟨p, v, z, y, rfl, hp, hv, hz, hy, k⟩ := h
    refine ⟨_, (pss_cons (ps_set (i := 2) sc_Ratio_add.nd rfl (.inl rfl) (pe_call O_as_ratio (hr.mono (by decide)) rfl T.h_as_ratio.g T.h_as_ratio.F.kp T.b_as_ratio .nil pass0 (pa_cons (pv 1) (pa_nil))))
  (pss_one (ps_ret (pe_make T.mk_Ratio O_Ratio_init (hr.mono (by decide)) rfl T.g_Ratio b2_Ratio v2_Ratio passL (pa_cons (pe_op op_add (pe_op op_mulW (pe_fld (pv 0) rfl) (pe_fld (pv 2) rfl)) (pe_op op_mulW (pe_fld (pv 2) rfl) (pe_fld (pv 0) rfl))) (pa_cons (pe_op op_mulW (pe_fld (pv 0) rfl) (pe_fld (pv 2) rfl)) (pa_nil))))))), ?_⟩
    walk_at "rd"
    refine ⟨v, y, rfl, hv, hy, fun q H1 s1 hq => ?_⟩
    obtain ⟨dp, ep⟩ := hp.same s1
    obtain ⟨dq, eq⟩ := hq
    simp only [ep, eq, HO.ins.injEq, rf_numer, rf_denom, T.cl_Ratio, T.n_Ratio_numer, T.n_Ratio_denom, tSeq, tAsg, gName, tC, tVar, tOp, tUn, tTest, tB, tAnd, tOr, tNot, tIf, tIfS, tRet, tDrop, tNext, tCB, tCons, tNil, tSl, tPart, tNoPart, tAug, ipI, rI0, rI, rU, tLst, tTup, tBM, rAppend, tCall, tPar, tPar3, gTup, gCons, gNil, tMkO, tMkO0, tCallS, WE, wAs, wOnly, tXf, tMake, tMakeK, tMeth, tProp, rOwn, rOwnEq, tFld, sFld, tFmt, tJs, rIxS, rIxLT, rIxTT, rLenLT, rLenTT, gSub, rSetL, Wk.ixN_0, Wk.ixN_1, Wk.ixN_2, Wk.cxK, Wk.cxKn, Wk.atI_lits, upd_same, HO.lst.injEq, HO.tup.injEq, rSlS, rEq, rNe, scal, tChain, tYes, tAndV, tOrV, tNotV, tM1, L2.start,
  List.map_nil, List.map_cons, List.replicate, List.length_cons, List.length_nil, List.cons_append, List.nil_append, List.getElem?_cons_zero, List.getElem?_cons_succ, List.set_cons_zero, List.set_cons_succ, Option.some.injEq, V.int.injEq, V.str.injEq, V.ref.injEq, V.bl.injEq, List.cons.injEq, and_true, true_and, and_assoc, exists_eq_left', exists_eq_left, exists_and_left, Wk.one_inj, Wk.atI_eq, Bool.false_eq_true, if_false, if_true, Bool.not_false, Bool.not_true, Bool.not_eq_true', decide_eq_false_iff_not, decide_eq_true_eq]
    exact ⟨mulW hz.1 hy.2.1, mulW hy.1 hz.2.1, mulW hz.2.1 hy.2.1, fun x dx hx hdx hne => init_mk hx hdx hne (add4 hz.1 hy.2.1 hy.1 hz.2.1) (mul4 hz.2.1 hy.2.1) (pos_ne hz.2.2 hy.2.2) fun H' s2 h2 => k x H' (s1.trans s2) h2⟩
theorem ok_sub (T : Txt K mg a) : FnOk P w K mg base CX0 8 a.f_Ratio_sub a.d_Ratio_sub ["self", "other"] (sp_op a.C_Ratio gSub2) := by
  have O_Ratio_init : FnOk P w K mg base (L2.CX P w) _ _ _ _ _ := ok_init T
  have O_as_ratio : FnOk P w K mg base CX0 _ _ _ _ _ := ok_as_ratio T
  obtain ⟨ds2, v2_Ratio, b2_Ratio⟩ := (binds2 T).b2
  refine T.F_Ratio_sub.ok sc_Ratio_sub (fun vs H Q E h => ?_) (fun cdv A outer s H vs Q E hr h => ?_)
  · obtain ⟨p, v, z, y, rfl, _⟩ := h
    rfl
  · obtain ⟨p, v, z, y, rfl, hp, hv, hz, hy, k⟩ := h
    refine ⟨_, (pss_cons (ps_set (i := 2) sc_Ratio_sub.nd rfl (.inl rfl) (pe_call O_as_ratio (hr.mono (by decide)) rfl T.h_as_ratio.g T.h_as_ratio.F.kp T.b_as_ratio .nil pass0 (pa_cons (pv 1) (pa_nil))))
  (pss_one (ps_ret (pe_make T.mk_Ratio O_Ratio_init (hr.mono (by decide)) rfl T.g_Ratio b2_Ratio v2_Ratio passL (pa_cons (pe_op op_sub (pe_op op_mulW (pe_fld (pv 0) rfl) (pe_fld (pv 2) rfl)) (pe_op op_mulW (pe_fld (pv 2) rfl) (pe_fld (pv 0) rfl))) (pa_cons (pe_op op_mulW (pe_fld (pv 0) rfl) (pe_fld (pv 2) rfl)) (pa_nil))))))), ?_⟩
    walk_at "rd"
    refine ⟨v, y, rfl, hv, hy, fun q H1 s1 hq => ?_⟩
    obtain ⟨dp, ep⟩ := hp.same s1
    obtain ⟨dq, eq⟩ := hq
    simp only [ep, eq, HO.ins.injEq, rf_numer, rf_denom, T.cl_Ratio, T.n_Ratio_numer, T.n_Ratio_denom, tSeq, tAsg, gName, tC, tVar, tOp, tUn, tTest, tB, tAnd, tOr, tNot, tIf, tIfS, tRet, tDrop, tNext, tCB, tCons, tNil, tSl, tPart, tNoPart, tAug, ipI, rI0, rI, rU, tLst, tTup, tBM, rAppend, tCall, tPar, tPar3, gTup, gCons, gNil, tMkO, tMkO0, tCallS, WE, wAs, wOnly, tXf, tMake, tMakeK, tMeth, tProp, rOwn, rOwnEq, tFld, sFld, tFmt, tJs, rIxS, rIxLT, rIxTT, rLenLT, rLenTT, gSub, rSetL, Wk.ixN_0, Wk.ixN_1, Wk.ixN_2, Wk.cxK, Wk.cxKn, Wk.atI_lits, upd_same, HO.lst.injEq, HO.tup.injEq, rSlS, rEq, rNe, scal, tChain, tYes, tAndV, tOrV, tNotV, tM1, L2.start,
  List.map_nil, List.map_cons, List.replicate, List.length_cons, List.length_nil, List.cons_append, List.nil_append, List.getElem?_cons_zero, List.getElem?_cons_succ, List.set_cons_zero, List.set_cons_succ, Option.some.injEq, V.int.injEq, V.str.injEq, V.ref.injEq, V.bl.injEq, List.cons.injEq, and_true, true_and, and_assoc, exists_eq_left', exists_eq_left, exists_and_left, Wk.one_inj, Wk.atI_eq, Bool.false_eq_true, if_false, if_true, Bool.not_false, Bool.not_true, Bool.not_eq_true', decide_eq_false_iff_not, decide_eq_true_eq]
    exact ⟨mulW hz.1 hy.2.1, mulW hy.1 hz.2.1, mulW hz.2.1 hy.2.1, fun x dx hx hdx hne => init_mk hx hdx hne (sub4 hz.1 hy.2.1 hy.1 hz.2.1) (mul4 hz.2.1 hy.2.1) (pos_ne hz.2.2 hy.2.2) fun H' s2 h2 => k x H' (s1.trans s2) h2⟩
theorem ok_mul (T : Txt K mg a) : FnOk P w K mg base CX0 8 a.f_Ratio_mul a.d_Ratio_mul ["self", "other"] (sp_op a.C_Ratio gMul) := by
  have O_Ratio_init : FnOk P w K mg base (L2.CX P w) _ _ _ _ _ := ok_init T
  have O_as_ratio : FnOk P w K mg base CX0 _ _ _ _ _ := ok_as_ratio T
  obtain ⟨ds2, v2_Ratio, b2_Ratio⟩ := (binds2 T).b2
  refine T.F_Ratio_mul.ok sc_Ratio_mul (fun vs H Q E h => ?_) (fun cdv A outer s H vs Q E hr h => ?_)
  · obtain ⟨p, v, z, y, rfl, _⟩ := h
    rfl
  · obtain ⟨p, v, z, y, rfl, hp, hv, hz, hy, k⟩ := h
    refine ⟨_, (pss_cons (ps_set (i := 2) sc_Ratio_mul.nd rfl (.inl rfl) (pe_call O_as_ratio (hr.mono (by decide)) rfl T.h_as_ratio.g T.h_as_ratio.F.kp T.b_as_ratio .nil pass0 (pa_cons (pv 1) (pa_nil))))
  (pss_one (ps_ret (pe_make T.mk_Ratio O_Ratio_init (hr.mono (by decide)) rfl T.g_Ratio b2_Ratio v2_Ratio passL (pa_cons (pe_op op_mulW (pe_fld (pv 0) rfl) (pe_fld (pv 2) rfl)) (pa_cons (pe_op op_mulW (pe_fld (pv 0) rfl) (pe_fld (pv 2) rfl)) (pa_nil))))))), ?_⟩
    walk_at "rd"
    refine ⟨v, y, rfl, hv, hy, fun q H1 s1 hq => ?_⟩
    obtain ⟨dp, ep⟩ := hp.same s1
    obtain ⟨dq, eq⟩ := hq
    simp only [ep, eq, HO.ins.injEq, rf_numer, rf_denom, T.cl_Ratio, T.n_Ratio_numer, T.n_Ratio_denom, tSeq, tAsg, gName, tC, tVar, tOp, tUn, tTest, tB, tAnd, tOr, tNot, tIf, tIfS, tRet, tDrop, tNext, tCB, tCons, tNil, tSl, tPart, tNoPart, tAug, ipI, rI0, rI, rU, tLst, tTup, tBM, rAppend, tCall, tPar, tPar3, gTup, gCons, gNil, tMkO, tMkO0, tCallS, WE, wAs, wOnly, tXf, tMake, tMakeK, tMeth, tProp, rOwn, rOwnEq, tFld, sFld, tFmt, tJs, rIxS, rIxLT, rIxTT, rLenLT, rLenTT, gSub, rSetL, Wk.ixN_0, Wk.ixN_1, Wk.ixN_2, Wk.cxK, Wk.cxKn, Wk.atI_lits, upd_same, HO.lst.injEq, HO.tup.injEq, rSlS, rEq, rNe, scal, tChain, tYes, tAndV, tOrV, tNotV, tM1, L2.start,
  List.map_nil, List.map_cons, List.replicate, List.length_cons, List.length_nil, List.cons_append, List.nil_append, List.getElem?_cons_zero, List.getElem?_cons_succ, List.set_cons_zero, List.set_cons_succ, Option.some.injEq, V.int.injEq, V.str.injEq, V.ref.injEq, V.bl.injEq, List.cons.injEq, and_true, true_and, and_assoc, exists_eq_left', exists_eq_left, exists_and_left, Wk.one_inj, Wk.atI_eq, Bool.false_eq_true, if_false, if_true, Bool.not_false, Bool.not_true, Bool.not_eq_true', decide_eq_false_iff_not, decide_eq_true_eq]
    exact ⟨mulW hz.1 hy.1, mulW hz.2.1 hy.2.1, fun x dx hx hdx hne => init_mk hx hdx hne (mul4 hz.1 hy.1) (mul4 hz.2.1 hy.2.1) (pos_ne hz.2.2 hy.2.2) fun H' s2 h2 => k x H' (s1.trans s2) h2⟩
/-- the quotient, or ByZero -/
def sp_over (C CZ : Addr) : Sp := fun vs H Q E => ∃ (p : Addr) (v : V) (z y : Int × Int), vs = [.ref p, v] ∧ RatAt C H p z ∧ Num C H v y ∧ SmallZ z ∧ SmallZ y ∧
  (y.1 ≠ 0 → ∀ q H', Same H H' → RatAt C H' q (low (z.1 * y.2) (z.2 * y.1)) → Q (.ref q) H') ∧ (y.1 = 0 → ∀ H', Same H H' → E (.ref CZ) none H')
theorem ok_over (T : Txt K mg a) : FnOk P w K mg base (L2.CX P w) 8 a.f_Ratio_over a.d_Ratio_over ["self", "number"] (sp_over a.C_Ratio a.C_ByZero) := by
  have O_Ratio_init : FnOk P w K mg base (L2.CX P w) _ _ _ _ _ := ok_init T
  have O_as_ratio : FnOk P w K mg base CX0 _ _ _ _ _ := ok_as_ratio T
  obtain ⟨ds2, v2_Ratio, b2_Ratio⟩ := (binds2 T).b2
  refine T.F_Ratio_over.okX sc_Ratio_over (fun vs H Q E h => ?_) (fun cdv A outer s H vs Q E hr h => ?_)
  · obtain ⟨p, v, z, y, rfl, _⟩ := h
    rfl
  · obtain ⟨p, v, z, y, rfl, hp, hv, hz, hy, k1, k2⟩ := h
    have tk := takes_of (X := cxOf (L2.CX P w) P w K mg base ["self", "number", "more"] "Ratio.over" (defScope s_Ratio_over) a.f_Ratio_over cdv A outer s H E) (E := E) rfl rfl rfl rfl
    refine ⟨_, (pss_cons (ps_set (i := 2) sc_Ratio_over.nd rfl (.inl rfl) (pe_call O_as_ratio (hr.mono (by decide)) rfl T.h_as_ratio.g T.h_as_ratio.F.kp T.b_as_ratio .nil pass0 (pa_cons (pv 1) (pa_nil))))
  (pss_one (ps_ret (pe_make T.mk_Ratio O_Ratio_init (hr.mono (by decide)) rfl T.g_Ratio b2_Ratio v2_Ratio (passes_call tk fun _ _ _ _ h => h) (pa_cons (pe_op op_mulW (pe_fld (pv 0) rfl) (pe_fld (pv 2) rfl)) (pa_cons (pe_op op_mulW (pe_fld (pv 0) rfl) (pe_fld (pv 2) rfl)) (pa_nil))))))), ?_⟩
    walk_at "rd"
    refine ⟨v, y, rfl, hv, hy, fun q H1 s1 hq => ?_⟩
    obtain ⟨dp, ep⟩ := hp.same s1
    obtain ⟨dq, eq⟩ := hq
    simp only [ep, eq, HO.ins.injEq, rf_numer, rf_denom, T.cl_Ratio, T.n_Ratio_numer, T.n_Ratio_denom, tSeq, tAsg, gName, tC, tVar, tOp, tUn, tTest, tB, tAnd, tOr, tNot, tIf, tIfS, tRet, tDrop, tNext, tCB, tCons, tNil, tSl, tPart, tNoPart, tAug, ipI, rI0, rI, rU, tLst, tTup, tBM, rAppend, tCall, tPar, tPar3, gTup, gCons, gNil, tMkO, tMkO0, tCallS, WE, wAs, wOnly, tXf, tMake, tMakeK, tMeth, tProp, rOwn, rOwnEq, tFld, sFld, tFmt, tJs, rIxS, rIxLT, rIxTT, rLenLT, rLenTT, gSub, rSetL, Wk.ixN_0, Wk.ixN_1, Wk.ixN_2, Wk.cxK, Wk.cxKn, Wk.atI_lits, upd_same, HO.lst.injEq, HO.tup.injEq, rSlS, rEq, rNe, scal, tChain, tYes, tAndV, tOrV, tNotV, tM1, L2.start,
  List.map_nil, List.map_cons, List.replicate, List.length_cons, List.length_nil, List.cons_append, List.nil_append, List.getElem?_cons_zero, List.getElem?_cons_succ, List.set_cons_zero, List.set_cons_succ, Option.some.injEq, V.int.injEq, V.str.injEq, V.ref.injEq, V.bl.injEq, List.cons.injEq, and_true, true_and, and_assoc, exists_eq_left', exists_eq_left, exists_and_left, Wk.one_inj, Wk.atI_eq, Bool.false_eq_true, if_false, if_true, Bool.not_false, Bool.not_true, Bool.not_eq_true', decide_eq_false_iff_not, decide_eq_true_eq]
    refine ⟨mulW hz.1 hy.2.1, mulW hz.2.1 hy.1, fun x dx hx hdx hne => ?_⟩
    by_cases h0 : y.1 = 0
    · refine ⟨x, dx, _, _, rfl, upd_same, mul4 hz.1 hy.2.1, mul4 hz.2.1 hy.1, fun q => absurd (by rw [h0, Int.mul_zero]) q, fun _ H' s2 => k2 h0 H' ?_⟩
      exact s1.trans ((Same.mut (Same.new hdx) hx).trans s2)
    · have nz : z.2 * y.1 ≠ 0 := Int.mul_ne_zero (by have := hz.2.2; omega) h0
      exact init_mk hx hdx hne (mul4 hz.1 hy.2.1) (mul4 hz.2.1 hy.1) nz fun H' s2 h2 => k1 h0 x H' (s1.trans s2) h2
def sp_below (C : Addr) : Sp := fun vs H Q E => ∃ (p : Addr) (v : V) (z y : Int × Int), vs = [.ref p, v] ∧ RatAt C H p z ∧ Num C H v y ∧ SmallZ z ∧ SmallZ y ∧
  ∀ H', Same H H' → Q (.bl (decide (z.1 * y.2 < y.1 * z.2))) H'
theorem ok_below (T : Txt K mg a) : FnOk P w K mg base CX0 8 a.f_Ratio_below a.d_Ratio_below ["self", "number"] (sp_below a.C_Ratio) := by
  have O_as_ratio : FnOk P w K mg base CX0 _ _ _ _ _ := ok_as_ratio T
  refine T.F_Ratio_below.ok sc_Ratio_below (fun vs H Q E h => ?_) (fun cdv A outer s H vs Q E hr h => ?_)
  · obtain ⟨p, v, z, y, rfl, _⟩ := h
    rfl
  · obtain ⟨p, v, z, y, rfl, hp, hv, hz, hy, k⟩ := h
    refine ⟨_, (pss_cons (ps_set (i := 2) sc_Ratio_below.nd rfl (.inl rfl) (pe_call O_as_ratio (hr.mono (by decide)) rfl T.h_as_ratio.g T.h_as_ratio.F.kp T.b_as_ratio .nil pass0 (pa_cons (pv 1) (pa_nil))))
  (pss_one (ps_ret (pe_cmpR op_lt (pe_op op_mulW (pe_fld (pv 0) rfl) (pe_fld (pv 2) rfl)) (pe_op op_mulW (pe_fld (pv 2) rfl) (pe_fld (pv 0) rfl)) (nomark _))))), ?_⟩
    walk_at "rd"
    refine ⟨v, y, rfl, hv, hy, fun q H1 s1 hq => ?_⟩
    obtain ⟨dp, ep⟩ := hp.same s1
    obtain ⟨dq, eq⟩ := hq
    simp only [ep, eq, HO.ins.injEq, rf_numer, rf_denom, T.cl_Ratio, T.n_Ratio_numer, T.n_Ratio_denom, tSeq, tAsg, gName, tC, tVar, tOp, tUn, tTest, tB, tAnd, tOr, tNot, tIf, tIfS, tRet, tDrop, tNext, tCB, tCons, tNil, tSl, tPart, tNoPart, tAug, ipI, rI0, rI, rU, tLst, tTup, tBM, rAppend, tCall, tPar, tPar3, gTup, gCons, gNil, tMkO, tMkO0, tCallS, WE, wAs, wOnly, tXf, tMake, tMakeK, tMeth, tProp, rOwn, rOwnEq, tFld, sFld, tFmt, tJs, rIxS, rIxLT, rIxTT, rLenLT, rLenTT, gSub, rSetL, Wk.ixN_0, Wk.ixN_1, Wk.ixN_2, Wk.cxK, Wk.cxKn, Wk.atI_lits, upd_same, HO.lst.injEq, HO.tup.injEq, rSlS, rEq, rNe, scal, tChain, tYes, tAndV, tOrV, tNotV, tM1, L2.start,
  List.map_nil, List.map_cons, List.replicate, List.length_cons, List.length_nil, List.cons_append, List.nil_append, List.getElem?_cons_zero, List.getElem?_cons_succ, List.set_cons_zero, List.set_cons_succ, Option.some.injEq, V.int.injEq, V.str.injEq, V.ref.injEq, V.bl.injEq, List.cons.injEq, and_true, true_and, and_assoc, exists_eq_left', exists_eq_left, exists_and_left, Wk.one_inj, Wk.atI_eq, Bool.false_eq_true, if_false, if_true, Bool.not_false, Bool.not_true, Bool.not_eq_true', decide_eq_false_iff_not, decide_eq_true_eq]
    exact ⟨mulW hz.1 hy.2.1, mulW hy.1 hz.2.1, k H1 s1⟩
def sp_eq (K : PySem.W.Frag) (C : Addr) : Sp := fun vs H Q E => ∃ (p : Addr) (v : V) (z : Int × Int), vs = [.ref p, v] ∧ RatAt C H p z ∧
  ((∃ y, Num C H v y ∧ SmallZ y ∧ ∀ H', Same H H' → Q (.bl (decide (z.1 = y.1) && decide (z.2 = y.2))) H') ∨ (NotNum K C H v ∧ Q (.bl false) H))
theorem ok_eq (T : Txt K mg a) : FnOk P w K mg base CX0 8 a.f_Ratio_eq a.d_Ratio_eq ["self", "other"] (sp_eq K a.C_Ratio) := by
  have O_as_ratio : FnOk P w K mg base CX0 _ _ _ _ _ := ok_as_ratio T
  have O_is_number : FnOk P w K mg base CX0 _ _ _ _ _ := ok_is_number T
  refine T.F_Ratio_eq.ok sc_Ratio_eq (fun vs H Q E h => ?_) (fun cdv A outer s H vs Q E hr h => ?_)
  · obtain ⟨p, v, z, rfl, _⟩ := h
    rfl
  · obtain ⟨p, v, z, rfl, hp, h⟩ := h
    refine ⟨_, (pss_cons (ps_if (pt_not (pt_val (pe_call O_is_number (hr.mono (by decide)) rfl T.h_is_number.g T.h_is_number.F.kp T.b_is_number .nil pass0 (pa_cons (pv 1) (pa_nil))))) (pss_one (ps_ret pe_bl)) pss_nil)
  (pss_cons (ps_set (i := 2) sc_Ratio_eq.nd rfl (.inl rfl) (pe_call O_as_ratio (hr.mono (by decide)) rfl T.h_as_ratio.g T.h_as_ratio.F.kp T.b_as_ratio .nil pass0 (pa_cons (pv 1) (pa_nil))))
  (pss_one (ps_ret (pe_and (pe_cmpR op_eq (pe_fld (pv 0) rfl) (pe_fld (pv 2) rfl) (nomark _)) (pe_one (pe_cmpR op_eq (pe_fld (pv 0) rfl) (pe_fld (pv 2) rfl) (nomark _)))))))), ?_⟩
    walk_at "rd"
    rcases h with ⟨y, hv, hy, k⟩ | ⟨nn, k⟩
    · refine ⟨v, rfl, .inl ⟨y, hv, ?_⟩⟩
      walk_at "rd"
      refine ⟨v, y, rfl, hv, hy, fun q H1 s1 hq => ?_⟩
      obtain ⟨dp, ep⟩ := hp.same s1
      obtain ⟨dq, eq⟩ := hq
      simp only [ep, eq, HO.ins.injEq, rf_numer, rf_denom, T.cl_Ratio, T.n_Ratio_numer, T.n_Ratio_denom, tSeq, tAsg, gName, tC, tVar, tOp, tUn, tTest, tB, tAnd, tOr, tNot, tIf, tIfS, tRet, tDrop, tNext, tCB, tCons, tNil, tSl, tPart, tNoPart, tAug, ipI, rI0, rI, rU, tLst, tTup, tBM, rAppend, tCall, tPar, tPar3, gTup, gCons, gNil, tMkO, tMkO0, tCallS, WE, wAs, wOnly, tXf, tMake, tMakeK, tMeth, tProp, rOwn, rOwnEq, tFld, sFld, tFmt, tJs, rIxS, rIxLT, rIxTT, rLenLT, rLenTT, gSub, rSetL, Wk.ixN_0, Wk.ixN_1, Wk.ixN_2, Wk.cxK, Wk.cxKn, Wk.atI_lits, upd_same, HO.lst.injEq, HO.tup.injEq, rSlS, rEq, rNe, scal, tChain, tYes, tAndV, tOrV, tNotV, tM1, L2.start,
  List.map_nil, List.map_cons, List.replicate, List.length_cons, List.length_nil, List.cons_append, List.nil_append, List.getElem?_cons_zero, List.getElem?_cons_succ, List.set_cons_zero, List.set_cons_succ, Option.some.injEq, V.int.injEq, V.str.injEq, V.ref.injEq, V.bl.injEq, List.cons.injEq, and_true, true_and, and_assoc, exists_eq_left', exists_eq_left, exists_and_left, Wk.one_inj, Wk.atI_eq, Bool.false_eq_true, if_false, if_true, Bool.not_false, Bool.not_true, Bool.not_eq_true', decide_eq_false_iff_not, decide_eq_true_eq]
      have k' := k H1 s1
      refine ite2 (fun h => ?_) (fun h => ?_)
      · rw [decide_eq_true h, Bool.true_and] at k'
        exact k'
      · rw [decide_eq_false h, Bool.false_and] at k'
        exact k'
    · refine ⟨v, rfl, .inr ⟨nn, ?_⟩⟩
      walk_at "rd"
      exact k
def rtext (z : Int × Int) : Str := if z.2 = 1 then Str.ofString (toString z.1) else Str.ofString (toString z.1) ++ Str.ofString "/" ++ Str.ofString (toString z.2)
def sp_written (C : Addr) : Sp := fun vs H Q E => ∃ (p : Addr) (z : Int × Int), vs = [.ref p] ∧ RatAt C H p z ∧ SmallZ z ∧ Q (.str (rtext z)) H
theorem ok_written (T : Txt K mg a) : FnOk P w K mg base CX0 1 a.f_Ratio_written a.d_Ratio_written ["self"] (sp_written a.C_Ratio) := by
  refine T.F_Ratio_written.ok sc_Ratio_written (fun vs H Q E h => ?_) (fun cdv A outer s H vs Q E hr h => ?_)
  · obtain ⟨p, z, rfl, _⟩ := h
    rfl
  · obtain ⟨p, z, rfl, ⟨dx, hp⟩, hz, k⟩ := h
    refine ⟨_, (pss_one (ps_ret (pe_ifExp (pt_cmpR op_eq (pe_fld (pv 0) rfl) pe_int (nomark _)) (pe_callTy call_str_int (by rfl) T.z_str (by decide +kernel) (pa_cons (pe_fld (pv 0) rfl) (pa_nil))) (pe_joined (PJ.cons (pe_fmt (pe_fld (pv 0) rfl)) (PJ.cons pe_str (PJ.cons (pe_fmt (pe_fld (pv 0) rfl)) PJ.nil))))))), ?_⟩
    simp only [hp, HO.ins.injEq, rf_numer, rf_denom, T.cl_Ratio, T.n_Ratio_numer, T.n_Ratio_denom, tSeq, tAsg, gName, tC, tVar, tOp, tUn, tTest, tB, tAnd, tOr, tNot, tIf, tIfS, tRet, tDrop, tNext, tCB, tCons, tNil, tSl, tPart, tNoPart, tAug, ipI, rI0, rI, rU, tLst, tTup, tBM, rAppend, tCall, tPar, tPar3, gTup, gCons, gNil, tMkO, tMkO0, tCallS, WE, wAs, wOnly, tXf, tMake, tMakeK, tMeth, tProp, rOwn, rOwnEq, tFld, sFld, tFmt, tJs, rIxS, rIxLT, rIxTT, rLenLT, rLenTT, gSub, rSetL, Wk.ixN_0, Wk.ixN_1, Wk.ixN_2, Wk.cxK, Wk.cxKn, Wk.atI_lits, upd_same, HO.lst.injEq, HO.tup.injEq, rSlS, rEq, rNe, scal, tChain, tYes, tAndV, tOrV, tNotV, tM1, L2.start,
  List.map_nil, List.map_cons, List.replicate, List.length_cons, List.length_nil, List.cons_append, List.nil_append, List.getElem?_cons_zero, List.getElem?_cons_succ, List.set_cons_zero, List.set_cons_succ, Option.some.injEq, V.int.injEq, V.str.injEq, V.ref.injEq, V.bl.injEq, List.cons.injEq, and_true, true_and, and_assoc, exists_eq_left', exists_eq_left, exists_and_left, Wk.one_inj, Wk.atI_eq, Bool.false_eq_true, if_false, if_true, Bool.not_false, Bool.not_true, Bool.not_eq_true', decide_eq_false_iff_not, decide_eq_true_eq]
    have l1 := PySem.Flt.log2_lt_of (by decide) hz.1
    have l2 := PySem.Flt.log2_lt_of (by decide) hz.2.1
    have m1 := PyProof.Rows.int_text_len_1921 (i := z.1) (by omega)
    have m2 := PyProof.Rows.int_text_len_1921 (i := z.2) (by omega)
    unfold rtext at k
    refine ite2 (fun h => ?_) (fun h => .inr ?_)
    · rw [if_pos h] at k
      exact ⟨by omega, k⟩
    · rw [if_neg h] at k
      have e0 : Str.empty ++ Str.ofString (toString z.1) = Str.ofString (toString z.1) := Str.empty_append _
      have e1 : (Str.ofString (toString z.1) ++ Str.ofString "/").length = (Str.ofString (toString z.1)).length + (Str.ofString "/").length := Str.length_append _ _
      have e2 : (Str.ofString (toString z.1) ++ Str.ofString "/" ++ Str.ofString (toString z.2)).length = (Str.ofString (toString z.1) ++ Str.ofString "/").length + (Str.ofString (toString z.2)).length := Str.length_append _ _
      have e3 : (Str.ofString "/").length = 1 := by decide +kernel
      rw [e0]
      exact ⟨by omega, sz_of (by omega), sz_of (by omega), .inr ⟨by omega, sz_of (by omega), k⟩⟩
/-! ### the law's own defs -/
def sp_l_cell (K : PySem.W.Frag) : Sp := fun vs H Q _ => ∃ (p : Addr) (ns : List Int) (i : Nat), vs = [.ref p, .int (i : Int)] ∧ SqL K H p (ns.map V.int) ∧ i ≤ 100 ∧ ∀ n : Int, Q (.int n) H
theorem ok_l_cell (T : Txt K mg a) : FnOk P w K mg base CX0 1 a.f_l_cell a.d_l_cell ["_law_script", "_law_k"] (sp_l_cell K) := by
  refine T.h_l_cell.F.ok sc_l_cell (fun vs H Q E h => ?_) (fun cdv A outer s H vs Q E hr h => ?_)
  · obtain ⟨p, ns, i, rfl, _⟩ := h
    rfl
  · obtain ⟨p, ns, i, rfl, hS, hi, k⟩ := h
    refine ⟨_, (pss_cons (ps_if (pt_cmpR op_lt (pv 1) (pe_callB call_len_seq (by rfl) T.z_len (by decide +kernel) (pa_cons (pv 0) (pa_nil))) (nomark _)) (pss_one (ps_ret (pe_ix ix_list (pv 0) (pv 1) (fun _ _ => rfl)))) pss_nil)
  (pss_one (ps_ret (pe_op op_add (pe_op op_mul pe_int (pv 1)) pe_int)))), ?_⟩
    walk_at "rd"
    refine ⟨_, .inl hS, ite2 (fun h1 => ?_) (fun h1 => ⟨.inl (by omega), k _⟩)⟩
    rw [List.length_map] at h1
    obtain ⟨n, hn⟩ : ∃ n, ns[i]? = some n := ⟨_, List.getElem?_eq_getElem (by omega)⟩
    exact ⟨p, _, _, _, rfl, rfl, hS, by rw [atI_eq, List.getElem?_map, hn]; rfl, k n⟩
/-- what the law draws from: three numbers, the last one a count -/
def Box (H : Hp) (p : Addr) (n : Nat) : Prop := ∃ (b0 b1 b2 : Int), H p = some (.lst [.int b0, .int b1, .int b2]) ∧ 0 ≤ b0 ∧ 0 ≤ b1 ∧ b1 < 2147483648 ∧ 0 ≤ b2 ∧ b2 ≤ n
def sp_l_box : Sp := fun vs H Q _ => ∃ n : Int, vs = [.int n] ∧ ∀ H' p, Same H H' → H p = none → Box H' p 0 → Q (.ref p) H'
theorem ok_l_box (T : Txt K mg a) : FnOk P w K mg base CX0 1 a.f_l_box a.d_l_box ["_law_cell_here"] sp_l_box := by
  refine T.h_l_box.F.ok sc_l_box (fun vs H Q E h => ?_) (fun cdv A outer s H vs Q E hr h => ?_)
  · obtain ⟨n, rfl, _⟩ := h
    rfl
  · obtain ⟨n, rfl, k⟩ := h
    refine ⟨_, (pss_one (ps_ret (pe_lst (pa_cons (pe_callB (call_max2 rfl) (by rfl) T.z_max (by decide +kernel) (pa_cons pe_int (pa_cons (pe_op op_sub (pe_callB call_abs (by rfl) T.z_abs (by decide +kernel) (pa_cons (pv 0) (pa_nil))) (pe_op op_pow pe_int pe_int)) (pa_nil)))) (pa_cons (pe_op op_modN (pe_callB call_abs (by rfl) T.z_abs (by decide +kernel) (pa_cons (pv 0) (pa_nil))) pe_int) (pa_cons pe_int (pa_nil))))))), ?_⟩
    walk_at "rd"
    rw [abs_nat]
    refine ⟨⟨by decide, by decide, by decide⟩, by decide, by decide, fun p hp => k _ p (Same.new hp) hp ⟨_, _, _, upd_same, ?_, ?_, ?_, by decide, by decide⟩⟩
    · split <;> omega
    · exact Int.fmod_nonneg_of_pos _ (by decide)
    · exact Int.lt_trans (Int.fmod_lt_of_pos _ (by decide)) (by decide)
def sp_l_take : Sp := fun vs H Q _ => ∃ (p : Addr) (n : Nat) (m : Int), vs = [.ref p, .int m] ∧ Box H p n ∧ n ≤ 1000000 ∧ 0 < m ∧ m < 1073741824 ∧
  ∀ (d : Int) H', 0 ≤ d → d < m → (∀ b o, b ≠ p → H b = some o → H' b = some o) → Box H' p (n + 1) → Q (.int d) H'
theorem ok_l_take (T : Txt K mg a) : FnOk P w K mg base CX0 1 a.f_l_take a.d_l_take ["_law_box_here", "_law_many"] sp_l_take := by
  refine T.h_l_take.F.ok sc_l_take (fun vs H Q E h => ?_) (fun cdv A outer s H vs Q E hr h => ?_)
  · obtain ⟨p, n, m, rfl, _⟩ := h
    rfl
  · obtain ⟨p, n, m, rfl, ⟨b0, b1, b2, hB, g0, g1, g2, g3, g4⟩, hn, hm, hm2, k⟩ := h
    refine ⟨_, (pss_cons (ps_if (pt_cmpR op_gt (pe_ix Wk.ix_listT (pv 0) pe_int (fun _ _ => rfl)) pe_int (nomark _)) (pss_cons (ps_set (i := 2) sc_l_take.nd rfl (.inl rfl) (pe_op op_modN (pe_ix Wk.ix_listT (pv 0) pe_int (fun _ _ => rfl)) (pv 1)))
  (pss_cons (ps_asg (pe_op op_fdivN (pe_ix Wk.ix_listT (pv 0) pe_int (fun _ _ => rfl)) (pv 1)) (pg_sub (pv 0) pe_int set_list))
  (pss_one (ps_ret (pv 2))))) pss_nil)
  (pss_cons (ps_asg (pe_op op_add (pe_ix Wk.ix_listT (pv 0) pe_int (fun _ _ => rfl)) pe_int) (pg_sub (pv 0) pe_int set_list))
  (pss_cons (ps_set (i := 3) sc_l_take.nd rfl (.inl rfl) (pe_op op_modN (pe_op op_pow (pe_op op_add (pe_op op_add (pe_ix Wk.ix_listT (pv 0) pe_int (fun _ _ => rfl)) (pe_op op_mul pe_int (pe_ix Wk.ix_listT (pv 0) pe_int (fun _ _ => rfl)))) pe_int) pe_int) pe_int))
  (pss_cons (ps_set (i := 3) sc_l_take.nd rfl (.inl rfl) (pe_op op_modN (pe_op op_pow (pe_op op_add (pv 3) (pe_op op_mul pe_int (pe_ix Wk.ix_listT (pv 0) pe_int (fun _ _ => rfl)))) pe_int) pe_int))
  (pss_one (ps_ret (pe_op op_modN (pe_op op_fdivN (pv 3) pe_int) (pv 1)))))))), ?_⟩
    walk_at "rd"
    rw [hB]
    walk_at "rd"
    refine ite2 (fun h1 => ⟨by omega, ⟨by omega, by omega⟩, ?_⟩) (fun h1 => ⟨.inl (by omega), ?_⟩)
    · refine k _ _ (Int.fmod_nonneg_of_pos _ hm) (Int.fmod_lt_of_pos _ hm) (fun b o hb e => by rw [upd_ne hb]; exact e) ⟨_, _, _, upd_same, ?_, g1, g2, g3, by omega⟩
      rw [Int.fdiv_eq_ediv_of_nonneg _ (Int.le_of_lt hm)]
      exact Int.ediv_nonneg g0 (Int.le_of_lt hm)
    · generalize hy : ((b1 + 6581 * (b2 + 1) + 1013) ^ Int.toNat 5).fmod 2147483647 = y
      have y0 : 0 ≤ y := by rw [← hy]; exact Int.fmod_nonneg_of_pos _ (by decide)
      have y1 : y < 2147483647 := by rw [← hy]; exact Int.fmod_lt_of_pos _ (by decide)
      refine ⟨⟨by decide, by decide, by omega⟩, by decide, .inl (by omega), ⟨by decide, by decide, by omega⟩, by decide, ⟨by decide, by decide⟩, by omega, ?_⟩
      refine k _ _ (Int.fmod_nonneg_of_pos _ hm) (Int.fmod_lt_of_pos _ hm) (fun b o hb e => by rw [upd_ne hb]; exact e) ⟨_, _, _, upd_same, g0, g1, g2, by omega, by omega⟩
def Keep (p : Addr) (H H' : Hp) : Prop := ∀ b o, b ≠ p → H b = some o → H' b = some o
theorem Box.same {H H' : Hp} {p : Addr} {n : Nat} (h : Box H p n) (e : Same H H') : Box H' p n := by
  obtain ⟨b0, b1, b2, h1, h2⟩ := h
  exact ⟨b0, b1, b2, e _ _ h1, h2⟩
theorem Box.more {H : Hp} {p : Addr} {n m : Nat} (h : Box H p n) (e : n ≤ m) : Box H p m := by
  obtain ⟨b0, b1, b2, h1, h2, h3, h4, h5, h6⟩ := h
  exact ⟨b0, b1, b2, h1, h2, h3, h4, h5, by omega⟩
theorem Keep.of {p : Addr} {H H' : Hp} (e : Same H H') : Keep p H H' := fun b o _ q => e b o q
theorem Keep.trans {p : Addr} {H H1 H2 : Hp} (x : Keep p H H1) (y : Keep p H1 H2) : Keep p H H2 := fun b o n q => y b o n (x b o n q)
theorem Box.ne {H : Hp} {p l : Addr} {n : Nat} (h : Box H p n) (e : H l = none) : l ≠ p := fun q => by
  obtain ⟨_, _, _, h1, _⟩ := h
  rw [q, h1] at e
  cases e
theorem Keep.same {p : Addr} {H H1 H2 : Hp} (k : Keep p H1 H2) (e : Same H H1) (h : H p = none) : Same H H2 := fun b o q => k b o (ne_of_none q h) (e b o q)
theorem Keep.refl {p : Addr} {H : Hp} : Keep p H H := fun _ _ _ q => q
def sp_l_low : Sp := fun vs H Q _ => ∃ h l : Int, vs = [.int h, .int l] ∧ l ≠ 0 ∧ h.natAbs < 2 ^ 400 ∧ l.natAbs < 2 ^ 400 ∧
  ∀ p H', Same H H' → H' p = some (.tup [.int (low h l).1, .int (low h l).2]) → Q (.ref p) H'
theorem ok_l_low (T : Txt K mg a) : FnOk P w K mg base CX0 1 a.f_l_low a.d_l_low ["_law_high", "_law_low_here"] sp_l_low := by
  refine T.h_l_low.F.ok sc_l_low (fun vs H Q E h => ?_) (fun cdv A outer s H vs Q E hr h => ?_)
  · obtain ⟨x, y, rfl, _⟩ := h
    rfl
  · obtain ⟨x, y, rfl, h0, hx, hy, k⟩ := h
    refine ⟨_, (pss_cons (ps_par (i := 2) (j := 3) (by rfl) sc_l_low.nd rfl rfl (by decide) rfl rfl (pa_cons (pe_callB call_abs (by rfl) T.z_abs (by decide +kernel) (pa_cons (pv 0) (pa_nil))) (pa_cons (pe_callB call_abs (by rfl) T.z_abs (by decide +kernel) (pa_cons (pv 1) (pa_nil))) (pa_nil))) (by rfl))
  (pss_cons (ps_while PassesOwn.never (pt_cmpR op_ne (pv 3) pe_int (nomark _)) (pss_one (ps_par (i := 2) (j := 3) (by rfl) sc_l_low.nd rfl rfl (by decide) rfl rfl (pa_cons (pv 3) (pa_cons (pe_op op_modN (pv 2) (pv 3)) (pa_nil))) (by rfl))))
  (pss_cons (ps_set (i := 4) sc_l_low.nd rfl (.inl rfl) (pe_ifExp (pt_cmpR op_gt (pv 1) pe_int (nomark _)) pe_int (pe_un un_neg pe_int)))
  (pss_one (ps_ret (pe_tup (pa_cons (pe_op op_fdivW (pe_op op_mulW (pv 4) (pv 0)) (pv 2)) (pa_cons (pe_op op_fdivW (pe_op op_mulW (pv 4) (pv 1)) (pv 2)) (pa_nil))))))))), ?_⟩
    walk_at "rd"
    rw [abs_nat, abs_nat]
    refine ⟨fun m σ H' => ∃ u v : Nat, σ = [some (.int x), some (.int y), some (.int (u : Int)), some (.int (v : Int)), none] ∧ Nat.gcd u v = Int.gcd x y ∧ v = m ∧ H' = H, ⟨_, _, _, rfl, rfl, rfl, rfl⟩, ?_⟩
    rintro m σ H' ⟨u, v, rfl, hg, rfl, rfl⟩
    walk_at "rd"
    refine ite2 (fun h => ?_) (fun h => ?_)
    · have hv : 0 < v := by omega
      refine ⟨_, fun _ _ q => q, fun q => h q, ?_⟩
      rw [fmod_nat]
      refine ⟨_, Nat.mod_lt u hv, v, u % v, rfl, ?_, rfl, rfl⟩
      rw [Nat.gcd_comm, ← Nat.gcd_rec, Nat.gcd_comm]
      exact hg
    · have hv : v = 0 := by omega
      subst hv
      rw [Nat.gcd_zero_right] at hg
      subst hg
      have g0 := gcd_pos (h := x) h0
      have g1 : (0 : Int) < (Int.gcd x y : Int) := by omega
      have gs : ((Int.gcd x y : Int)).natAbs < 2 ^ 400 := by
        rw [Int.natAbs_natCast]
        exact gcd_size h0 hy
      unfold low at k
      refine ite2 (fun hs => ?_) (fun hs => ?_)
      · rw [if_neg (show ¬ y < 0 by omega)] at k
        exact ⟨wide_mul (a := 2) (b := 400) (by decide) hx (by decide) (by decide) (by decide), wide_div g1 gs (by decide) (by decide), wide_mul (a := 2) (b := 400) (by decide) hy (by decide) (by decide) (by decide), wide_div g1 gs (by decide) (by decide),
          by decide, fun p hp => k p _ (Same.new hp) upd_same⟩
      · rw [if_pos (show y < 0 by omega)] at k
        exact ⟨wide_mul (a := 2) (b := 400) (by decide) hx (by decide) (by decide) (by decide), wide_div g1 gs (by decide) (by decide), wide_mul (a := 2) (b := 400) (by decide) hy (by decide) (by decide) (by decide), wide_div g1 gs (by decide) (by decide),
          by decide, fun p hp => k p _ (Same.new hp) upd_same⟩
def sp_l_number : Sp := fun vs H Q _ => ∃ (p : Addr) (n : Nat), vs = [.ref p] ∧ Box H p n ∧ n ≤ 100000 ∧ ∀ (x : Int) H', x.natAbs < 2 ^ 97 → Keep p H H' → Box H' p (n + 3) → Q (.int x) H'
theorem ok_l_number (T : Txt K mg a) : FnOk P w K mg base CX0 2 a.f_l_number a.d_l_number ["_law_box_here"] sp_l_number := by
  have O_l_take : FnOk P w K mg base CX0 _ _ _ _ _ := ok_l_take T
  refine T.h_l_number.F.ok sc_l_number (fun vs H Q E h => ?_) (fun cdv A outer s H vs Q E hr h => ?_)
  · obtain ⟨p, n, rfl, _⟩ := h
    rfl
  · obtain ⟨p, n, rfl, hB, hn, k⟩ := h
    refine ⟨_, (pss_cons (ps_set (i := 1) sc_l_number.nd rfl (.inl rfl) (pe_call O_l_take (hr.mono (by decide)) rfl T.h_l_take.g T.h_l_take.F.kp T.b_l_take .nil pass0 (pa_cons (pv 0) (pa_cons pe_int (pa_nil)))))
  (pss_cons (ps_if (pt_cmpR op_eq (pv 1) pe_int (nomark _)) (pss_one (ps_ret (pe_op op_add (pe_op op_mul (pe_op op_sub (pe_call O_l_take (hr.mono (by decide)) rfl T.h_l_take.g T.h_l_take.F.kp T.b_l_take .nil pass0 (pa_cons (pv 0) (pa_cons (pe_op op_pow pe_int pe_int) (pa_nil)))) (pe_op op_mul pe_int (pe_op op_pow pe_int pe_int))) (pe_op op_pow pe_int pe_int)) (pe_call O_l_take (hr.mono (by decide)) rfl T.h_l_take.g T.h_l_take.F.kp T.b_l_take .nil pass0 (pa_cons (pv 0) (pa_cons (pe_op op_pow pe_int pe_int) (pa_nil))))))) pss_nil)
  (pss_one (ps_ret (pe_op op_sub (pe_call O_l_take (hr.mono (by decide)) rfl T.h_l_take.g T.h_l_take.F.kp T.b_l_take .nil pass0 (pa_cons (pv 0) (pa_cons (pe_ix Wk.ix_listT (pe_lst (pa_cons pe_int (pa_cons pe_int (pa_cons pe_int (pa_cons pe_int (pa_nil)))))) (pe_op op_sub (pv 1) pe_int) (fun _ _ => rfl)) (pa_nil)))) (pe_ix Wk.ix_listT (pe_lst (pa_cons pe_int (pa_cons pe_int (pa_cons pe_int (pa_cons pe_int (pa_nil)))))) (pe_op op_sub (pv 1) pe_int) (fun _ _ => rfl))))))), ?_⟩
    walk_at "rd"
    refine ⟨p, n, 5, rfl, hB, by omega, by decide, by decide, fun d H1 d0 d1 kp1 bx1 => ?_⟩
    walk_at "rd"
    have p9 : (10 : Int) ^ Int.toNat 9 = 1000000000 := by decide
    have p8 : (10 : Int) ^ Int.toNat 8 = 100000000 := by decide
    have p6 : (10 : Int) ^ Int.toNat 6 = 1000000 := by decide
    have p20 : (10 : Int) ^ Int.toNat 20 = 100000000000000000000 := by decide
    rw [p9, p8, p6, p20]
    refine ite2 (fun h => ⟨⟨by decide, by decide, by decide⟩, ?_⟩) (fun h => ⟨by decide, fun l hl => ?_⟩)
    · refine ⟨p, n + 1, _, rfl, bx1, by omega, by decide, by decide, fun x H2 x0 x1 kp2 bx2 => ⟨⟨by decide, by decide, by decide⟩, .inl (by decide), x, rfl, ⟨by decide, by decide, by decide⟩, .inl (by omega), ⟨by decide, by decide, by decide⟩, ?_⟩⟩
      refine ⟨p, n + 1 + 1, _, rfl, bx2, by omega, by decide, by decide, fun y H3 y0 y1 kp3 bx3 => ⟨y, rfl, k _ H3 ?_ ((Keep.trans kp1 kp2).trans kp3) bx3⟩⟩
      omega
    · obtain ⟨m, c, e1, e2, m0, m1, c0, c1⟩ : ∃ m c : Int, atI [V.int 3, V.int 7, V.int 30, V.int 1000] (d - 1) = some (.int m) ∧ atI [V.int 1, V.int 3, V.int 15, V.int 500] (d - 1) = some (.int c) ∧ 0 < m ∧ m ≤ 1000 ∧ 0 ≤ c ∧ c ≤ 500 := by
        have hd : d = 1 ∨ d = 2 ∨ d = 3 ∨ d = 4 := by omega
        rcases hd with rfl | rfl | rfl | rfl
        · exact ⟨3, 1, rfl, rfl, by decide, by decide, by decide, by decide⟩
        · exact ⟨7, 3, rfl, rfl, by decide, by decide, by decide, by decide⟩
        · exact ⟨30, 15, rfl, rfl, by decide, by decide, by decide, by decide⟩
        · exact ⟨1000, 500, rfl, rfl, by decide, by decide, by decide, by decide⟩
      refine ⟨_, e1, p, n + 1, m, rfl, bx1.same (Same.new hl), by omega, m0, by omega, fun x H2 x0 x1 kp2 bx2 => ⟨by decide, fun q hq => ⟨_, e2, x, rfl, c, rfl, k _ _ ?_ ?_ ?_⟩⟩⟩
      · omega
      · exact ((Keep.trans kp1 (Keep.of (Same.new hl))).trans kp2).trans (Keep.of (Same.new hq))
      · exact (bx2.same (Same.new hq)).more (by omega)
def sp_l_pair : Sp := fun vs H Q _ => ∃ (p : Addr) (n : Nat), vs = [.ref p] ∧ Box H p n ∧ n ≤ 10000 ∧ ∀ (q : Addr) (x y : Int) H', x.natAbs < 2 ^ 97 → y.natAbs < 2 ^ 97 → y ≠ 0 → Keep p H H' → Box H' p (n + 6) →
  H' q = some (.tup [.int x, .int y]) → Q (.ref q) H'
theorem ok_l_pair (T : Txt K mg a) : FnOk P w K mg base CX0 3 a.f_l_pair a.d_l_pair ["_law_box_here"] sp_l_pair := by
  have O_l_number : FnOk P w K mg base CX0 _ _ _ _ _ := ok_l_number T
  refine T.h_l_pair.F.ok sc_l_pair (fun vs H Q E h => ?_) (fun cdv A outer s H vs Q E hr h => ?_)
  · obtain ⟨p, n, rfl, _⟩ := h
    rfl
  · obtain ⟨p, n, rfl, hB, hn, k⟩ := h
    refine ⟨_, (pss_cons (ps_set (i := 1) sc_l_pair.nd rfl (.inl rfl) (pe_call O_l_number (hr.mono (by decide)) rfl T.h_l_number.g T.h_l_number.F.kp T.b_l_number .nil pass0 (pa_cons (pv 0) (pa_nil))))
  (pss_one (ps_ret (pe_tup (pa_cons (pe_call O_l_number (hr.mono (by decide)) rfl T.h_l_number.g T.h_l_number.F.kp T.b_l_number .nil pass0 (pa_cons (pv 0) (pa_nil))) (pa_cons (pe_ifExp (pt_cmpR op_eq (pv 1) pe_int (nomark _)) pe_int (pv 1)) (pa_nil))))))), ?_⟩
    walk_at "rd"
    refine ⟨p, n, rfl, hB, by omega, fun y H1 hy kp1 bx1 => ?_⟩
    walk_at "rd"
    refine ⟨p, n + 3, rfl, bx1, by omega, fun x H2 hx kp2 bx2 => ?_⟩
    refine ite2 (fun h => ?_) (fun h => ?_)
    · exact ⟨by decide, fun q hq => k q x 1 _ hx (by decide) (by decide) ((Keep.trans kp1 kp2).trans (Keep.of (Same.new hq))) (bx2.same (Same.new hq)) upd_same⟩
    · exact ⟨by decide, fun q hq => k q x y _ hx hy h ((Keep.trans kp1 kp2).trans (Keep.of (Same.new hq))) (bx2.same (Same.new hq)) upd_same⟩
def sp_l_told (C : Addr) : Sp := fun vs H Q _ => ∃ (p : Addr) (z : Int × Int), vs = [.ref p] ∧ RatAt C H p z ∧ ∀ q H', Same H H' → H' q = some (.tup [.int z.1, .int z.2]) → Q (.ref q) H'
theorem ok_l_told (T : Txt K mg a) : FnOk P w K mg base CX0 3 a.f_l_told a.d_l_told ["_law_ratio"] (sp_l_told a.C_Ratio) := by
  have O_Ratio_top : FnOk P w K mg base CX0 _ _ _ _ _ := ok_top T
  have O_Ratio_bottom : FnOk P w K mg base CX0 _ _ _ _ _ := ok_bottom T
  refine T.h_l_told.F.ok sc_l_told (fun vs H Q E h => ?_) (fun cdv A outer s H vs Q E hr h => ?_)
  · obtain ⟨p, n, rfl, _⟩ := h
    rfl
  · obtain ⟨p, z, rfl, ⟨dx, hp⟩, k⟩ := h
    refine ⟨_, (pss_one (ps_ret (pe_tup (pa_cons (pe_prop (pv 0) T.cl_Ratio T.p_Ratio_top O_Ratio_top (hr.mono (by decide)) T.b_Ratio_top .nil pass0 rfl) (pa_cons (pe_prop (pv 0) T.cl_Ratio T.p_Ratio_bottom O_Ratio_bottom (hr.mono (by decide)) T.b_Ratio_bottom .nil pass0 rfl) (pa_nil)))))), ?_⟩
    walk_at "rd"
    refine ⟨dx, _, hp, p, dx, _, _, rfl, hp, rf_numer _ _, dx, _, hp, p, dx, _, _, rfl, hp, rf_denom _ _, by decide, fun q hq => k q _ (Same.new hq) upd_same⟩
def sp_l_text : Sp := fun vs H Q _ => ∃ (p : Addr) (z : Int × Int), vs = [.ref p] ∧ H p = some (.tup [.int z.1, .int z.2]) ∧ SmallZ z ∧ Q (.str (rtext z)) H
theorem ok_l_text (T : Txt K mg a) : FnOk P w K mg base CX0 1 a.f_l_text a.d_l_text ["_law_pair_here"] sp_l_text := by
  refine T.h_l_text.F.ok sc_l_text (fun vs H Q E h => ?_) (fun cdv A outer s H vs Q E hr h => ?_)
  · obtain ⟨p, n, rfl, _⟩ := h
    rfl
  · obtain ⟨p, z, rfl, hp, hz, k⟩ := h
    refine ⟨_, (pss_one (ps_ret (pe_ifExp (pt_cmpR op_eq (pe_ix Wk.ix_tupT (pv 0) pe_int (fun _ _ => rfl)) pe_int (nomark _)) (pe_callTy call_str_int (by rfl) T.z_str (by decide +kernel) (pa_cons (pe_ix Wk.ix_tupT (pv 0) pe_int (fun _ _ => rfl)) (pa_nil))) (pe_op op_add_str (pe_op op_add_str (pe_callTy call_str_int (by rfl) T.z_str (by decide +kernel) (pa_cons (pe_ix Wk.ix_tupT (pv 0) pe_int (fun _ _ => rfl)) (pa_nil))) pe_str) (pe_callTy call_str_int (by rfl) T.z_str (by decide +kernel) (pa_cons (pe_ix Wk.ix_tupT (pv 0) pe_int (fun _ _ => rfl)) (pa_nil))))))), ?_⟩
    have l1 := PySem.Flt.log2_lt_of (by decide) hz.1
    have l2 := PySem.Flt.log2_lt_of (by decide) hz.2.1
    have m1 := PyProof.Rows.int_text_len_1921 (i := z.1) (by omega)
    have m2 := PyProof.Rows.int_text_len_1921 (i := z.2) (by omega)
    unfold rtext at k
    simp only [hp, tSeq, tAsg, gName, tC, tVar, tOp, tUn, tTest, tB, tAnd, tOr, tNot, tIf, tIfS, tRet, tDrop, tNext, tCB, tCons, tNil, tSl, tPart, tNoPart, tAug, ipI, rI0, rI, rU, tLst, tTup, tBM, rAppend, tCall, tPar, tPar3, gTup, gCons, gNil, tMkO, tMkO0, tCallS, WE, wAs, wOnly, tXf, tMake, tMakeK, tMeth, tProp, rOwn, rOwnEq, tFld, sFld, tFmt, tJs, rIxS, rIxLT, rIxTT, rLenLT, rLenTT, gSub, rSetL, Wk.ixN_0, Wk.ixN_1, Wk.ixN_2, Wk.cxK, Wk.cxKn, Wk.atI_lits, upd_same, HO.lst.injEq, HO.tup.injEq, rSlS, rEq, rNe, scal, tChain, tYes, tAndV, tOrV, tNotV, tM1, L2.start,
  List.map_nil, List.map_cons, List.replicate, List.length_cons, List.length_nil, List.cons_append, List.nil_append, List.getElem?_cons_zero, List.getElem?_cons_succ, List.set_cons_zero, List.set_cons_succ, Option.some.injEq, V.int.injEq, V.str.injEq, V.ref.injEq, V.bl.injEq, List.cons.injEq, and_true, true_and, and_assoc, exists_eq_left', exists_eq_left, exists_and_left, Wk.one_inj, Wk.atI_eq, Bool.false_eq_true, if_false, if_true, Bool.not_false, Bool.not_true, Bool.not_eq_true', decide_eq_false_iff_not, decide_eq_true_eq]
    have e1 : (Str.ofString (toString z.1) ++ Str.ofString "/").length = (Str.ofString (toString z.1)).length + (Str.ofString "/").length := Str.length_append _ _
    have e3 : (Str.ofString "/").length = 1 := by decide +kernel
    refine ite2 (fun h => ?_) (fun h => ?_)
    · rw [if_pos h] at k
      exact ⟨by omega, k⟩
    · rw [if_neg h] at k
      exact ⟨by omega, sz_of (by omega), by omega, sz_of (by omega), k⟩
/-- the quotient's terms, or None -/
def sp_l_over (C : Addr) : Sp := fun vs H Q E => ∃ (p : Addr) (v : V) (z y : Int × Int), vs = [.ref p, v] ∧ RatAt C H p z ∧ Num C H v y ∧ SmallZ z ∧ SmallZ y ∧
  (y.1 ≠ 0 → ∀ q H', Same H H' → H' q = some (.tup [.int (low (z.1 * y.2) (z.2 * y.1)).1, .int (low (z.1 * y.2) (z.2 * y.1)).2]) → Q (.ref q) H') ∧ (y.1 = 0 → ∀ H', Same H H' → Q .non H')
theorem ok_l_over (T : Txt K mg a) : FnOk P w K mg base CX0 10 a.f_l_over a.d_l_over ["_law_one", "_law_other"] (sp_l_over a.C_Ratio) := by
  have O_l_told : FnOk P w K mg base CX0 _ _ _ _ _ := ok_l_told T
  have O_Ratio_over : FnOk P w K mg base (L2.CX P w) _ _ _ _ _ := ok_over T
  refine T.h_l_over.F.ok sc_l_over (fun vs H Q E h => ?_) (fun cdv A outer s H vs Q E hr h => ?_)
  · obtain ⟨p, v, z, y, rfl, _⟩ := h
    rfl
  · obtain ⟨p, v, z, y, rfl, hp, hv, hz, hy, k1, k2⟩ := h
    refine ⟨_, pss_one (ps_try_only (tb := fun W => tRet (tCall (sp_l_told a.C_Ratio) [] E0 (tCons (tMeth a.C_Ratio "over" (sp_over a.C_Ratio a.C_ByZero) [] (fun cls d H => ∀ σ, W cls d σ H) (tVar 0) (tCons (tVar 1) tNil)) tNil))) (ts := fun _ _ _ => tRet (tC .non)) (Wout := fun _ _ _ _ => False)
      rfl rfl ⟨rfl, by decide, .inl T.e_ByZero.g⟩ takes0
      (fun W pn xe tk _ => pss_one (ps_ret (pe_call O_l_told (hr.mono (by decide)) rfl T.h_l_told.g T.h_l_told.F.kp T.b_l_told .nil pass0 (by exact (pa_cons (pe_meth (pv 0) T.cl_Ratio T.m_Ratio_over O_Ratio_over (hr.mono (by decide)) T.b_Ratio_over .nil (passes_call tk fun _ _ σ _ h => h σ) (by exact (pa_cons (pv 1) pa_nil))) pa_nil)))))
      (fun a0 oe cls d pn hz hf => pss_one (ps_ret pe_non))), ?_⟩
    obtain ⟨dx, ep⟩ := hp
    simp only [ep, HO.ins.injEq, tSeq, tAsg, gName, tC, tVar, tOp, tUn, tTest, tB, tAnd, tOr, tNot, tIf, tIfS, tRet, tDrop, tNext, tCB, tCons, tNil, tSl, tPart, tNoPart, tAug, ipI, rI0, rI, rU, tLst, tTup, tBM, rAppend, tCall, tPar, tPar3, gTup, gCons, gNil, tMkO, tMkO0, tCallS, WE, wAs, wOnly, tXf, tMake, tMakeK, tMeth, tProp, rOwn, rOwnEq, tFld, sFld, tFmt, tJs, rIxS, rIxLT, rIxTT, rLenLT, rLenTT, gSub, rSetL, Wk.ixN_0, Wk.ixN_1, Wk.ixN_2, Wk.cxK, Wk.cxKn, Wk.atI_lits, upd_same, HO.lst.injEq, HO.tup.injEq, rSlS, rEq, rNe, scal, tChain, tYes, tAndV, tOrV, tNotV, tM1, L2.start,
  List.map_nil, List.map_cons, List.replicate, List.length_cons, List.length_nil, List.cons_append, List.nil_append, List.getElem?_cons_zero, List.getElem?_cons_succ, List.set_cons_zero, List.set_cons_succ, Option.some.injEq, V.int.injEq, V.str.injEq, V.ref.injEq, V.bl.injEq, List.cons.injEq, and_true, true_and, and_assoc, exists_eq_left', exists_eq_left, exists_and_left, Wk.one_inj, Wk.atI_eq, Bool.false_eq_true, if_false, if_true, Bool.not_false, Bool.not_true, Bool.not_eq_true', decide_eq_false_iff_not, decide_eq_true_eq]
    refine ⟨rf_no _ _ (by decide +kernel) (by decide +kernel), p, v, z, y, rfl, ⟨dx, ep⟩, hv, hz, hy, fun h0 q H1 s1 hq => ?_, fun h0 H1 s1 σ => ?_⟩
    · exact ⟨q, _, rfl, hq, fun r H2 s2 hr2 => k1 h0 r H2 (s1.trans s2) hr2⟩
    · exact ⟨true, T.e_ByZero.te, fun _ a0 _ => k2 h0 H1 s1, fun q => Bool.noConfusion q⟩
def sp_l_refused : Sp := fun vs H Q E => ∃ x : Int, vs = [.int x] ∧ x.natAbs < 2 ^ 97 ∧ ∀ H', Same H H' → Q (.bl true) H'
theorem ok_l_refused (T : Txt K mg a) : FnOk P w K mg base CX0 10 a.f_l_refused a.d_l_refused ["_law_high"] sp_l_refused := by
  have O_Ratio_init : FnOk P w K mg base (L2.CX P w) _ _ _ _ _ := ok_init T
  obtain ⟨ds2, v2_Ratio, b2_Ratio⟩ := (binds2 T).b2
  refine T.h_l_refused.F.ok sc_l_refused (fun vs H Q E h => ?_) (fun cdv A outer s H vs Q E hr h => ?_)
  · obtain ⟨p, rfl, _⟩ := h
    rfl
  · obtain ⟨x, rfl, hx, k⟩ := h
    refine ⟨_, pss_cons (ps_try_only (tb := fun W => tDrop (tMake a.C_Ratio (sp_init a.C_Ratio a.C_ByZero) [] (fun cls d H => ∀ σ, W cls d σ H) (tCons (tVar 0) (tCons (tC (.int 0)) tNil)))) (ts := fun _ _ _ => tRet (tC (.bl true))) (Wout := fun _ _ _ _ => False)
      rfl rfl ⟨rfl, by decide, .inl T.e_ByZero.g⟩ takes0
      (fun W pn xe tk _ => pss_one (ps_expr (pe_make T.mk_Ratio O_Ratio_init (hr.mono (by decide)) rfl T.g_Ratio b2_Ratio v2_Ratio (passes_call tk fun _ _ σ _ h => h σ) (by exact (pa_cons (pv 0) (pa_cons pe_int pa_nil))))))
      (fun a0 oe cls d pn hz hf => pss_one (ps_ret pe_bl))) (pss_one (ps_ret pe_bl)), ?_⟩
    walk_at "rd"
    intro y dy hy hdy hne
    refine ⟨y, dy, x, 0, rfl, upd_same, pow_le hx (by decide), by decide, fun q => absurd rfl q, fun _ H1 s1 σ => ?_⟩
    exact ⟨true, T.e_ByZero.te, fun _ a0 _ => k H1 ((Same.mut (Same.new hdy) hy).trans s1), fun q => Bool.noConfusion q⟩
theorem ne_pair {H : Hp} {p q : Addr} {x y : Int} {Q : VK} (h1 : H p = some (.tup [.int x, .int y])) (h2 : H q = some (.tup [.int x, .int y])) (k : Q (.bl false) H) : rNeD K (.ref p) (.ref q) H Q := by
  refine ⟨.tuple [.int x, .int y], .tuple [.int x, .int y], .tup (SqT.of h1) (.cons (.int _) (.cons (.int _) .nil)), .tup (SqT.of h2) (.cons (.int _) (.cons (.int _) .nil)), rfl, rfl, ?_⟩
  rw [SeqAt.eqv_refl _ rfl]
  exact k
theorem eqv_pair (x y u v : Int) : PyData.eqv (.tuple [.int x, .int y]) (.tuple [.int u, .int v]) = (decide (x = u) && decide (y = v)) := by
  rw [PyData.eqv, PyData.eqvAll, PyData.eqvAll, PyData.eqvAll, PyData.eqv, PyData.eqv, Bool.and_true, Bool.eq_iff_iff]
  simp
theorem eq_pair {H : Hp} {p q : Addr} {x y u v : Int} {Q : VK} (h1 : H p = some (.tup [.int x, .int y])) (h2 : H q = some (.tup [.int u, .int v])) (k : Q (.bl (decide (x = u) && decide (y = v))) H) : rEqD K (.ref p) (.ref q) H Q := by
  refine ⟨.tuple [.int x, .int y], .tuple [.int u, .int v], .tup (SqT.of h1) (.cons (.int _) (.cons (.int _) .nil)), .tup (SqT.of h2) (.cons (.int _) (.cons (.int _) .nil)), rfl, rfl, ?_⟩
  rw [eqv_pair]
  exact k
theorem ne_none {H : Hp} {Q : VK} (k : Q (.bl false) H) : rNeD K .non .non H Q := ⟨.none, .none, .non, .non, rfl, rfl, k⟩
theorem num_or {C : Addr} {H : Hp} {v : V} {z : Int × Int} (h : Num C H v z) : (∃ b, v = V.ref b ∧ ∃ x4 x5, H b = some (HO.ins C x4 x5)) ∨ ∃ i, v = V.int i := by
  rcases h with ⟨p, rfl, dx, e⟩ | ⟨w, rfl, _⟩
  · exact .inl ⟨p, rfl, dx, _, e⟩
  · exact .inr ⟨w, rfl⟩
theorem small_low {x y : Int} (hy : y ≠ 0) (sx : x.natAbs < 2 ^ 100) (sy : y.natAbs < 2 ^ 100) : SmallZ (low x y) := by
  obtain ⟨h1, h2⟩ := low_size hy sx sy
  exact ⟨h1, h2, (low_spec hy).2⟩
theorem ty_num (T : Txt K mg a) {H : Hp} {v : V} {z : Int × Int} (h : Num a.C_Ratio H v z) : ∃ t, TyX K H v t ∧ PySem.W.notFirst K a.C_Ratio t = true := by
  rcases h with ⟨p, rfl, h⟩ | ⟨w, rfl, _⟩
  · exact ⟨_, ty_rat T h, T.nf_ratio⟩
  · exact ⟨_, .base (.int _), T.nf_int⟩
def sp_two (C : Addr) : Sp := fun vs H Q E => ∃ (f g p : Addr) (v : V) (x y u t : Int), vs = [.ref f, .ref g, .ref p, v] ∧ H f = some (.tup [.int x, .int y]) ∧ H g = some (.tup [.int u, .int t]) ∧
  y ≠ 0 ∧ t ≠ 0 ∧ x.natAbs < 2 ^ 100 ∧ y.natAbs < 2 ^ 100 ∧ u.natAbs < 2 ^ 100 ∧ t.natAbs < 2 ^ 100 ∧ RatAt C H p (low x y) ∧ Num C H v (low u t) ∧ ∀ H', Same H H' → Q (.bl true) H'
theorem ok_two (T : Txt K mg a) : FnOk P w K mg base CX0 12 a.f_l_two_right a.d_l_two_right ["_law_first", "_law_second", "_law_one", "_law_other"] (sp_two a.C_Ratio) := by
  have O_l_told : FnOk P w K mg base CX0 _ _ _ _ _ := ok_l_told T
  have O_l_low : FnOk P w K mg base CX0 _ _ _ _ _ := ok_l_low T
  have O_l_over : FnOk P w K mg base CX0 _ _ _ _ _ := ok_l_over T
  have O_Ratio_add : FnOk P w K mg base CX0 _ _ _ _ _ := ok_add T
  have O_Ratio_sub : FnOk P w K mg base CX0 _ _ _ _ _ := ok_sub T
  have O_Ratio_mul : FnOk P w K mg base CX0 _ _ _ _ _ := ok_mul T
  have O_Ratio_eq : FnOk P w K mg base CX0 _ _ _ _ _ := ok_eq T
  have O_Ratio_below : FnOk P w K mg base CX0 _ _ _ _ _ := ok_below T
  refine T.h_l_two_right.F.ok sc_l_two_right (fun vs H Q E h => ?_) (fun cdv A outer s H vs Q E hr h => ?_)
  · obtain ⟨f, g, p, v, x, y, u, t, rfl, _⟩ := h
    rfl
  · obtain ⟨f, g, p, v, x, y, u, t, rfl, hf, hg, hy, ht, sx, sy, su, st, hp, hv, k⟩ := h
    refine ⟨_, (pss_cons (ps_asg (pe_tup (pa_cons (pe_ix Wk.ix_tupT (pv 0) pe_int (fun _ _ => rfl)) (pa_cons (pe_ix Wk.ix_tupT (pv 0) pe_int (fun _ _ => rfl)) (pa_cons (pe_ix Wk.ix_tupT (pv 1) pe_int (fun _ _ => rfl)) (pa_cons (pe_ix Wk.ix_tupT (pv 1) pe_int (fun _ _ => rfl)) (pa_nil)))))) (pg_tup rfl (pgs_cons (pg_name (i := 4) sc_l_two_right.nd rfl (.inl rfl)) (pgs_cons (pg_name (i := 5) sc_l_two_right.nd rfl (.inl rfl)) (pgs_cons (pg_name (i := 6) sc_l_two_right.nd rfl (.inl rfl)) (pgs_cons (pg_name (i := 7) sc_l_two_right.nd rfl (.inl rfl)) pgs_nil))))))
  (pss_cons (ps_if (pt_cmpR (op_neD hr.units) (pe_call O_l_told (hr.mono (by decide)) rfl T.h_l_told.g T.h_l_told.F.kp T.b_l_told .nil pass0 (pa_cons (pe_op (Wk.op_own T.op_Ratio_add O_Ratio_add (hr.mono (by decide)) T.b_Ratio_add pass0) (pv 2) (pv 3)) (pa_nil))) (pe_call O_l_low (hr.mono (by decide)) rfl T.h_l_low.g T.h_l_low.F.kp T.b_l_low .nil pass0 (pa_cons (pe_op op_add (pe_op op_mulW (pv 4) (pv 7)) (pe_op op_mulW (pv 6) (pv 5))) (pa_cons (pe_op op_mulW (pv 5) (pv 7)) (pa_nil)))) (nomark _)) (pss_one (ps_ret pe_bl)) pss_nil)
  (pss_cons (ps_if (pt_cmpR (op_neD hr.units) (pe_call O_l_told (hr.mono (by decide)) rfl T.h_l_told.g T.h_l_told.F.kp T.b_l_told .nil pass0 (pa_cons (pe_op (Wk.op_own T.op_Ratio_sub O_Ratio_sub (hr.mono (by decide)) T.b_Ratio_sub pass0) (pv 2) (pv 3)) (pa_nil))) (pe_call O_l_low (hr.mono (by decide)) rfl T.h_l_low.g T.h_l_low.F.kp T.b_l_low .nil pass0 (pa_cons (pe_op op_sub (pe_op op_mulW (pv 4) (pv 7)) (pe_op op_mulW (pv 6) (pv 5))) (pa_cons (pe_op op_mulW (pv 5) (pv 7)) (pa_nil)))) (nomark _)) (pss_one (ps_ret pe_bl)) pss_nil)
  (pss_cons (ps_if (pt_cmpR (op_neD hr.units) (pe_call O_l_told (hr.mono (by decide)) rfl T.h_l_told.g T.h_l_told.F.kp T.b_l_told .nil pass0 (pa_cons (pe_op (Wk.op_own T.op_Ratio_mul O_Ratio_mul (hr.mono (by decide)) T.b_Ratio_mul pass0) (pv 2) (pv 3)) (pa_nil))) (pe_call O_l_low (hr.mono (by decide)) rfl T.h_l_low.g T.h_l_low.F.kp T.b_l_low .nil pass0 (pa_cons (pe_op op_mulW (pv 4) (pv 6)) (pa_cons (pe_op op_mulW (pv 5) (pv 7)) (pa_nil)))) (nomark _)) (pss_one (ps_ret pe_bl)) pss_nil)
  (pss_cons (ps_if (pt_cmpR (op_neD hr.units) (pe_call O_l_over (hr.mono (by decide)) rfl T.h_l_over.g T.h_l_over.F.kp T.b_l_over .nil pass0 (pa_cons (pv 2) (pa_cons (pv 3) (pa_nil)))) (pe_ifExp (pt_cmpR op_eq (pv 6) pe_int (nomark _)) pe_non (pe_call O_l_low (hr.mono (by decide)) rfl T.h_l_low.g T.h_l_low.F.kp T.b_l_low .nil pass0 (pa_cons (pe_op op_mulW (pv 4) (pv 7)) (pa_cons (pe_op op_mulW (pv 5) (pv 6)) (pa_nil))))) (nomark _)) (pss_one (ps_ret pe_bl)) pss_nil)
  (pss_cons (ps_set (i := 8) sc_l_two_right.nd rfl (.inl rfl) (pe_cmpR (op_eqD hr.units) (pe_call O_l_low (hr.mono (by decide)) rfl T.h_l_low.g T.h_l_low.F.kp T.b_l_low .nil pass0 (pa_cons (pv 4) (pa_cons (pv 5) (pa_nil)))) (pe_call O_l_low (hr.mono (by decide)) rfl T.h_l_low.g T.h_l_low.F.kp T.b_l_low .nil pass0 (pa_cons (pv 6) (pa_cons (pv 7) (pa_nil)))) (nomark _)))
  (pss_cons (ps_if (pt_cmpR op_ne (pe_callB Wk.call_repr_bool (by rfl) T.z_repr (by decide +kernel) (pa_cons (pe_cmpR (Wk.op_ownEqK rfl T.m_Ratio_eq.at_ T.m_Ratio_eq.fn O_Ratio_eq (hr.mono (by decide)) T.b_Ratio_eq pass0) (pv 2) (pv 3) (nomark _)) (pa_nil))) (pe_callB Wk.call_repr_bool (by rfl) T.z_repr (by decide +kernel) (pa_cons (pv 8) (pa_nil))) (nomark _)) (pss_one (ps_ret pe_bl)) pss_nil)
  (pss_cons (ps_set (i := 9) sc_l_two_right.nd rfl (.inl rfl) (pe_cmpR op_lt (pe_ix Wk.ix_tupT (pe_call O_l_low (hr.mono (by decide)) rfl T.h_l_low.g T.h_l_low.F.kp T.b_l_low .nil pass0 (pa_cons (pe_op op_sub (pe_op op_mulW (pv 4) (pv 7)) (pe_op op_mulW (pv 6) (pv 5))) (pa_cons (pe_op op_mulW (pv 5) (pv 7)) (pa_nil)))) pe_int (fun _ _ => rfl)) pe_int (nomark _)))
  (pss_one (ps_ret (pe_and (pe_cmpR op_eq (pe_callB Wk.call_repr_bool (by rfl) T.z_repr (by decide +kernel) (pa_cons (pe_meth (pv 2) T.cl_Ratio T.m_Ratio_below O_Ratio_below (hr.mono (by decide)) T.b_Ratio_below .nil pass0 (pa_cons (pv 3) (pa_nil))) (pa_nil))) (pe_callB Wk.call_repr_bool (by rfl) T.z_repr (by decide +kernel) (pa_cons (pv 9) (pa_nil))) (nomark _)) (pe_one (pe_cmpR (op_eqD hr.units) (pe_call O_l_told (hr.mono (by decide)) rfl T.h_l_told.g T.h_l_told.F.kp T.b_l_told .nil pass0 (pa_cons (pv 2) (pa_nil))) (pe_call O_l_low (hr.mono (by decide)) rfl T.h_l_low.g T.h_l_low.F.kp T.b_l_low .nil pass0 (pa_cons (pv 4) (pa_cons (pv 5) (pa_nil)))) (nomark _)))))))))))))), ?_⟩
    simp only [hf, hg, tSeq, tAsg, gName, tC, tVar, tOp, tUn, tTest, tB, tAnd, tOr, tNot, tIf, tIfS, tRet, tDrop, tNext, tCB, tCons, tNil, tSl, tPart, tNoPart, tAug, ipI, rI0, rI, rU, tLst, tTup, tBM, rAppend, tCall, tPar, tPar3, gTup, gCons, gNil, tMkO, tMkO0, tCallS, WE, wAs, wOnly, tXf, tMake, tMakeK, tMeth, tProp, rOwn, rOwnEq, tFld, sFld, tFmt, tJs, rIxS, rIxLT, rIxTT, rLenLT, rLenTT, gSub, rSetL, Wk.ixN_0, Wk.ixN_1, Wk.ixN_2, Wk.cxK, Wk.cxKn, Wk.atI_lits, upd_same, HO.lst.injEq, HO.tup.injEq, rSlS, rEq, rNe, scal, tChain, tYes, tAndV, tOrV, tNotV, tM1, L2.start,
  List.map_nil, List.map_cons, List.replicate, List.length_cons, List.length_nil, List.cons_append, List.nil_append, List.getElem?_cons_zero, List.getElem?_cons_succ, List.set_cons_zero, List.set_cons_succ, Option.some.injEq, V.int.injEq, V.str.injEq, V.ref.injEq, V.bl.injEq, List.cons.injEq, and_true, true_and, and_assoc, exists_eq_left', exists_eq_left, exists_and_left, Wk.one_inj, Wk.atI_eq, Bool.false_eq_true, if_false, if_true, Bool.not_false, Bool.not_true, Bool.not_eq_true', decide_eq_false_iff_not, decide_eq_true_eq]
    have zz := small_low hy sx sy
    have yy := small_low ht su st
    refine ⟨by decide, fun w0 hw0 => ⟨_, SqT.of upd_same, rfl, _, _, rfl, _, _, rfl, _, _, rfl, _, _, rfl, rfl, ?_⟩⟩
    walk_at "rd"
    have S0 : Same H (upd H w0 (HO.tup [V.int x, V.int y, V.int u, V.int t])) := Same.new hw0
    obtain ⟨dp1, ep1⟩ := hp.same S0
    refine ⟨dp1, _, ep1, num_or (hv.same S0), p, v, low x y, low u t, rfl, hp.same S0, hv.same S0, zz, yy, fun q1 A1 a1 hq1 => ?_⟩
    refine ⟨q1, _, rfl, hq1, fun r1 B1 b1 hr1 => ?_⟩
    walk_at "rd"
    refine ⟨mulW sx st, mulW su sy, mulW sy st, _, _, rfl, Int.mul_ne_zero hy ht, add4 sx st su sy, mul4 sy st, fun t1 C1 c1 ht1 => ?_⟩
    rw [← low_add hy ht] at ht1
    refine ne_pair (c1 _ _ hr1) ht1 ?_
    walk_at "rd"
    have S1 : Same H C1 := ((S0.trans a1).trans b1).trans c1
    obtain ⟨dp2, ep2⟩ := hp.same S1
    refine ⟨dp2, _, ep2, num_or (hv.same S1), p, v, low x y, low u t, rfl, hp.same S1, hv.same S1, zz, yy, fun q2 A2 a2 hq2 => ?_⟩
    refine ⟨q2, _, rfl, hq2, fun r2 B2 b2 hr2 => ?_⟩
    walk_at "rd"
    refine ⟨mulW sx st, mulW su sy, mulW sy st, _, _, rfl, Int.mul_ne_zero hy ht, sub4 sx st su sy, mul4 sy st, fun t2 C2 c2 ht2 => ?_⟩
    rw [← low_sub hy ht] at ht2
    refine ne_pair (c2 _ _ hr2) ht2 ?_
    walk_at "rd"
    have S2 : Same H C2 := ((S1.trans a2).trans b2).trans c2
    obtain ⟨dp3, ep3⟩ := hp.same S2
    refine ⟨dp3, _, ep3, num_or (hv.same S2), p, v, low x y, low u t, rfl, hp.same S2, hv.same S2, zz, yy, fun q3 A3 a3 hq3 => ?_⟩
    refine ⟨q3, _, rfl, hq3, fun r3 B3 b3 hr3 => ?_⟩
    walk_at "rd"
    refine ⟨mulW sx su, mulW sy st, _, _, rfl, Int.mul_ne_zero hy ht, mul4 sx su, mul4 sy st, fun t3 C3 c3 ht3 => ?_⟩
    rw [← low_mul hy ht] at ht3
    refine ne_pair (c3 _ _ hr3) ht3 ?_
    walk_at "rd"
    have S3 : Same H C3 := ((S2.trans a3).trans b3).trans c3
    refine ⟨p, v, low x y, low u t, rfl, hp.same S3, hv.same S3, zz, yy, fun h0 q4 A4 a4 hq4 => ?_, fun h0 A4 a4 => ?_⟩
    · have h0' : u ≠ 0 := fun q => h0 ((low_top ht).mpr q)
      dsimp only
      rw [if_neg h0']
      refine ⟨mulW sx st, mulW sy su, _, _, rfl, Int.mul_ne_zero hy h0', mul4 sx st, mul4 sy su, fun r4 B4 b4 hr4 => ?_⟩
      rw [← low_over hy ht h0'] at hr4
      refine ne_pair (b4 _ _ hq4) hr4 ?_
      walk_at "rd"
      have S4 : Same H B4 := (S3.trans a4).trans b4
      refine ⟨x, y, rfl, hy, pow_le sx (by decide), pow_le sy (by decide), fun l1 D1 d1 hl1 => ?_⟩
      refine ⟨u, t, rfl, ht, pow_le su (by decide), pow_le st (by decide), fun l2 D2 d2 hl2 => ?_⟩
      refine eq_pair (d2 _ _ hl1) hl2 ?_
      have S5 : Same H D2 := (S4.trans d1).trans d2
      obtain ⟨dpe, epe⟩ := hp.same S5
      obtain ⟨tv, tv1, tv2⟩ := ty_num T (hv.same S5)
      refine ⟨dpe, _, epe, tv, tv1, tv2, p, v, low x y, rfl, hp.same S5, .inl ⟨low u t, hv.same S5, yy, fun D3 d3 => ?_⟩⟩
      refine ⟨_, rfl, _, rfl, ?_⟩
      rw [if_neg (fun q => q rfl)]
      refine ⟨mulW sx st, mulW su sy, mulW sy st, _, _, rfl, Int.mul_ne_zero hy ht, sub4 sx st su sy, mul4 sy st, fun l3 D4 d4 hl3 => ?_⟩
      simp only [hl3, tSeq, tAsg, gName, tC, tVar, tOp, tUn, tTest, tB, tAnd, tOr, tNot, tIf, tIfS, tRet, tDrop, tNext, tCB, tCons, tNil, tSl, tPart, tNoPart, tAug, ipI, rI0, rI, rU, tLst, tTup, tBM, rAppend, tCall, tPar, tPar3, gTup, gCons, gNil, tMkO, tMkO0, tCallS, WE, wAs, wOnly, tXf, tMake, tMakeK, tMeth, tProp, rOwn, rOwnEq, tFld, sFld, tFmt, tJs, rIxS, rIxLT, rIxTT, rLenLT, rLenTT, gSub, rSetL, Wk.ixN_0, Wk.ixN_1, Wk.ixN_2, Wk.cxK, Wk.cxKn, Wk.atI_lits, upd_same, HO.lst.injEq, HO.tup.injEq, rSlS, rEq, rNe, scal, tChain, tYes, tAndV, tOrV, tNotV, tM1, L2.start,
  List.map_nil, List.map_cons, List.replicate, List.length_cons, List.length_nil, List.cons_append, List.nil_append, List.getElem?_cons_zero, List.getElem?_cons_succ, List.set_cons_zero, List.set_cons_succ, Option.some.injEq, V.int.injEq, V.str.injEq, V.ref.injEq, V.bl.injEq, List.cons.injEq, and_true, true_and, and_assoc, exists_eq_left', exists_eq_left, exists_and_left, Wk.one_inj, Wk.atI_eq, Bool.false_eq_true, if_false, if_true, Bool.not_false, Bool.not_true, Bool.not_eq_true', decide_eq_false_iff_not, decide_eq_true_eq]
      have S6 : Same H D4 := (S5.trans d3).trans d4
      obtain ⟨dpf, epf⟩ := hp.same S6
      simp only [epf, HO.ins.injEq, tSeq, tAsg, gName, tC, tVar, tOp, tUn, tTest, tB, tAnd, tOr, tNot, tIf, tIfS, tRet, tDrop, tNext, tCB, tCons, tNil, tSl, tPart, tNoPart, tAug, ipI, rI0, rI, rU, tLst, tTup, tBM, rAppend, tCall, tPar, tPar3, gTup, gCons, gNil, tMkO, tMkO0, tCallS, WE, wAs, wOnly, tXf, tMake, tMakeK, tMeth, tProp, rOwn, rOwnEq, tFld, sFld, tFmt, tJs, rIxS, rIxLT, rIxTT, rLenLT, rLenTT, gSub, rSetL, Wk.ixN_0, Wk.ixN_1, Wk.ixN_2, Wk.cxK, Wk.cxKn, Wk.atI_lits, upd_same, HO.lst.injEq, HO.tup.injEq, rSlS, rEq, rNe, scal, tChain, tYes, tAndV, tOrV, tNotV, tM1, L2.start,
  List.map_nil, List.map_cons, List.replicate, List.length_cons, List.length_nil, List.cons_append, List.nil_append, List.getElem?_cons_zero, List.getElem?_cons_succ, List.set_cons_zero, List.set_cons_succ, Option.some.injEq, V.int.injEq, V.str.injEq, V.ref.injEq, V.bl.injEq, List.cons.injEq, and_true, true_and, and_assoc, exists_eq_left', exists_eq_left, exists_and_left, Wk.one_inj, Wk.atI_eq, Bool.false_eq_true, if_false, if_true, Bool.not_false, Bool.not_true, Bool.not_eq_true', decide_eq_false_iff_not, decide_eq_true_eq]
      refine ⟨rf_no _ _ (by decide +kernel) (by decide +kernel), p, v, low x y, low u t, rfl, hp.same S6, hv.same S6, zz, yy, fun D7 d7 => ⟨_, rfl, ?_⟩⟩
      rw [if_pos ?_]
      · refine ⟨p, low x y, rfl, (hp.same S6).same d7, fun r8 D8 d8 hr8 => ⟨x, y, rfl, hy, pow_le sx (by decide), pow_le sy (by decide), fun r9 D9 d9 hr9 => ?_⟩⟩
        refine eq_pair (d9 _ _ hr8) hr9 ?_
        rw [decide_eq_true rfl, decide_eq_true rfl]
        exact k D9 (((S6.trans d7).trans d8).trans d9)
      · by_cases hl : (low (x * t - u * y) (y * t)).1 < 0
        · rw [if_pos hl, if_pos (decide_eq_true ((low_less hy ht).mp hl))]
        · rw [if_neg hl, if_neg]
          intro q
          exact hl ((low_less hy ht).mpr (of_decide_eq_true q))
    · have h0' : u = 0 := (low_top ht).mp h0
      dsimp only
      rw [if_pos h0']
      refine ne_none ?_
      walk_at "rd"
      have S4 : Same H A4 := S3.trans a4
      refine ⟨x, y, rfl, hy, pow_le sx (by decide), pow_le sy (by decide), fun l1 D1 d1 hl1 => ?_⟩
      refine ⟨u, t, rfl, ht, pow_le su (by decide), pow_le st (by decide), fun l2 D2 d2 hl2 => ?_⟩
      refine eq_pair (d2 _ _ hl1) hl2 ?_
      have S5 : Same H D2 := (S4.trans d1).trans d2
      obtain ⟨dpe, epe⟩ := hp.same S5
      obtain ⟨tv, tv1, tv2⟩ := ty_num T (hv.same S5)
      refine ⟨dpe, _, epe, tv, tv1, tv2, p, v, low x y, rfl, hp.same S5, .inl ⟨low u t, hv.same S5, yy, fun D3 d3 => ?_⟩⟩
      refine ⟨_, rfl, _, rfl, ?_⟩
      rw [if_neg (fun q => q rfl)]
      refine ⟨mulW sx st, mulW su sy, mulW sy st, _, _, rfl, Int.mul_ne_zero hy ht, sub4 sx st su sy, mul4 sy st, fun l3 D4 d4 hl3 => ?_⟩
      simp only [hl3, tSeq, tAsg, gName, tC, tVar, tOp, tUn, tTest, tB, tAnd, tOr, tNot, tIf, tIfS, tRet, tDrop, tNext, tCB, tCons, tNil, tSl, tPart, tNoPart, tAug, ipI, rI0, rI, rU, tLst, tTup, tBM, rAppend, tCall, tPar, tPar3, gTup, gCons, gNil, tMkO, tMkO0, tCallS, WE, wAs, wOnly, tXf, tMake, tMakeK, tMeth, tProp, rOwn, rOwnEq, tFld, sFld, tFmt, tJs, rIxS, rIxLT, rIxTT, rLenLT, rLenTT, gSub, rSetL, Wk.ixN_0, Wk.ixN_1, Wk.ixN_2, Wk.cxK, Wk.cxKn, Wk.atI_lits, upd_same, HO.lst.injEq, HO.tup.injEq, rSlS, rEq, rNe, scal, tChain, tYes, tAndV, tOrV, tNotV, tM1, L2.start,
  List.map_nil, List.map_cons, List.replicate, List.length_cons, List.length_nil, List.cons_append, List.nil_append, List.getElem?_cons_zero, List.getElem?_cons_succ, List.set_cons_zero, List.set_cons_succ, Option.some.injEq, V.int.injEq, V.str.injEq, V.ref.injEq, V.bl.injEq, List.cons.injEq, and_true, true_and, and_assoc, exists_eq_left', exists_eq_left, exists_and_left, Wk.one_inj, Wk.atI_eq, Bool.false_eq_true, if_false, if_true, Bool.not_false, Bool.not_true, Bool.not_eq_true', decide_eq_false_iff_not, decide_eq_true_eq]
      have S6 : Same H D4 := (S5.trans d3).trans d4
      obtain ⟨dpf, epf⟩ := hp.same S6
      simp only [epf, HO.ins.injEq, tSeq, tAsg, gName, tC, tVar, tOp, tUn, tTest, tB, tAnd, tOr, tNot, tIf, tIfS, tRet, tDrop, tNext, tCB, tCons, tNil, tSl, tPart, tNoPart, tAug, ipI, rI0, rI, rU, tLst, tTup, tBM, rAppend, tCall, tPar, tPar3, gTup, gCons, gNil, tMkO, tMkO0, tCallS, WE, wAs, wOnly, tXf, tMake, tMakeK, tMeth, tProp, rOwn, rOwnEq, tFld, sFld, tFmt, tJs, rIxS, rIxLT, rIxTT, rLenLT, rLenTT, gSub, rSetL, Wk.ixN_0, Wk.ixN_1, Wk.ixN_2, Wk.cxK, Wk.cxKn, Wk.atI_lits, upd_same, HO.lst.injEq, HO.tup.injEq, rSlS, rEq, rNe, scal, tChain, tYes, tAndV, tOrV, tNotV, tM1, L2.start,
  List.map_nil, List.map_cons, List.replicate, List.length_cons, List.length_nil, List.cons_append, List.nil_append, List.getElem?_cons_zero, List.getElem?_cons_succ, List.set_cons_zero, List.set_cons_succ, Option.some.injEq, V.int.injEq, V.str.injEq, V.ref.injEq, V.bl.injEq, List.cons.injEq, and_true, true_and, and_assoc, exists_eq_left', exists_eq_left, exists_and_left, Wk.one_inj, Wk.atI_eq, Bool.false_eq_true, if_false, if_true, Bool.not_false, Bool.not_true, Bool.not_eq_true', decide_eq_false_iff_not, decide_eq_true_eq]
      refine ⟨rf_no _ _ (by decide +kernel) (by decide +kernel), p, v, low x y, low u t, rfl, hp.same S6, hv.same S6, zz, yy, fun D7 d7 => ⟨_, rfl, ?_⟩⟩
      rw [if_pos ?_]
      · refine ⟨p, low x y, rfl, (hp.same S6).same d7, fun r8 D8 d8 hr8 => ⟨x, y, rfl, hy, pow_le sx (by decide), pow_le sy (by decide), fun r9 D9 d9 hr9 => ?_⟩⟩
        refine eq_pair (d9 _ _ hr8) hr9 ?_
        rw [decide_eq_true rfl, decide_eq_true rfl]
        exact k D9 (((S6.trans d7).trans d8).trans d9)
      · by_cases hl : (low (x * t - u * y) (y * t)).1 < 0
        · rw [if_pos hl, if_pos (decide_eq_true ((low_less hy ht).mp hl))]
        · rw [if_neg hl, if_neg]
          intro q
          exact hl ((low_less hy ht).mpr (of_decide_eq_true q))
/-- a pair that the law draws -/
def PairV (n : Nat) (H : Hp) (v : V) : Prop := ∃ (q : Addr) (x y : Int), v = .ref q ∧ H q = some (.tup [.int x, .int y]) ∧ x.natAbs < 2 ^ n ∧ y.natAbs < 2 ^ n ∧ y ≠ 0
theorem PairV.to {n m : Nat} {H H' : Hp} {v : V} (h : PairV n H v) (e : TSame H H') (l : n ≤ m) : PairV m H' v := by
  obtain ⟨q, x, y, h1, h2, h3, h4, h5⟩ := h
  exact ⟨q, x, y, h1, e _ _ h2, pow_le h3 l, pow_le h4 l, h5⟩
theorem TSame.keep {H H' : Hp} {p : Addr} {n : Nat} (h : Box H p n) (k : Keep p H H') : TSame H H' := fun q xs e => by
  obtain ⟨_, _, _, h1, _⟩ := h
  exact k q _ (ne_of e h1 (by intro z; cases z)) e
theorem Box.upd {H : Hp} {p l : Addr} {n : Nat} {o : HO} (h : Box H p n) (ne : p ≠ l) : Box (upd H l o) p n := by
  obtain ⟨b0, b1, b2, h1, h2⟩ := h
  exact ⟨b0, b1, b2, by rw [upd_ne ne]; exact h1, h2⟩
theorem three {x : Int} (h : x.natAbs < 2 ^ 97) : (x * 3).natAbs < 2 ^ 100 := mul_size (n := 97) (m := 3) h (by decide)
theorem RatAt.keep {C p q : Addr} {H H' : Hp} {n : Nat} {z : Int × Int} (h : RatAt C H q z) (bx : Box H p n) (k : Keep p H H') : RatAt C H' q z := by
  obtain ⟨dx, h⟩ := h
  obtain ⟨_, _, _, h1, _⟩ := bx
  exact ⟨dx, k _ _ (ne_of h h1 (by intro z; cases z)) h⟩
theorem pickV {vs : List V} {d : Int} (h0 : 0 ≤ d) (h1 : d < vs.length) : ∃ v, v ∈ vs ∧ atI vs d = some v := by
  obtain ⟨n, rfl⟩ := Int.eq_ofNat_of_zero_le h0
  have hn : n < vs.length := by omega
  exact ⟨vs[n], List.getElem_mem hn, by rw [atI_eq, List.getElem?_eq_getElem hn]⟩
/-- a quotient made here, beside an integer -/
theorem made_eq (T : Txt K mg a) {H : Hp} {t b u : Int} {R : VK} (hb : b ≠ 0) (s1 : t.natAbs < 2 ^ 100) (s2 : b.natAbs < 2 ^ 100) (s3 : u.natAbs < 2 ^ 100) (k : ∀ H', Same H H' → R (.bl (decide ((low t b).1 = u) && decide ((low t b).2 = 1))) H') :
    ∀ x dx, H x = none → H dx = none → dx ≠ x → sp_init a.C_Ratio a.C_ByZero [V.ref x, V.int t, V.int b] (upd (upd H dx (.own x)) x (.ins a.C_Ratio dx []))
      (fun v H2 => v = V.non ∧ ∃ x_1 x_2, H2 x = some (.ins a.C_Ratio x_1 x_2) ∧ ∃ x_3, TyX K H2 (V.int u) x_3 ∧ PySem.W.notFirst K a.C_Ratio x_3 = true ∧ sp_eq K a.C_Ratio [V.ref x, V.int u] H2 R E0) E0 := by
  intro x dx hx hdx ne
  obtain ⟨e1, e2⟩ := rat_new (C := a.C_Ratio) (z := low t b) hx hdx ne
  refine ⟨x, dx, t, b, rfl, upd_same, pow_le s1 (by decide), pow_le s2 (by decide), fun _ => ⟨rfl, _, _, upd_same, _, .base (.int _), T.nf_int, x, _, low t b, rfl, e2, .inl ⟨(u, 1), .inr ⟨u, rfl, rfl⟩, ⟨s3, (show (1 : Int).natAbs < 2 ^ 100 by decide), (show (0 : Int) < 1 by decide)⟩, fun H' s' => k H' (e1.trans s')⟩⟩, fun z => absurd z hb⟩
/-- a quotient made here, beside no number -/
theorem made_ne (T : Txt K mg a) {H : Hp} {t b : Int} {u : V} {R : VK} (hb : b ≠ 0) (s1 : t.natAbs < 2 ^ 100) (s2 : b.natAbs < 2 ^ 100) (hv : ∀ H', Same H H' → ∃ t, TyX K H' u t ∧ PySem.W.notFirst K a.C_Ratio t = true ∧ NotNum K a.C_Ratio H' u) (k : ∀ H', Same H H' → R (.bl false) H') :
    ∀ x dx, H x = none → H dx = none → dx ≠ x → sp_init a.C_Ratio a.C_ByZero [V.ref x, V.int t, V.int b] (upd (upd H dx (.own x)) x (.ins a.C_Ratio dx []))
      (fun v H2 => v = V.non ∧ ∃ x_1 x_2, H2 x = some (.ins a.C_Ratio x_1 x_2) ∧ ∃ x_3, TyX K H2 u x_3 ∧ PySem.W.notFirst K a.C_Ratio x_3 = true ∧ sp_eq K a.C_Ratio [V.ref x, u] H2 R E0) E0 := by
  intro x dx hx hdx ne
  obtain ⟨e1, e2⟩ := rat_new (C := a.C_Ratio) (z := low t b) hx hdx ne
  obtain ⟨ty, ht1, ht2, ht3⟩ := hv _ e1
  refine ⟨x, dx, t, b, rfl, upd_same, pow_le s1 (by decide), pow_le s2 (by decide), fun _ => ⟨rfl, _, _, upd_same, ty, ht1, ht2, x, _, low t b, rfl, e2, .inr ⟨ht3, k _ e1⟩⟩, fun z => absurd z hb⟩
theorem odd_ok (T : Txt K mg a) {H : Hp} {v : V} (h : v = .bl true ∨ v = .non ∨ (∃ z, v = .str z) ∨ (∃ p xs, v = .ref p ∧ H p = some (.tup xs)) ∨ (∃ p xs, v = .ref p ∧ H p = some (.lst xs)) ∨ (∃ p xs, v = .ref p ∧ H p = some (.dK xs))) :
    ∃ t, TyX K H v t ∧ PySem.W.notFirst K a.C_Ratio t = true ∧ NotNum K a.C_Ratio H v := by
  rcases h with rfl | rfl | ⟨z, rfl⟩ | ⟨p, xs, rfl, e⟩ | ⟨p, xs, rfl, e⟩ | ⟨p, xs, rfl, e⟩
  · exact ⟨_, .base (.bl _), T.nf_bool, _, true, .base (.bl _), kit_ty (by decide +kernel), fun _ => kit_ty (by decide +kernel), T.ki_bool⟩
  · exact ⟨_, .base .non, T.nf_none, _, false, .base .non, kit_ty (by decide +kernel), fun q => Bool.noConfusion q, T.ki_none⟩
  · exact ⟨_, .base (.str _), T.nf_str, _, false, .base (.str _), kit_ty (by decide +kernel), fun q => Bool.noConfusion q, T.ki_str⟩
  · exact ⟨_, .base (.tup e), T.nf_tuple, _, false, .base (.tup e), kit_ty (by decide +kernel), fun q => Bool.noConfusion q, T.ki_tuple⟩
  · exact ⟨_, .base (.lst e), T.nf_list, _, false, .base (.lst e), kit_ty (by decide +kernel), fun q => Bool.noConfusion q, T.ki_list⟩
  · exact ⟨_, .base (.dK e), T.nf_dict, _, false, .base (.dK e), kit_ty (by decide +kernel), fun q => Bool.noConfusion q, T.ki_dict⟩
def sp_law (K : PySem.W.Frag) : Sp := fun vs H Q _ => ∃ (p : Addr) (ns : List Int), vs = [.ref p] ∧ SqL K H p (ns.map V.int) ∧ ns.length ≤ 63 ∧ ∀ H', Q (.bl true) H'
theorem ok_law (T : Txt K mg a) : FnOk P w K mg base CX0 19 a.f_law a.d_law ["_law_script"] (sp_law K) := by
  have O_l_cell : FnOk P w K mg base CX0 _ _ _ _ _ := ok_l_cell T
  have O_l_box : FnOk P w K mg base CX0 _ _ _ _ _ := ok_l_box T
  have O_l_take : FnOk P w K mg base CX0 _ _ _ _ _ := ok_l_take T
  have O_l_pair : FnOk P w K mg base CX0 _ _ _ _ _ := ok_l_pair T
  have O_l_number : FnOk P w K mg base CX0 _ _ _ _ _ := ok_l_number T
  have O_l_text : FnOk P w K mg base CX0 _ _ _ _ _ := ok_l_text T
  have O_l_told : FnOk P w K mg base CX0 _ _ _ _ _ := ok_l_told T
  have O_l_low : FnOk P w K mg base CX0 _ _ _ _ _ := ok_l_low T
  have O_l_two_right : FnOk P w K mg base CX0 _ _ _ _ _ := ok_two T
  have O_l_refused : FnOk P w K mg base CX0 _ _ _ _ _ := ok_l_refused T
  have O_Ratio_init : FnOk P w K mg base (L2.CX P w) _ _ _ _ _ := ok_init T
  have O_Ratio_eq : FnOk P w K mg base CX0 _ _ _ _ _ := ok_eq T
  have O_Ratio_written : FnOk P w K mg base CX0 _ _ _ _ _ := ok_written T
  obtain ⟨ds1, v1_Ratio, b1_Ratio⟩ := (binds2 T).b1
  obtain ⟨ds2, v2_Ratio, b2_Ratio⟩ := (binds2 T).b2
  have bk_Ratio := (binds2 T).bk
  refine T.h_law.F.ok sc_law (fun vs H Q E h => ?_) (fun cdv A outer s H vs Q E hr h => ?_)
  · obtain ⟨p, ns, rfl, _⟩ := h
    rfl
  · obtain ⟨p, ns, rfl, hS, hlen, k⟩ := h
    refine ⟨_, (pss_cons (ps_for PassesOwn.never rfl (pi_range1 rfl T.z_range (pa_cons (pe_callB (call_max2 rfl) (by rfl) T.z_max (by decide +kernel) (pa_cons pe_int (pa_cons (pe_callB (call_min2 rfl) (by rfl) T.z_min (by decide +kernel) (pa_cons pe_int (pa_cons (pe_callB call_len_seq (by rfl) T.z_len (by decide +kernel) (pa_cons (pv 0) (pa_nil))) (pa_nil)))) (pa_nil)))) (pa_nil))) (pg_name (i := 1) sc_law.nd rfl (.inl rfl)) (pss_cons (ps_set (i := 2) sc_law.nd rfl (.inr rfl) (pe_call O_l_box (hr.mono (by decide)) rfl T.h_l_box.g T.h_l_box.F.kp T.b_l_box .nil pass0 (pa_cons (pe_call O_l_cell (hr.mono (by decide)) rfl T.h_l_cell.g T.h_l_cell.F.kp T.b_l_cell .nil pass0 (pa_cons (pv 0) (pa_cons (pv 1) (pa_nil)))) (pa_nil))))
  (pss_cons (ps_setLc (i := 3) (own := [("_law_turn", 4)]) (g := gName 4) (tt := tYes) rfl sc_law.nd rfl rfl (sw_true rfl rfl rfl (by decide +kernel)) (pi_range1 rfl T.z_range (pa_cons pe_int (pa_nil))) (blkOk_by (own := [("_law_turn", 4)]) (N := ["_law_script", "_law_k", "_law_box_here", "_law_pairs", "_law_turn", "_law_first", "_law_second", "_law_one", "_law_other", "_law_whole", "_law_odd"]) (sc := defScope s_law) (by decide +kernel)) (fun _ _ _ _ _ => pg_name (i := 4) sc_law.nd rfl (Or.inl rfl)) (fun _ _ _ _ _ => pts_nil) (fun _ _ _ _ _ => (pe_call O_l_pair (hr.mono (by decide)) rfl T.h_l_pair.g T.h_l_pair.F.kp T.b_l_pair .nil pass0 (pa_cons (pv 2) (pa_nil)))))
  (pss_cons (ps_expr (pe_bm PySem.F.plainAttrs_list PySem.F.slot_list_append PySem.F.type_list_append mt_append (pv 3) (pa_cons (pe_tup (pa_cons (pe_op op_mulW (pe_ix Wk.ix_tupT (pe_ix Wk.ix_listT (pv 3) pe_int (fun _ _ => rfl)) pe_int (fun _ _ => rfl)) pe_int) (pa_cons (pe_op op_mulW (pe_ix Wk.ix_tupT (pe_ix Wk.ix_listT (pv 3) pe_int (fun _ _ => rfl)) pe_int (fun _ _ => rfl)) pe_int) (pa_nil)))) (pa_nil))))
  (pss_cons (ps_for PassesOwn.never rfl (pi_range1 rfl T.z_range (pa_cons pe_int (pa_nil))) (pg_name (i := 4) sc_law.nd rfl (.inl rfl)) (pss_cons (ps_par (i := 5) (j := 6) (by rfl) sc_law.nd rfl rfl (by decide) rfl rfl (pa_cons (pe_ix Wk.ix_listT (pv 3) (pe_call O_l_take (hr.mono (by decide)) rfl T.h_l_take.g T.h_l_take.F.kp T.b_l_take .nil pass0 (pa_cons (pv 2) (pa_cons pe_int (pa_nil)))) (fun _ _ => rfl)) (pa_cons (pe_ix Wk.ix_listT (pv 3) (pe_call O_l_take (hr.mono (by decide)) rfl T.h_l_take.g T.h_l_take.F.kp T.b_l_take .nil pass0 (pa_cons (pv 2) (pa_cons pe_int (pa_nil)))) (fun _ _ => rfl)) (pa_nil))) (by rfl))
  (pss_cons (ps_par (i := 7) (j := 8) (by rfl) sc_law.nd rfl rfl (by decide) rfl rfl (pa_cons (pe_make T.mk_Ratio O_Ratio_init (hr.mono (by decide)) rfl T.g_Ratio b2_Ratio v2_Ratio passL (pa_cons (pe_ix Wk.ix_tupT (pv 5) pe_int (fun _ _ => rfl)) (pa_cons (pe_ix Wk.ix_tupT (pv 5) pe_int (fun _ _ => rfl)) (pa_nil)))) (pa_cons (pe_makeK0 T.mk_Ratio O_Ratio_init (hr.mono (by decide)) rfl T.g_Ratio bk_Ratio passL (pk_cons (pe_ix Wk.ix_tupT (pv 6) pe_int (fun _ _ => rfl)) (pk_cons (pe_ix Wk.ix_tupT (pv 6) pe_int (fun _ _ => rfl)) pk_nil))) (pa_nil))) (by rfl))
  (pss_cons (ps_if (pt_cmpR op_ne (pe_meth0 (pv 7) T.cl_Ratio T.m_Ratio_written O_Ratio_written (hr.mono (by decide)) T.b_Ratio_written .nil pass0) (pe_call O_l_text (hr.mono (by decide)) rfl T.h_l_text.g T.h_l_text.F.kp T.b_l_text .nil pass0 (pa_cons (pe_call O_l_low (hr.mono (by decide)) rfl T.h_l_low.g T.h_l_low.F.kp T.b_l_low .nil pass0 (pa_cons (pe_ix Wk.ix_tupT (pv 5) pe_int (fun _ _ => rfl)) (pa_cons (pe_ix Wk.ix_tupT (pv 5) pe_int (fun _ _ => rfl)) (pa_nil)))) (pa_nil))) (nomark _)) (pss_one (ps_ret pe_bl)) pss_nil)
  (pss_cons (ps_if (pt_not (pt_val (pe_call O_l_two_right (hr.mono (by decide)) rfl T.h_l_two_right.g T.h_l_two_right.F.kp T.b_l_two_right .nil pass0 (pa_cons (pv 5) (pa_cons (pv 6) (pa_cons (pv 7) (pa_cons (pv 8) (pa_nil)))))))) (pss_one (ps_ret pe_bl)) pss_nil)
  (pss_cons (ps_set (i := 9) sc_law.nd rfl (.inl rfl) (pe_call O_l_number (hr.mono (by decide)) rfl T.h_l_number.g T.h_l_number.F.kp T.b_l_number .nil pass0 (pa_cons (pv 2) (pa_nil))))
  (pss_one (ps_if (PW.pt (pw_or (pt_not (pt_val (pe_call O_l_two_right (hr.mono (by decide)) rfl T.h_l_two_right.g T.h_l_two_right.F.kp T.b_l_two_right .nil pass0 (pa_cons (pv 5) (pa_cons (pe_tup (pa_cons (pv 9) (pa_cons pe_int (pa_nil)))) (pa_cons (pv 7) (pa_cons (pv 9) (pa_nil)))))))) (pw_or1 (pt_cmpR (op_neD hr.units) (pe_call O_l_told (hr.mono (by decide)) rfl T.h_l_told.g T.h_l_told.F.kp T.b_l_told .nil pass0 (pa_cons (pe_make T.mk_Ratio O_Ratio_init (hr.mono (by decide)) rfl T.g_Ratio b1_Ratio v1_Ratio passL (pa_cons (pv 9) (pa_nil))) (pa_nil))) (pe_tup (pa_cons (pv 9) (pa_cons pe_int (pa_nil)))) (nomark _))))) (pss_one (ps_ret pe_bl)) pss_nil))))))))
  (pss_cons (ps_if (pt_not (pt_val (pe_call O_l_refused (hr.mono (by decide)) rfl T.h_l_refused.g T.h_l_refused.F.kp T.b_l_refused .nil pass0 (pa_cons (pe_call O_l_number (hr.mono (by decide)) rfl T.h_l_number.g T.h_l_number.F.kp T.b_l_number .nil pass0 (pa_cons (pv 2) (pa_nil))) (pa_nil))))) (pss_one (ps_ret pe_bl)) pss_nil)
  (pss_cons (ps_if (PW.pt (pw_or (pt_cmpR (Wk.op_ownEqK rfl T.m_Ratio_eq.at_ T.m_Ratio_eq.fn O_Ratio_eq (hr.mono (by decide)) T.b_Ratio_eq pass0) (pe_make T.mk_Ratio O_Ratio_init (hr.mono (by decide)) rfl T.g_Ratio b1_Ratio v1_Ratio passL (pa_cons pe_int (pa_nil))) pe_int (nomark _)) (pw_or (pt_cmpR (Wk.op_ownEqK rfl T.m_Ratio_eq.at_ T.m_Ratio_eq.fn O_Ratio_eq (hr.mono (by decide)) T.b_Ratio_eq pass0) (pe_make T.mk_Ratio O_Ratio_init (hr.mono (by decide)) rfl T.g_Ratio b2_Ratio v2_Ratio passL (pa_cons pe_int (pa_cons pe_int (pa_nil)))) pe_int (nomark _)) (pw_or1 (pt_not (pt_cmpR (Wk.op_ownEqK rfl T.m_Ratio_eq.at_ T.m_Ratio_eq.fn O_Ratio_eq (hr.mono (by decide)) T.b_Ratio_eq pass0) (pe_make T.mk_Ratio O_Ratio_init (hr.mono (by decide)) rfl T.g_Ratio b2_Ratio v2_Ratio passL (pa_cons pe_int (pa_cons pe_int (pa_nil)))) pe_int (nomark _))))))) (pss_one (ps_ret pe_bl)) pss_nil)
  (pss_one (ps_if (pt_cmpR (op_neD hr.units) (pe_lc (own := [("_law_odd", 10)]) (g := gName 10) rfl sc_law.nd (pi_list (pe_lst (pa_cons pe_bl (pa_cons pe_non (pa_cons pe_str (pa_cons (pe_tup (pa_cons pe_int (pa_cons pe_int (pa_nil)))) (pa_cons (pe_lst (pa_cons pe_int (pa_nil))) (pa_cons pe_dnewK (pa_nil))))))))) (blkOk_by (own := [("_law_odd", 10)]) (N := ["_law_script", "_law_k", "_law_box_here", "_law_pairs", "_law_turn", "_law_first", "_law_second", "_law_one", "_law_other", "_law_whole", "_law_odd"]) (sc := defScope s_law) (by decide +kernel)) (fun _ _ _ _ _ => pg_name (i := 10) sc_law.nd rfl (Or.inl rfl)) (fun _ _ _ _ _ => (pts_one (pt_cmpR (Wk.op_ownEqK rfl T.m_Ratio_eq.at_ T.m_Ratio_eq.fn O_Ratio_eq (hr.mono (by decide)) T.b_Ratio_eq pass0) (pe_make T.mk_Ratio O_Ratio_init (hr.mono (by decide)) rfl T.g_Ratio b1_Ratio v1_Ratio passL (pa_cons pe_int (pa_nil))) (pv 10) (nomark _)))) (fun _ _ _ _ _ => (pv 10))) (pe_lst (pa_nil)) (nomark _)) (pss_one (ps_ret pe_bl)) pss_nil)))))))))
  (pss_one (ps_ret pe_bl))), ?_⟩
    walk_at "rd"
    refine for_hide fun tb D htb hD => ?_
    unfold tFor iRng1
    walk_at "rd"
    refine ⟨_, .inl hS, ?_⟩
    rw [List.length_map]
    generalize hN : (if (if (ns.length : Int) < 6 then (ns.length : Int) else 6) > 2 then (if (ns.length : Int) < 6 then (ns.length : Int) else 6) else 2) = N
    have hN1 : 0 ≤ N ∧ N ≤ 6 := by
      rw [← hN]
      split <;> split <;> omega
    refine ⟨by omega, by omega, ?_⟩
    refine for_range (lo := 0) (n := N.toNat) (g := gName 1) (tb := tb) (D := D) (fun i σ H' => ∃ x1 x2 x3 x4 x5 x6 x7 x8 x9 x10 : Option V, σ = [some (.ref p), x1, x2, x3, x4, x5, x6, x7, x8, x9, x10] ∧ Same H H') ⟨none, none, none, none, none, none, none, none, none, none, rfl, Same.refl H⟩ ?_ ?_
    · rintro i σ H1 hi ⟨x1, x2, x3, x4, x5, x6, x7, x8, x9, x10, rfl, s1⟩
      rw [htb]
      walk_at "rd"
      refine ⟨p, ns, i, by rw [Int.zero_add], s1.seq hS, by omega, fun n => ⟨n, rfl, fun H2 b s2 hb bx => ?_⟩⟩
      refine lc_hide fun g' tt' te' Q' hg' htt' hte' hQ' => ?_
      unfold tLc iRng1
      walk_at "rd"
      refine ⟨by decide, by decide, fun l hl => ?_⟩
      have hb2 : ∃ o, H2 b = some o := by
        obtain ⟨_, _, _, h1, _⟩ := bx
        exact ⟨_, h1⟩
      have nbl : b ≠ l := fun q => by
        obtain ⟨o, ho⟩ := hb2
        rw [q, hl] at ho
        cases ho
      have hl1 : H1 l = none := s2.free hl
      refine lc_range (lo := 0) (n := Int.toNat 4) (g := g') (tt := tt') (te := te') (vs := [4]) (fun j H' => ∃ acc, H' l = some (.lst acc) ∧ acc.length = j ∧ (∀ v ∈ acc, PairV 97 H' v) ∧ Box H' b (6 * j) ∧ Same H1 H') ⟨[], upd_same, rfl, (by intro v hv; cases hv), bx.upd nbl, Same.mut s2 hl1⟩ ?_ ?_
      · rintro j H3 hj ⟨acc, h1, h2, h3, h4, h5⟩
        have hj4 : j < 4 := hj
        rw [hg', htt', hte']
        simp only [wipe]
        walk_at "rd"
        refine ⟨b, 6 * j, rfl, h4, by omega, fun q x y H4 hx hy hy0 kp bx4 hq => ?_⟩
        have ts := TSame.keep h4 kp
        have s4 : Same H1 H4 := Keep.same kp h5 hb
        have h1' : H4 l = some (.lst acc) := kp _ _ (Ne.symm nbl) h1
        refine ⟨acc, h1', sz_lt (by omega), by simp [h2], ?_, (bx4.more (by omega)).upd nbl, Same.mut s4 hl1⟩
        intro v hv
        rcases List.mem_append.mp hv with hv | hv
        · exact ((h3 v hv).to ts (Nat.le_refl _)).to (.lst h1') (Nat.le_refl _)
        · obtain rfl : v = .ref q := by simpa using hv
          exact ⟨q, x, y, rfl, (TSame.lst h1') _ _ hq, hx, hy, hy0⟩
      · rintro H3 ⟨acc, h1, h2, h3, h4, h5⟩
        have h2' : acc.length = 4 := h2
        match acc, h2' with
        | [v0, v1, v2, v3], _ =>
        obtain ⟨q0, x0, y0, rfl, e0, bx0, by0, ny0⟩ := h3 v0 (by simp)
        rw [hQ']
        simp only [h1, e0, tSeq, tAsg, gName, tC, tVar, tOp, tUn, tTest, tB, tAnd, tOr, tNot, tIf, tIfS, tRet, tDrop, tNext, tCB, tCons, tNil, tSl, tPart, tNoPart, tAug, ipI, rI0, rI, rU, tLst, tTup, tBM, rAppend, tCall, tPar, tPar3, gTup, gCons, gNil, tMkO, tMkO0, tCallS, WE, wAs, wOnly, tXf, tMake, tMakeK, tMeth, tProp, rOwn, rOwnEq, tFld, sFld, tFmt, tJs, rIxS, rIxLT, rIxTT, rLenLT, rLenTT, gSub, rSetL, Wk.ixN_0, Wk.ixN_1, Wk.ixN_2, Wk.cxK, Wk.cxKn, Wk.atI_lits, upd_same, HO.lst.injEq, HO.tup.injEq, rSlS, rEq, rNe, scal, tChain, tYes, tAndV, tOrV, tNotV, tM1, L2.start,
  List.map_nil, List.map_cons, List.replicate, List.length_cons, List.length_nil, List.cons_append, List.nil_append, List.getElem?_cons_zero, List.getElem?_cons_succ, List.set_cons_zero, List.set_cons_succ, Option.some.injEq, V.int.injEq, V.str.injEq, V.ref.injEq, V.bl.injEq, List.cons.injEq, and_true, true_and, and_assoc, exists_eq_left', exists_eq_left, exists_and_left, Wk.one_inj, Wk.atI_eq, Bool.false_eq_true, if_false, if_true, Bool.not_false, Bool.not_true, Bool.not_eq_true', decide_eq_false_iff_not, decide_eq_true_eq]
        refine ⟨.inl ⟨rfl, _, SqL.of h1⟩, mulW (pow_le bx0 (by decide)) (by decide), mulW (pow_le by0 (by decide)) (by decide), by decide, fun q5 hq5 => ⟨_, Same.new hq5 _ _ h1, sz_lt (show 4 < 100000 by decide), ?_⟩⟩
        have e5 : Same H3 (upd H3 q5 (HO.tup [V.int (x0 * 3), V.int (y0 * 3)])) := Same.new hq5
        have ts5 := (TSame.of e5).trans (TSame.lst (ws := [V.ref q0, v1, v2, v3] ++ [V.ref q5]) (e5 _ _ h1))
        have s5 : Same H1 (upd (upd H3 q5 (HO.tup [V.int (x0 * 3), V.int (y0 * 3)])) l (HO.lst ([V.ref q0, v1, v2, v3] ++ [V.ref q5]))) := Same.mut (h5.trans e5) hl1
        have b5 : Box (upd (upd H3 q5 (HO.tup [V.int (x0 * 3), V.int (y0 * 3)])) l (HO.lst ([V.ref q0, v1, v2, v3] ++ [V.ref q5]))) b 24 := (h4.same e5).upd nbl
        have p5 : ∀ v ∈ [V.ref q0, v1, v2, v3] ++ [V.ref q5], PairV 100 (upd (upd H3 q5 (HO.tup [V.int (x0 * 3), V.int (y0 * 3)])) l (HO.lst ([V.ref q0, v1, v2, v3] ++ [V.ref q5]))) v := by
          intro v hv
          rcases List.mem_append.mp hv with hv | hv
          · exact (h3 v hv).to ts5 (by decide)
          · obtain rfl : v = .ref q5 := by simpa using hv
            exact ⟨q5, _, _, rfl, (TSame.lst (e5 _ _ h1)) _ _ upd_same, three bx0, three by0, Int.mul_ne_zero ny0 (by decide)⟩
        have l5 : ([V.ref q0, v1, v2, v3] ++ [V.ref q5]).length = 5 := rfl
        have a5 : (upd (upd H3 q5 (HO.tup [V.int (x0 * 3), V.int (y0 * 3)])) l (HO.lst ([V.ref q0, v1, v2, v3] ++ [V.ref q5]))) l = some (HO.lst ([V.ref q0, v1, v2, v3] ++ [V.ref q5])) := upd_same
        generalize (upd (upd H3 q5 (HO.tup [V.int (x0 * 3), V.int (y0 * 3)])) l (HO.lst ([V.ref q0, v1, v2, v3] ++ [V.ref q5]))) = H5 at *
        generalize [V.ref q0, v1, v2, v3] ++ [V.ref q5] = vs5 at *
        refine for_hide fun tb2 D2 htb2 hD2 => ?_
        unfold tFor iRng1
        walk_at "rd"
        refine ⟨by decide, by decide, ?_⟩
        refine for_range (lo := 0) (n := Int.toNat 5) (g := gName 4) (tb := tb2) (D := D2) (fun j σ H' => ∃ y4 y5 y6 y7 y8 y9 y10 : Option V, σ = [some (.ref p), some (.int (0 + i)), some (.ref b), some (.ref l), y4, y5, y6, y7, y8, y9, y10] ∧ Same H1 H' ∧ H' l = some (.lst vs5) ∧ (∀ v ∈ vs5, PairV 100 H' v) ∧ Box H' b (24 + 10 * j))
          ⟨_, _, _, _, _, _, _, rfl, s5, a5, p5, b5⟩ ?_ ?_
        · rintro j σ H6 hj ⟨y4, y5, y6, y7, y8, y9, y10, rfl, s6, a6, p6, b6⟩
          have hj5 : j < 5 := hj
          rw [htb2]
          walk_at "rd"
          refine ⟨b, _, 5, rfl, b6, by omega, by decide, by decide, fun d1 A1 d10 d11 kp1 bx1 => ?_⟩
          obtain ⟨w1, m1, g1⟩ := pickV (vs := vs5) d10 (by rw [l5]; exact d11)
          walk_at "rd"
          refine ⟨_, kp1 _ _ (Ne.symm nbl) a6, _, g1, ?_⟩
          refine ⟨b, _, 5, rfl, bx1, by omega, by decide, by decide, fun d2 A2 d20 d21 kp2 bx2 => ?_⟩
          obtain ⟨w2, m2, g2⟩ := pickV (vs := vs5) d20 (by rw [l5]; exact d21)
          have kp := Keep.trans kp1 kp2
          have tA := TSame.keep b6 kp
          have aA : A2 l = some (.lst vs5) := kp _ _ (Ne.symm nbl) a6
          walk_at "rd"
          refine ⟨_, aA, _, g2, ?_⟩
          obtain ⟨f, x, y, rfl, hf, sx, sy, ny⟩ := (p6 w1 m1).to tA (Nat.le_refl _)
          obtain ⟨g, u, t, rfl, hg, su, st, nt⟩ := (p6 w2 m2).to tA (Nat.le_refl _)
          have sA : Same H1 A2 := Keep.same kp s6 hb
          simp only [hf, hg, tSeq, tAsg, gName, tC, tVar, tOp, tUn, tTest, tB, tAnd, tOr, tNot, tIf, tIfS, tRet, tDrop, tNext, tCB, tCons, tNil, tSl, tPart, tNoPart, tAug, ipI, rI0, rI, rU, tLst, tTup, tBM, rAppend, tCall, tPar, tPar3, gTup, gCons, gNil, tMkO, tMkO0, tCallS, WE, wAs, wOnly, tXf, tMake, tMakeK, tMeth, tProp, rOwn, rOwnEq, tFld, sFld, tFmt, tJs, rIxS, rIxLT, rIxTT, rLenLT, rLenTT, gSub, rSetL, Wk.ixN_0, Wk.ixN_1, Wk.ixN_2, Wk.cxK, Wk.cxKn, Wk.atI_lits, upd_same, HO.lst.injEq, HO.tup.injEq, rSlS, rEq, rNe, scal, tChain, tYes, tAndV, tOrV, tNotV, tM1, L2.start,
  List.map_nil, List.map_cons, List.replicate, List.length_cons, List.length_nil, List.cons_append, List.nil_append, List.getElem?_cons_zero, List.getElem?_cons_succ, List.set_cons_zero, List.set_cons_succ, Option.some.injEq, V.int.injEq, V.str.injEq, V.ref.injEq, V.bl.injEq, List.cons.injEq, and_true, true_and, and_assoc, exists_eq_left', exists_eq_left, exists_and_left, Wk.one_inj, Wk.atI_eq, Bool.false_eq_true, if_false, if_true, Bool.not_false, Bool.not_true, Bool.not_eq_true', decide_eq_false_iff_not, decide_eq_true_eq]
          intro r1 e1 n1 m1 k1
          obtain ⟨S1, R1⟩ := rat_new (C := a.C_Ratio) (z := low x y) n1 m1 k1
          refine ⟨r1, e1, x, y, rfl, upd_same, pow_le sx (by decide), pow_le sy (by decide), fun _ => ⟨rfl, ?_⟩, fun z => absurd z ny⟩
          generalize (upd (upd (upd A2 e1 (HO.own r1)) r1 (HO.ins a.C_Ratio e1 [])) r1 (HO.ins a.C_Ratio e1 (rf (low x y).1 (low x y).2))) = B1 at *
          have hg1 := S1 _ _ hg
          simp only [hg1, tSeq, tAsg, gName, tC, tVar, tOp, tUn, tTest, tB, tAnd, tOr, tNot, tIf, tIfS, tRet, tDrop, tNext, tCB, tCons, tNil, tSl, tPart, tNoPart, tAug, ipI, rI0, rI, rU, tLst, tTup, tBM, rAppend, tCall, tPar, tPar3, gTup, gCons, gNil, tMkO, tMkO0, tCallS, WE, wAs, wOnly, tXf, tMake, tMakeK, tMeth, tProp, rOwn, rOwnEq, tFld, sFld, tFmt, tJs, rIxS, rIxLT, rIxTT, rLenLT, rLenTT, gSub, rSetL, Wk.ixN_0, Wk.ixN_1, Wk.ixN_2, Wk.cxK, Wk.cxKn, Wk.atI_lits, upd_same, HO.lst.injEq, HO.tup.injEq, rSlS, rEq, rNe, scal, tChain, tYes, tAndV, tOrV, tNotV, tM1, L2.start,
  List.map_nil, List.map_cons, List.replicate, List.length_cons, List.length_nil, List.cons_append, List.nil_append, List.getElem?_cons_zero, List.getElem?_cons_succ, List.set_cons_zero, List.set_cons_succ, Option.some.injEq, V.int.injEq, V.str.injEq, V.ref.injEq, V.bl.injEq, List.cons.injEq, and_true, true_and, and_assoc, exists_eq_left', exists_eq_left, exists_and_left, Wk.one_inj, Wk.atI_eq, Bool.false_eq_true, if_false, if_true, Bool.not_false, Bool.not_true, Bool.not_eq_true', decide_eq_false_iff_not, decide_eq_true_eq]
          intro r2 e2 n2 m2 k2
          obtain ⟨S2, R2⟩ := rat_new (C := a.C_Ratio) (z := low u t) n2 m2 k2
          refine ⟨r2, e2, u, t, rfl, upd_same, pow_le su (by decide), pow_le st (by decide), fun _ => ⟨rfl, ?_⟩, fun z => absurd z nt⟩
          generalize (upd (upd (upd B1 e2 (HO.own r2)) r2 (HO.ins a.C_Ratio e2 [])) r2 (HO.ins a.C_Ratio e2 (rf (low u t).1 (low u t).2))) = B2 at *
          have R1' := R1.same S2
          obtain ⟨dp, ep⟩ := R1'
          have sxy := small_low ny sx sy
          have sut := small_low nt su st
          refine ⟨dp, _, ep, rf_no _ _ (by decide +kernel) (by decide +kernel), r1, low x y, rfl, ⟨dp, ep⟩, sxy, ?_⟩
          have hf2 := S2 _ _ (S1 _ _ hf)
          simp only [hf2, tSeq, tAsg, gName, tC, tVar, tOp, tUn, tTest, tB, tAnd, tOr, tNot, tIf, tIfS, tRet, tDrop, tNext, tCB, tCons, tNil, tSl, tPart, tNoPart, tAug, ipI, rI0, rI, rU, tLst, tTup, tBM, rAppend, tCall, tPar, tPar3, gTup, gCons, gNil, tMkO, tMkO0, tCallS, WE, wAs, wOnly, tXf, tMake, tMakeK, tMeth, tProp, rOwn, rOwnEq, tFld, sFld, tFmt, tJs, rIxS, rIxLT, rIxTT, rLenLT, rLenTT, gSub, rSetL, Wk.ixN_0, Wk.ixN_1, Wk.ixN_2, Wk.cxK, Wk.cxKn, Wk.atI_lits, upd_same, HO.lst.injEq, HO.tup.injEq, rSlS, rEq, rNe, scal, tChain, tYes, tAndV, tOrV, tNotV, tM1, L2.start,
  List.map_nil, List.map_cons, List.replicate, List.length_cons, List.length_nil, List.cons_append, List.nil_append, List.getElem?_cons_zero, List.getElem?_cons_succ, List.set_cons_zero, List.set_cons_succ, Option.some.injEq, V.int.injEq, V.str.injEq, V.ref.injEq, V.bl.injEq, List.cons.injEq, and_true, true_and, and_assoc, exists_eq_left', exists_eq_left, exists_and_left, Wk.one_inj, Wk.atI_eq, Bool.false_eq_true, if_false, if_true, Bool.not_false, Bool.not_true, Bool.not_eq_true', decide_eq_false_iff_not, decide_eq_true_eq]
          refine ⟨x, y, rfl, ny, pow_le sx (by decide), pow_le sy (by decide), fun tq B3 s3 hq3 => ⟨tq, low x y, rfl, hq3, sxy, ?_⟩⟩
          walk_at "rd"
          rw [if_neg (fun q => q trivial)]
          have R13 : RatAt a.C_Ratio B3 r1 (low x y) := RatAt.same ⟨dp, ep⟩ s3
          refine ⟨f, g, r1, .ref r2, x, y, u, t, rfl, s3 _ _ hf2, s3 _ _ (S2 _ _ hg1), ny, nt, sx, sy, su, st, R13, .inl ⟨r2, rfl, R2.same s3⟩, fun B4 s4 => ⟨true, rfl, ?_⟩⟩
          rw [if_neg (by decide)]
          have S24 : Same A2 B4 := ((S1.trans S2).trans s3).trans s4
          have bx4 := bx2.same S24
          refine ⟨b, _, rfl, bx4, by omega, fun w1 B5 hw kp5 bx5 => ⟨by decide, fun q6 hq6 => ?_⟩⟩
          have S56 := Same.new (o := .tup [.int w1, .int 1]) hq6
          have R15 := ((R13.same s4).keep bx4 kp5).same S56
          refine ⟨f, q6, r1, .int w1, x, y, w1, 1, rfl, S56 _ _ (TSame.keep bx4 kp5 _ _ (S24 _ _ hf)), upd_same, ny, by decide, sx, sy, pow_le hw (by decide), by decide, R15, .inr ⟨w1, rfl, low_one w1⟩, fun B7 s7 => ⟨true, rfl, ?_⟩⟩
          rw [if_neg (by decide)]
          intro r3 e3 n3 m3 k3
          obtain ⟨S8, R3⟩ := rat_new (C := a.C_Ratio) (z := low w1 1) n3 m3 k3
          refine ⟨r3, e3, w1, 1, rfl, upd_same, pow_le hw (by decide), by decide, fun _ => ⟨rfl, r3, low w1 1, rfl, R3, fun t7 B8 s8 ht7 => ⟨by decide, fun q9 hq9 => ?_⟩⟩, fun z => absurd z (by decide)⟩
          rw [low_one] at ht7
          refine ne_pair (Same.new hq9 _ _ ht7) upd_same ⟨false, rfl, ?_⟩
          rw [if_neg (by decide)]
          have S59 := (((S56.trans s7).trans S8).trans s8).trans (Same.new (o := .tup [.int w1, .int 1]) hq9)
          have KA := (Keep.trans kp (Keep.of S24)).trans (kp5.trans (Keep.of S59))
          exact ⟨Keep.same KA s6 hb, KA _ _ (Ne.symm nbl) a6, fun v hv => (p6 v hv).to (TSame.keep b6 KA) (Nat.le_refl _), (bx5.same S59).more (by omega)⟩
        · rintro σ H6 ⟨y4, y5, y6, y7, y8, y9, y10, rfl, s6, a6, p6, b6⟩
          rw [hD2]
          walk_at "rd"
          refine ⟨b, _, rfl, b6, by simp, fun x H7 hx7 kp7 bx7 => ⟨x, rfl, hx7, fun H8 s8 => ?_⟩⟩
          have sH8 : Same H1 H8 := (Keep.same kp7 s6 hb).trans s8
          walk_at "rd"
          refine made_eq T (by decide) (by decide) (by decide) (by decide) fun H9 s9 => ⟨_, rfl, ?_⟩
          rw [if_neg (by decide)]
          refine made_eq T (by decide) (by decide) (by decide) (by decide) fun H10 s10 => ⟨_, rfl, ?_⟩
          rw [if_neg (by decide)]
          refine made_eq T (by decide) (by decide) (by decide) (by decide) fun H11 s11 => ⟨_, rfl, ?_⟩
          rw [if_neg (by decide)]
          refine lc_hide fun g' tt' te' Q' hg' htt' hte' hQ' => ?_
          unfold tLc iList tDNewK
          walk_at "rd"
          refine ⟨by decide, fun pt hpt => ⟨by decide, fun pl hpl pd hpd => ⟨by decide, fun po hpo => ?_⟩⟩⟩
          have o1 := Same.new (o := .tup [.int 1, .int 1]) hpt
          have o2 := Same.new (o := .lst [.int 1]) hpl
          have o3 := Same.new (o := .dK []) hpd
          have o4 := Same.new (o := .lst [.bl true, .non, .str (Str.ofString "1"), .ref pt, .ref pl, .ref pd]) hpo
          have f1 : (upd (upd (upd (upd H11 pt (HO.tup [V.int 1, V.int 1])) pl (HO.lst [V.int 1])) pd (HO.dK [])) po (HO.lst [V.bl true, V.non, V.str (Str.ofString "1"), V.ref pt, V.ref pl, V.ref pd])) po = some (HO.lst [V.bl true, V.non, V.str (Str.ofString "1"), V.ref pt, V.ref pl, V.ref pd]) := upd_same
          have f2 := o4 _ _ (o3 _ _ (o2 _ _ (upd_same (H := H11) (a := pt) (o := HO.tup [V.int 1, V.int 1]))))
          have f3 := o4 _ _ (o3 _ _ (upd_same (H := (upd H11 pt (HO.tup [V.int 1, V.int 1]))) (a := pl) (o := HO.lst [V.int 1])))
          have f4 := o4 _ _ (upd_same (H := (upd (upd H11 pt (HO.tup [V.int 1, V.int 1])) pl (HO.lst [V.int 1]))) (a := pd) (o := HO.dK []))
          have sH : Same H1 _ := sH8.trans (s9.trans (s10.trans (s11.trans (o1.trans (o2.trans (o3.trans o4))))))
          generalize (upd (upd (upd (upd H11 pt (HO.tup [V.int 1, V.int 1])) pl (HO.lst [V.int 1])) pd (HO.dK [])) po (HO.lst [V.bl true, V.non, V.str (Str.ofString "1"), V.ref pt, V.ref pl, V.ref pd])) = H12 at *
          refine ⟨⟨_, SqL.of f1⟩, fun z hz => ?_⟩
          refine lc_list (g := g') (tt := tt') (te := te') (vs := [10]) (xs := [V.bl true, V.non, V.str (Str.ofString "1"), V.ref pt, V.ref pl, V.ref pd]) (fun _ H' => Same H12 H' ∧ H' z = some (.lst [])) ⟨Same.new hz, upd_same⟩ (fun _ H' _ h => SqL.of (h.1 _ _ f1)) ?_ ?_
          · rintro j v H13 hj ⟨s13, z13⟩
            rw [hg', htt', hte']
            simp only [wipe]
            walk_at "rd"
            have hv : v ∈ [V.bl true, V.non, V.str (Str.ofString "1"), V.ref pt, V.ref pl, V.ref pd] := List.mem_of_getElem? hj
            refine made_ne T (by decide) (by decide) (by decide) (fun H' s' => odd_ok T ?_) fun H' s' => ⟨_, rfl, ?_⟩
            · simp only [List.mem_cons, List.not_mem_nil, or_false] at hv
              rcases hv with rfl | rfl | rfl | rfl | rfl | rfl
              · exact .inl rfl
              · exact .inr (.inl rfl)
              · exact .inr (.inr (.inl ⟨_, rfl⟩))
              · exact .inr (.inr (.inr (.inl ⟨_, _, rfl, s' _ _ (s13 _ _ f2)⟩)))
              · exact .inr (.inr (.inr (.inr (.inl ⟨_, _, rfl, s' _ _ (s13 _ _ f3)⟩))))
              · exact .inr (.inr (.inr (.inr (.inr ⟨_, _, rfl, s' _ _ (s13 _ _ f4)⟩))))
            · try walk_at "rd"
              exact ⟨s13.trans s', s' _ _ z13⟩
          · rintro H13 ⟨s13, z13⟩
            rw [hQ']
            walk_at "rd"
            refine ⟨by decide, fun ze hze => ?_⟩
            refine ⟨.list [], .list [], .lst (SqL.of (Same.new hze _ _ z13)) .nil, .lst (SqL.of upd_same) .nil, rfl, rfl, ⟨_, rfl, ?_⟩⟩
            rw [if_neg (by simp [PyData.eqv, PyData.eqvAll])]
            exact s1.trans (sH.trans (s13.trans (Same.new hze)))
    · rintro σ H1 ⟨x1, x2, x3, x4, x5, x6, x7, x8, x9, x10, rfl, s1⟩
      rw [hD]
      exact k H1
end
theorem txt_mk {K : PySem.W.Frag} {h : Heap} {mg : Str → Option Value} {CK C_ByZero f_ByZero_init C_Ratio f_Ratio_init f_Ratio_top f_Ratio_bottom f_Ratio_add f_Ratio_sub f_Ratio_mul f_Ratio_eq f_Ratio_over f_Ratio_below f_Ratio_written pa_Ratio_top pa_Ratio_bottom f_common_divisor f_is_integer f_is_number f_as_ratio f_l_cell f_l_box f_l_take f_l_low f_l_number f_l_pair f_l_told f_l_text f_l_over f_l_two_right f_l_refused f_law : Addr} {d_ByZero_init d_Ratio_init d_Ratio_top d_Ratio_bottom d_Ratio_add d_Ratio_sub d_Ratio_mul d_Ratio_eq d_Ratio_over d_Ratio_below d_Ratio_written d_common_divisor d_is_integer d_is_number d_as_ratio d_l_cell d_l_box d_l_take d_l_low d_l_number d_l_pair d_l_told d_l_text d_l_over d_l_two_right d_l_refused d_law : FuncData} (X : K.In h) (G : h.Ns mainGlobals mg)
    (kb : Wk.KBase K mg CK)
    (e_ByZero : Wk.ExcT K mg "ByZero" C_ByZero f_ByZero_init)
    (F_ByZero_init : Fun K "__init__" "ByZero.__init__" s_ByZero_init f_ByZero_init d_ByZero_init)
    (g_Ratio : PySem.W.nsIn K mainGlobals "Ratio" = some (some (.ref C_Ratio)))
    (cl_Ratio : Cls K C_Ratio)
    (mk_Ratio : Mk K C_Ratio f_Ratio_init)
    (n_Ratio_numer : PySem.W.findIn K (.ref C_Ratio) "numer" = some none)
    (n_Ratio_denom : PySem.W.findIn K (.ref C_Ratio) "denom" = some none)
    (F_Ratio_init : Wk.FunD1 K "__init__" "Ratio.__init__" s_Ratio_init f_Ratio_init d_Ratio_init)
    (p_Ratio_top : PropOf K C_Ratio "top" pa_Ratio_top f_Ratio_top)
    (F_Ratio_top : Fun K "top" "Ratio.top" s_Ratio_top f_Ratio_top d_Ratio_top)
    (p_Ratio_bottom : PropOf K C_Ratio "bottom" pa_Ratio_bottom f_Ratio_bottom)
    (F_Ratio_bottom : Fun K "bottom" "Ratio.bottom" s_Ratio_bottom f_Ratio_bottom d_Ratio_bottom)
    (op_Ratio_add : Wk.OwnOp K C_Ratio f_Ratio_add .Add)
    (F_Ratio_add : Fun K "__add__" "Ratio.__add__" s_Ratio_add f_Ratio_add d_Ratio_add)
    (op_Ratio_sub : Wk.OwnOp K C_Ratio f_Ratio_sub .Sub)
    (F_Ratio_sub : Fun K "__sub__" "Ratio.__sub__" s_Ratio_sub f_Ratio_sub d_Ratio_sub)
    (op_Ratio_mul : Wk.OwnOp K C_Ratio f_Ratio_mul .Mult)
    (F_Ratio_mul : Fun K "__mul__" "Ratio.__mul__" s_Ratio_mul f_Ratio_mul d_Ratio_mul)
    (m_Ratio_eq : Meth K C_Ratio "__eq__" f_Ratio_eq)
    (F_Ratio_eq : Fun K "__eq__" "Ratio.__eq__" s_Ratio_eq f_Ratio_eq d_Ratio_eq)
    (m_Ratio_over : Meth K C_Ratio "over" f_Ratio_over)
    (F_Ratio_over : Fun K "over" "Ratio.over" s_Ratio_over f_Ratio_over d_Ratio_over)
    (m_Ratio_below : Meth K C_Ratio "below" f_Ratio_below)
    (F_Ratio_below : Fun K "below" "Ratio.below" s_Ratio_below f_Ratio_below d_Ratio_below)
    (m_Ratio_written : Meth K C_Ratio "written" f_Ratio_written)
    (F_Ratio_written : Fun K "written" "Ratio.written" s_Ratio_written f_Ratio_written d_Ratio_written)
    (tC : PySem.W.findIn K (.ref C_Ratio) "__class__" = some (some (.builtin "object.__class__")))
    (tG : PySem.W.specialIn K (.builtin "object.__class__") "__get__" = some (some (.builtin "getset_descriptor.__get__")))
    (tT : PySem.W.takesIn K (.builtin "object.__class__") = some true)
    (tM : PySem.W.mroIn K C_Ratio (.type "object") = some true)
    (ki_int : PySem.W.kitOne K (.type "int") (.ref C_Ratio) = some false)
    (ki_bool : PySem.W.kitOne K (.type "bool") (.ref C_Ratio) = some false)
    (ki_none : PySem.W.kitOne K (.type "NoneType") (.ref C_Ratio) = some false)
    (ki_str : PySem.W.kitOne K (.type "str") (.ref C_Ratio) = some false)
    (ki_tuple : PySem.W.kitOne K (.type "tuple") (.ref C_Ratio) = some false)
    (ki_list : PySem.W.kitOne K (.type "list") (.ref C_Ratio) = some false)
    (ki_dict : PySem.W.kitOne K (.type "dict") (.ref C_Ratio) = some false)
    (kr_int : PySem.W.kitOne K (.ref C_Ratio) (.type "int") = some false)
    (kr_ratio : PySem.W.kitOne K (.ref C_Ratio) (.ref C_Ratio) = some true)
    (nf_int : PySem.W.notFirst K C_Ratio (.type "int") = true)
    (nf_bool : PySem.W.notFirst K C_Ratio (.type "bool") = true)
    (nf_none : PySem.W.notFirst K C_Ratio (.type "NoneType") = true)
    (nf_str : PySem.W.notFirst K C_Ratio (.type "str") = true)
    (nf_tuple : PySem.W.notFirst K C_Ratio (.type "tuple") = true)
    (nf_list : PySem.W.notFirst K C_Ratio (.type "list") = true)
    (nf_dict : PySem.W.notFirst K C_Ratio (.type "dict") = true)
    (nf_ratio : PySem.W.notFirst K C_Ratio (.ref C_Ratio) = true)
    (h_common_divisor : Wk.FnT K mg "common_divisor" s_common_divisor f_common_divisor d_common_divisor)
    (h_is_integer : Wk.FnT K mg "is_integer" s_is_integer f_is_integer d_is_integer)
    (h_is_number : Wk.FnT K mg "is_number" s_is_number f_is_number d_is_number)
    (h_as_ratio : Wk.FnT K mg "as_ratio" s_as_ratio f_as_ratio d_as_ratio)
    (h_l_cell : Wk.FnT K mg "_law_cell" s_l_cell f_l_cell d_l_cell)
    (h_l_box : Wk.FnT K mg "_law_box" s_l_box f_l_box d_l_box)
    (h_l_take : Wk.FnT K mg "_law_take" s_l_take f_l_take d_l_take)
    (h_l_low : Wk.FnT K mg "_law_low" s_l_low f_l_low d_l_low)
    (h_l_number : Wk.FnT K mg "_law_number" s_l_number f_l_number d_l_number)
    (h_l_pair : Wk.FnT K mg "_law_pair" s_l_pair f_l_pair d_l_pair)
    (h_l_told : Wk.FnT K mg "_law_told" s_l_told f_l_told d_l_told)
    (h_l_text : Wk.FnT K mg "_law_text" s_l_text f_l_text d_l_text)
    (h_l_over : Wk.FnT K mg "_law_over" s_l_over f_l_over d_l_over)
    (h_l_two_right : Wk.FnT K mg "_law_two_right" s_l_two_right f_l_two_right d_l_two_right)
    (h_l_refused : Wk.FnT K mg "_law_refused" s_l_refused f_l_refused d_l_refused)
    (h_law : Wk.FnT K mg "law" s_law f_law d_law)
    (z_abs : PySem.W.nsIn K mainGlobals "abs" = some none)
    (z_bool : PySem.W.nsIn K mainGlobals "bool" = some none)
    (z_int : PySem.W.nsIn K mainGlobals "int" = some none)
    (z_isinstance : PySem.W.nsIn K mainGlobals "isinstance" = some none)
    (z_len : PySem.W.nsIn K mainGlobals "len" = some none)
    (z_max : PySem.W.nsIn K mainGlobals "max" = some none)
    (z_min : PySem.W.nsIn K mainGlobals "min" = some none)
    (z_range : PySem.W.nsIn K mainGlobals "range" = some none)
    (z_repr : PySem.W.nsIn K mainGlobals "repr" = some none)
    (z_str : PySem.W.nsIn K mainGlobals "str" = some none) :
    Txt K mg ⟨CK, C_ByZero, f_ByZero_init, d_ByZero_init, C_Ratio, f_Ratio_init, d_Ratio_init, f_Ratio_top, d_Ratio_top, pa_Ratio_top, f_Ratio_bottom, d_Ratio_bottom, pa_Ratio_bottom, f_Ratio_add, d_Ratio_add, f_Ratio_sub, d_Ratio_sub, f_Ratio_mul, d_Ratio_mul, f_Ratio_eq, d_Ratio_eq, f_Ratio_over, d_Ratio_over, f_Ratio_below, d_Ratio_below, f_Ratio_written, d_Ratio_written, f_common_divisor, d_common_divisor, f_is_integer, d_is_integer, f_is_number, d_is_number, f_as_ratio, d_as_ratio, f_l_cell, d_l_cell, f_l_box, d_l_box, f_l_take, d_l_take, f_l_low, d_l_low, f_l_number, d_l_number, f_l_pair, d_l_pair, f_l_told, d_l_told, f_l_text, d_l_text, f_l_over, d_l_over, f_l_two_right, d_l_two_right, f_l_refused, d_l_refused, f_law, d_law⟩ :=
  { kb := kb,
    e_ByZero := e_ByZero,
    F_ByZero_init := F_ByZero_init,
    b_ByZero_init := F_ByZero_init.binds (ps := ["self"]) fun _ _ _ _ _ _ us hl => match us, hl with | [_], _ => rfl,
    cl_Ratio := cl_Ratio,
    g_Ratio := PySem.W.mg_of X G g_Ratio,
    mk_Ratio := mk_Ratio,
    n_Ratio_numer := n_Ratio_numer,
    n_Ratio_denom := n_Ratio_denom,
    F_Ratio_init := F_Ratio_init,
    F_Ratio_top := F_Ratio_top,
    b_Ratio_top := F_Ratio_top.binds (ps := ["self"]) fun _ _ _ _ _ _ us hl => match us, hl with | [_], _ => rfl,
    p_Ratio_top := p_Ratio_top,
    F_Ratio_bottom := F_Ratio_bottom,
    b_Ratio_bottom := F_Ratio_bottom.binds (ps := ["self"]) fun _ _ _ _ _ _ us hl => match us, hl with | [_], _ => rfl,
    p_Ratio_bottom := p_Ratio_bottom,
    F_Ratio_add := F_Ratio_add,
    b_Ratio_add := F_Ratio_add.binds (ps := ["self", "other"]) fun _ _ _ _ _ _ us hl => match us, hl with | [_, _], _ => rfl,
    op_Ratio_add := op_Ratio_add,
    F_Ratio_sub := F_Ratio_sub,
    b_Ratio_sub := F_Ratio_sub.binds (ps := ["self", "other"]) fun _ _ _ _ _ _ us hl => match us, hl with | [_, _], _ => rfl,
    op_Ratio_sub := op_Ratio_sub,
    F_Ratio_mul := F_Ratio_mul,
    b_Ratio_mul := F_Ratio_mul.binds (ps := ["self", "other"]) fun _ _ _ _ _ _ us hl => match us, hl with | [_, _], _ => rfl,
    op_Ratio_mul := op_Ratio_mul,
    F_Ratio_eq := F_Ratio_eq,
    b_Ratio_eq := F_Ratio_eq.binds (ps := ["self", "other"]) fun _ _ _ _ _ _ us hl => match us, hl with | [_, _], _ => rfl,
    m_Ratio_eq := m_Ratio_eq,
    F_Ratio_over := F_Ratio_over,
    b_Ratio_over := F_Ratio_over.binds (ps := ["self", "number"]) fun _ _ _ _ _ _ us hl => match us, hl with | [_, _], _ => rfl,
    m_Ratio_over := m_Ratio_over,
    F_Ratio_below := F_Ratio_below,
    b_Ratio_below := F_Ratio_below.binds (ps := ["self", "number"]) fun _ _ _ _ _ _ us hl => match us, hl with | [_, _], _ => rfl,
    m_Ratio_below := m_Ratio_below,
    F_Ratio_written := F_Ratio_written,
    b_Ratio_written := F_Ratio_written.binds (ps := ["self"]) fun _ _ _ _ _ _ us hl => match us, hl with | [_], _ => rfl,
    m_Ratio_written := m_Ratio_written,
    tC := tC,
    tG := tG,
    tT := tT,
    tM := tM,
    ki_int := ki_int,
    ki_bool := ki_bool,
    ki_none := ki_none,
    ki_str := ki_str,
    ki_tuple := ki_tuple,
    ki_list := ki_list,
    ki_dict := ki_dict,
    kr_int := kr_int,
    kr_ratio := kr_ratio,
    nf_int := nf_int,
    nf_bool := nf_bool,
    nf_none := nf_none,
    nf_str := nf_str,
    nf_tuple := nf_tuple,
    nf_list := nf_list,
    nf_dict := nf_dict,
    nf_ratio := nf_ratio,
    h_common_divisor := h_common_divisor,
    b_common_divisor := h_common_divisor.F.binds (ps := ["one", "other"]) fun _ _ _ _ _ _ us hl => match us, hl with | [_, _], _ => rfl,
    h_is_integer := h_is_integer,
    b_is_integer := h_is_integer.F.binds (ps := ["value"]) fun _ _ _ _ _ _ us hl => match us, hl with | [_], _ => rfl,
    h_is_number := h_is_number,
    b_is_number := h_is_number.F.binds (ps := ["value"]) fun _ _ _ _ _ _ us hl => match us, hl with | [_], _ => rfl,
    h_as_ratio := h_as_ratio,
    b_as_ratio := h_as_ratio.F.binds (ps := ["number"]) fun _ _ _ _ _ _ us hl => match us, hl with | [_], _ => rfl,
    h_l_cell := h_l_cell,
    b_l_cell := h_l_cell.F.binds (ps := ["_law_script", "_law_k"]) fun _ _ _ _ _ _ us hl => match us, hl with | [_, _], _ => rfl,
    h_l_box := h_l_box,
    b_l_box := h_l_box.F.binds (ps := ["_law_cell_here"]) fun _ _ _ _ _ _ us hl => match us, hl with | [_], _ => rfl,
    h_l_take := h_l_take,
    b_l_take := h_l_take.F.binds (ps := ["_law_box_here", "_law_many"]) fun _ _ _ _ _ _ us hl => match us, hl with | [_, _], _ => rfl,
    h_l_low := h_l_low,
    b_l_low := h_l_low.F.binds (ps := ["_law_high", "_law_low_here"]) fun _ _ _ _ _ _ us hl => match us, hl with | [_, _], _ => rfl,
    h_l_number := h_l_number,
    b_l_number := h_l_number.F.binds (ps := ["_law_box_here"]) fun _ _ _ _ _ _ us hl => match us, hl with | [_], _ => rfl,
    h_l_pair := h_l_pair,
    b_l_pair := h_l_pair.F.binds (ps := ["_law_box_here"]) fun _ _ _ _ _ _ us hl => match us, hl with | [_], _ => rfl,
    h_l_told := h_l_told,
    b_l_told := h_l_told.F.binds (ps := ["_law_ratio"]) fun _ _ _ _ _ _ us hl => match us, hl with | [_], _ => rfl,
    h_l_text := h_l_text,
    b_l_text := h_l_text.F.binds (ps := ["_law_pair_here"]) fun _ _ _ _ _ _ us hl => match us, hl with | [_], _ => rfl,
    h_l_over := h_l_over,
    b_l_over := h_l_over.F.binds (ps := ["_law_one", "_law_other"]) fun _ _ _ _ _ _ us hl => match us, hl with | [_, _], _ => rfl,
    h_l_two_right := h_l_two_right,
    b_l_two_right := h_l_two_right.F.binds (ps := ["_law_first", "_law_second", "_law_one", "_law_other"]) fun _ _ _ _ _ _ us hl => match us, hl with | [_, _, _, _], _ => rfl,
    h_l_refused := h_l_refused,
    b_l_refused := h_l_refused.F.binds (ps := ["_law_high"]) fun _ _ _ _ _ _ us hl => match us, hl with | [_], _ => rfl,
    h_law := h_law,
    z_abs := PySem.W.mg_none_of X G z_abs,
    z_bool := PySem.W.mg_none_of X G z_bool,
    z_int := PySem.W.mg_none_of X G z_int,
    z_isinstance := PySem.W.mg_none_of X G z_isinstance,
    z_len := PySem.W.mg_none_of X G z_len,
    z_max := PySem.W.mg_none_of X G z_max,
    z_min := PySem.W.mg_none_of X G z_min,
    z_range := PySem.W.mg_none_of X G z_range,
    z_repr := PySem.W.mg_none_of X G z_repr,
    z_str := PySem.W.mg_none_of X G z_str }
theorem law_end {l : PySem.W.OpenLaw} {w : World} {K : PySem.W.Frag} {h : Heap} {mg : Str → Option Value} {fa : Addr} {a : Ad} (G : h.Ns mainGlobals mg) (hfa : mg "law" = some (.ref fa)) (T : Txt K mg a) :
    ∃ fd : FuncData, (∀ (s : Shared) (v : Value), BindsTo s fd ⟨[v], []⟩ [("_law_script", v)]) ∧ ∀ base : Heap, K.In base → base.Ns mainGlobals mg → FnOk l.prog w K mg base CX0 19 fa fd ["_law_script"] (sp_law K) := by
  have e := hfa.symm.trans T.h_law.g
  cases e
  obtain ⟨oc, od, kV, doc, pm, an, cdv, ct, osl, e1, e2, e3⟩ := T.h_law.F.ex
  refine ⟨a.d_law, fun s v => ?_, fun base _ _ => ok_law T⟩
  rw [e1]
  exact .of_eq rfl
end Rat2
open PySem PySem.W PyProof.Rows in
set_option maxRecDepth 100000 in
set_option maxHeartbeats 0 in
theorem PySem.Challenge.cw_widestkind_k02_ratios_holds : PySem.Challenge.rw_widestkind_k02_ratios.Holds := by
  w_on; o_law; k_head; (case hw => w_witness2)
  k_fill
  refine L2.walk_of (l := PySem.Challenge.rw_widestkind_k02_ratios) (n := 63) (k := 19) (x := "_law_script") (CX := fun _ => L2.CX0) (sp := fun w => Rat2.sp_law _) rfl (by decide) rfl ⟨rfl, by decide, by decide⟩ (fun w h Y => PySem.W.kIn_of Y) ?F (fun _ _ a ns hl _ hS => ⟨a, ns, rfl, hS, hl, fun _ => rfl⟩) (fun _ _ _ _ _ h => h)
  case F =>
    intro w mg fa h KX G hmg
    refine' Rat2.law_end (l := PySem.Challenge.rw_widestkind_k02_ratios) (w := w) G hmg (Rat2.txt_mk KX G ?kb ?e_ByZero ?F_ByZero_init ?g_Ratio ?cl_Ratio ?mk_Ratio ?n_Ratio_numer ?n_Ratio_denom ?F_Ratio_init ?p_Ratio_top ?F_Ratio_top ?p_Ratio_bottom ?F_Ratio_bottom ?op_Ratio_add ?F_Ratio_add ?op_Ratio_sub ?F_Ratio_sub ?op_Ratio_mul ?F_Ratio_mul ?m_Ratio_eq ?F_Ratio_eq ?m_Ratio_over ?F_Ratio_over ?m_Ratio_below ?F_Ratio_below ?m_Ratio_written ?F_Ratio_written ?tC ?tG ?tT ?tM ?ki_int ?ki_bool ?ki_none ?ki_str ?ki_tuple ?ki_list ?ki_dict ?kr_int ?kr_ratio ?nf_int ?nf_bool ?nf_none ?nf_str ?nf_tuple ?nf_list ?nf_dict ?nf_ratio ?h_common_divisor ?h_is_integer ?h_is_number ?h_as_ratio ?h_l_cell ?h_l_box ?h_l_take ?h_l_low ?h_l_number ?h_l_pair ?h_l_told ?h_l_text ?h_l_over ?h_l_two_right ?h_l_refused ?h_law ?z_abs ?z_bool ?z_int ?z_isinstance ?z_len ?z_max ?z_min ?z_range ?z_repr ?z_str)
    (case kb => refine' Wk.kb_mk KX G ?a1 ?a2 ?a3 ?a4; (case a1 => k_is); (case a2 => k_is); (case a3 => k_is); (case a4 => k_is))
    (case e_ByZero => refine' Wk.exc_mk KX G ?a1 ?a2 ?a3 ?a4 ?a5 ?a6 ?a7 ?a8 ?a9 ?b1 ?b2 ?b3 ?b4 ?b5; (case a1 => k_is); (case a2 => k_is); (case a3 => decide +kernel); (case a4 => k_is); (case a5 => k_is); (case a6 => k_is); (case a7 => k_is); (case a8 => k_is); (case a9 => k_is); (case b1 => k_is); (case b2 => k_is); (case b3 => k_is); (case b4 => k_is); (case b5 => first | rfl | k_is))
    (case F_ByZero_init => refine' L2.fun_mk ?a1 ?a2 ?a3; (case a1 => k_is); (case a2 => k_is); (case a3 => k_is))
    (case g_Ratio => k_is)
    (case cl_Ratio => refine' ⟨?a1, ?a2, ?a3, ?a4⟩; (case a1 => k_is); (case a2 => k_is); (case a3 => k_is); (case a4 => k_is))
    (case mk_Ratio => refine' ⟨?a1, ?a2, ?a3, ?a4⟩; (case a1 => k_is); (case a2 => k_is); (case a3 => k_is); (case a4 => k_is))
    (case n_Ratio_numer => k_is)
    (case n_Ratio_denom => k_is)
    (case F_Ratio_init => refine' Wk.fund_mk ?a1 ?a2 ?a3 ?a4 ?a5; (case a1 => k_is); (case a2 => k_is); (case a3 => k_is); (case a4 => k_is); (case a5 => exact ⟨_, rfl⟩))
    (case p_Ratio_top => refine' Wk.prop_mk ?a1 ?a2 ?a3 ?a4; (case a1 => k_is); (case a2 => k_is); (case a3 => k_is); (case a4 => k_is))
    (case F_Ratio_top => refine' L2.fun_mk ?a1 ?a2 ?a3; (case a1 => k_is); (case a2 => k_is); (case a3 => k_is))
    (case p_Ratio_bottom => refine' Wk.prop_mk ?a1 ?a2 ?a3 ?a4; (case a1 => k_is); (case a2 => k_is); (case a3 => k_is); (case a4 => k_is))
    (case F_Ratio_bottom => refine' L2.fun_mk ?a1 ?a2 ?a3; (case a1 => k_is); (case a2 => k_is); (case a3 => k_is))
    (case op_Ratio_add => refine' Wk.ownop_mk ?a1 ?a2 ?a3 ?a4 ?a5 ?a6 ?a7; (case a1 => k_is); (case a2 => k_is); (case a3 => k_is); (case a4 => k_is); (case a5 => k_is); (case a6 => k_is); (case a7 => k_is))
    (case F_Ratio_add => refine' L2.fun_mk ?a1 ?a2 ?a3; (case a1 => k_is); (case a2 => k_is); (case a3 => k_is))
    (case op_Ratio_sub => refine' Wk.ownop_mk ?a1 ?a2 ?a3 ?a4 ?a5 ?a6 ?a7; (case a1 => k_is); (case a2 => k_is); (case a3 => k_is); (case a4 => k_is); (case a5 => k_is); (case a6 => k_is); (case a7 => k_is))
    (case F_Ratio_sub => refine' L2.fun_mk ?a1 ?a2 ?a3; (case a1 => k_is); (case a2 => k_is); (case a3 => k_is))
    (case op_Ratio_mul => refine' Wk.ownop_mk ?a1 ?a2 ?a3 ?a4 ?a5 ?a6 ?a7; (case a1 => k_is); (case a2 => k_is); (case a3 => k_is); (case a4 => k_is); (case a5 => k_is); (case a6 => k_is); (case a7 => k_is))
    (case F_Ratio_mul => refine' L2.fun_mk ?a1 ?a2 ?a3; (case a1 => k_is); (case a2 => k_is); (case a3 => k_is))
    (case m_Ratio_eq => refine' ⟨?a1, ?a2, ?a3⟩; (case a1 => k_is); (case a2 => k_is); (case a3 => k_is))
    (case F_Ratio_eq => refine' L2.fun_mk ?a1 ?a2 ?a3; (case a1 => k_is); (case a2 => k_is); (case a3 => k_is))
    (case m_Ratio_over => refine' ⟨?a1, ?a2, ?a3⟩; (case a1 => k_is); (case a2 => k_is); (case a3 => k_is))
    (case F_Ratio_over => refine' L2.fun_mk ?a1 ?a2 ?a3; (case a1 => k_is); (case a2 => k_is); (case a3 => k_is))
    (case m_Ratio_below => refine' ⟨?a1, ?a2, ?a3⟩; (case a1 => k_is); (case a2 => k_is); (case a3 => k_is))
    (case F_Ratio_below => refine' L2.fun_mk ?a1 ?a2 ?a3; (case a1 => k_is); (case a2 => k_is); (case a3 => k_is))
    (case m_Ratio_written => refine' ⟨?a1, ?a2, ?a3⟩; (case a1 => k_is); (case a2 => k_is); (case a3 => k_is))
    (case F_Ratio_written => refine' L2.fun_mk ?a1 ?a2 ?a3; (case a1 => k_is); (case a2 => k_is); (case a3 => k_is))
    (case tC => k_is)
    (case tG => k_is)
    (case tT => k_is)
    (case tM => k_is)
    (case ki_int => refine' Wk.kit_own rfl ?a1 ?a2 ?a3; (case a1 => k_is); (case a2 => k_is); (case a3 => k_is))
    (case ki_bool => refine' Wk.kit_own rfl ?a1 ?a2 ?a3; (case a1 => k_is); (case a2 => k_is); (case a3 => k_is))
    (case ki_none => refine' Wk.kit_own rfl ?a1 ?a2 ?a3; (case a1 => k_is); (case a2 => k_is); (case a3 => k_is))
    (case ki_str => refine' Wk.kit_own rfl ?a1 ?a2 ?a3; (case a1 => k_is); (case a2 => k_is); (case a3 => k_is))
    (case ki_tuple => refine' Wk.kit_own rfl ?a1 ?a2 ?a3; (case a1 => k_is); (case a2 => k_is); (case a3 => k_is))
    (case ki_list => refine' Wk.kit_own rfl ?a1 ?a2 ?a3; (case a1 => k_is); (case a2 => k_is); (case a3 => k_is))
    (case ki_dict => refine' Wk.kit_own rfl ?a1 ?a2 ?a3; (case a1 => k_is); (case a2 => k_is); (case a3 => k_is))
    (case kr_int => refine' Wk.kit_blt rfl (by decide +kernel) ?a1; (case a1 => k_is))
    (case kr_ratio => exact Wk.kit_self)
    (case nf_int => k_is)
    (case nf_bool => k_is)
    (case nf_none => k_is)
    (case nf_str => k_is)
    (case nf_tuple => k_is)
    (case nf_list => k_is)
    (case nf_dict => k_is)
    (case nf_ratio => first | rfl | k_is)
    (case h_common_divisor => refine' Wk.fn_here KX G ?a1 ?a2 ?a3 ?a4; (case a1 => k_is); (case a2 => k_is); (case a3 => k_is); (case a4 => k_is))
    (case h_is_integer => refine' Wk.fn_here KX G ?a1 ?a2 ?a3 ?a4; (case a1 => k_is); (case a2 => k_is); (case a3 => k_is); (case a4 => k_is))
    (case h_is_number => refine' Wk.fn_here KX G ?a1 ?a2 ?a3 ?a4; (case a1 => k_is); (case a2 => k_is); (case a3 => k_is); (case a4 => k_is))
    (case h_as_ratio => refine' Wk.fn_here KX G ?a1 ?a2 ?a3 ?a4; (case a1 => k_is); (case a2 => k_is); (case a3 => k_is); (case a4 => k_is))
    (case h_l_cell => refine' Wk.fn_here KX G ?a1 ?a2 ?a3 ?a4; (case a1 => k_is); (case a2 => k_is); (case a3 => k_is); (case a4 => k_is))
    (case h_l_box => refine' Wk.fn_here KX G ?a1 ?a2 ?a3 ?a4; (case a1 => k_is); (case a2 => k_is); (case a3 => k_is); (case a4 => k_is))
    (case h_l_take => refine' Wk.fn_here KX G ?a1 ?a2 ?a3 ?a4; (case a1 => k_is); (case a2 => k_is); (case a3 => k_is); (case a4 => k_is))
    (case h_l_low => refine' Wk.fn_here KX G ?a1 ?a2 ?a3 ?a4; (case a1 => k_is); (case a2 => k_is); (case a3 => k_is); (case a4 => k_is))
    (case h_l_number => refine' Wk.fn_here KX G ?a1 ?a2 ?a3 ?a4; (case a1 => k_is); (case a2 => k_is); (case a3 => k_is); (case a4 => k_is))
    (case h_l_pair => refine' Wk.fn_here KX G ?a1 ?a2 ?a3 ?a4; (case a1 => k_is); (case a2 => k_is); (case a3 => k_is); (case a4 => k_is))
    (case h_l_told => refine' Wk.fn_here KX G ?a1 ?a2 ?a3 ?a4; (case a1 => k_is); (case a2 => k_is); (case a3 => k_is); (case a4 => k_is))
    (case h_l_text => refine' Wk.fn_here KX G ?a1 ?a2 ?a3 ?a4; (case a1 => k_is); (case a2 => k_is); (case a3 => k_is); (case a4 => k_is))
    (case h_l_over => refine' Wk.fn_here KX G ?a1 ?a2 ?a3 ?a4; (case a1 => k_is); (case a2 => k_is); (case a3 => k_is); (case a4 => k_is))
    (case h_l_two_right => refine' Wk.fn_here KX G ?a1 ?a2 ?a3 ?a4; (case a1 => k_is); (case a2 => k_is); (case a3 => k_is); (case a4 => k_is))
    (case h_l_refused => refine' Wk.fn_here KX G ?a1 ?a2 ?a3 ?a4; (case a1 => k_is); (case a2 => k_is); (case a3 => k_is); (case a4 => k_is))
    (case h_law => refine' Wk.fn_here KX G ?a1 ?a2 ?a3 ?a4; (case a1 => k_is); (case a2 => k_is); (case a3 => k_is); (case a4 => k_is))
    (case z_abs => k_is)
    (case z_bool => k_is)
    (case z_int => k_is)
    (case z_isinstance => k_is)
    (case z_len => k_is)
    (case z_max => k_is)
    (case z_min => k_is)
    (case z_range => k_is)
    (case z_repr => k_is)
    (case z_str => k_is)
