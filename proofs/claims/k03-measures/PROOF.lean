import PyProof.Rows.All
import Wide.All
import OpenK.AllK
import Wide.FinOn
import HandS.ForMost
import HandS.ForExc
import HandS.ExcInit
import HandS.ExcField
import HandS.IsInst
import HandS.Property
import HandS.Defaults
import HandS.MakeKw
import HandS.MakeKwOnly
import HandS.FStr
import HandS.Wide
import HandS.RaiseMore
import KE.KOpsOwn
import HandS.Words
import HandS.Ends
import PyProof.Rows.ReprR
import HandS.ExcOwn
import HandS.TupAny
import HandS.Style
import HandS.Conv
import HandS.Text
import HandS.Dict
import KE.KDictPairs
import HandS.Zip
import HandS.WordsExc
import HandS.More
import HandS.DictComp
import PySem.Challenge.RW_widestkind_k03_measures
set_option Elab.async false
set_option linter.all false
set_option maxRecDepth 100000
set_option maxHeartbeats 4000000
/-! Shared by the proofs over this package: KindError.__init__(self, ..) in an exception's own __init__. -/
namespace Wk
open PySem L2
/-- what the top says of the base class of the package's exceptions -/
structure KBase (K : PySem.W.Frag) (mg : Str → Option Value) (CK : Addr) : Prop where
  mgK : mg "KindError" = some (.ref CK)
  rd : PySem.W.readsIn K CK (.type "type") = true
  ga : PySem.W.specialIn K (.ref CK) "__getattribute__" = some (some (.builtin "type.__getattribute__"))
  fv : PySem.W.findCls K (.ref CK) (.type "type") "__init__" = some (.val (.builtin "ValueError.__init__"))
section
variable {X : Cx} {e : Expr} {es : List Expr} {ta : TA} {p1 p2 pos : Pos} {CK : Addr}
theorem pe_kinit {pl : Sem Bool} (B : KBase X.K X.mg CK) (ha : PA X (e :: es) ta) (hg : Gl X "KindError" := by rfl)
    (hc : eval (.Call (.Attribute (.Name "KindError" p1) "__init__" p2) (e :: es) [] pos) X.env = (do
      let ov ← eval (.Name "KindError" p1) X.env
      standAt p2.atName
      let (f, first) ← holding [ov] (getMethod ov "__init__" pl)
      callWith pos f first (backTo pos (starEach (e :: es) X.env)) (backToKw pos (keywordEach [] X.env))) := by rfl)
    (he : starEach (e :: es) X.env = (false, eval e X.env) :: starEach es X.env := by rfl)
    (hpl : (backTo pos (starEach es X.env)).any (·.1) = false := by rfl) :
    PE X (.Call (.Attribute (.Name "KindError" p1) "__init__" p2) (e :: es) [] pos) (tVeI X.K ta) := by
  refine ⟨fun pins s σ H Q I h => ?_⟩
  refine PySem.W.methodCall_KW (ld_glob I hg B.mgK ?_) hc
  refine PySem.W.method_cls I.kIn B.ga (PySem.W.cls_value I.kIn B.rd B.fv (by decide +kernel) ?_)
  show wpAny _ _ (callWith pos (Value.builtin "ValueError.__init__") [] (backTo pos (starEach (e :: es) X.env)) []) _ _ _
  refine PyProof.Rows.callWith_method1 (thn (ha.run pos pins _ σ H _ (I.tok _) h) fun us s1 ⟨vs, H1, I1, r1, a, C, ws, ev, hl, T, ea, q⟩ => ?_) he hpl
  subst ev
  cases r1 with
  | @cons _ u0 _ ur ra rw' =>
    obtain rfl : u0 = Value.ref a := ra
    have hlen : ur.length ≤ sizeLine := by
      have l := Paired.length rw'
      rw [sizeLine_eq]
      omega
    exact oinit_ok T I1 ea hlen fun s' J => ⟨.non, H1, J, rfl, q⟩
end
end Wk
namespace Wk
open PySem L2
/-- a def of the top -/
structure FnT (K : PySem.W.Frag) (mg : Str → Option Value) (x : Str) (st : Stmt) (f : Addr) (fd : FuncData) : Prop where
  F : Fun K x x st f fd
  g : mg x = some (.ref f)
theorem fn_here {K : PySem.W.Frag} {h : Heap} {mg : Str → Option Value} {x : Str} {st : Stmt} {f : Addr} {oc : Value} {od an : Option Addr} {osl : Array (Option Value)} {kV doc pm cdv ct : Value} (X : K.In h) (G : h.Ns mainGlobals mg)
    (a : PySem.W.nsIn K mainGlobals x = some (some (.ref f)))
    (l : K.lookup f = some ⟨oc, od, .func (PySem.W.fnOf x x (defArgs st) (defBody st) (defScope st) .none kV doc pm an cdv ct), osl⟩)
    (c : PySem.W.codeIn K cdv x = true) (k : PySem.W.keepIn K (.ref f) = true) :
    FnT K mg x st f (PySem.W.fnOf x x (defArgs st) (defBody st) (defScope st) .none kV doc pm an cdv ct) :=
  ⟨fun_mk l c k, PySem.W.mg_of X G a⟩
theorem kb_mk {K : PySem.W.Frag} {h : Heap} {mg : Str → Option Value} {CK : Addr} (X : K.In h) (G : h.Ns mainGlobals mg)
    (a : PySem.W.nsIn K mainGlobals "KindError" = some (some (.ref CK))) (rd : PySem.W.readsIn K CK (.type "type") = true)
    (ga : PySem.W.specialIn K (.ref CK) "__getattribute__" = some (some (.builtin "type.__getattribute__")))
    (fv : PySem.W.findCls K (.ref CK) (.type "type") "__init__" = some (.val (.builtin "ValueError.__init__"))) : KBase K mg CK :=
  ⟨PySem.W.mg_of X G a, rd, ga, fv⟩
/-- an exception class x of the package, at C, its own __init__ at fI -/
structure ExcT (K : PySem.W.Frag) (mg : Str → Option Value) (x : Str) (C fI : Addr) : Prop where
  g : mg x = some (.ref C)
  o : OexC K C
  xf : XfC K C
  iC : PySem.W.findIn K (.ref C) "__init__" = some (some (.ref fI))
  tI : PySem.W.typeIn K (.ref fI) = some (.type "function")
  te : PySem.W.exmOne K (.ref C) (.ref C) = some true
theorem exm_own {K : PySem.W.Frag} {S : Addr} (h1 : PySem.W.subIn K (.ref S) (.type "BaseException") = some true) (h2 : PySem.W.isClsIn K S = true)
    (h3 : PySem.W.typeIn K (.ref S) = some (.type "type")) (h4 : PySem.W.subIn K (.ref S) (.ref S) = some true) : PySem.W.exmOne K (.ref S) (.ref S) = some true := by
  have h2' : (PySem.W.clsIn K S).isSome = true := h2
  unfold PySem.W.exmOne PySem.W.kitCls
  simp only [h1, h3, h4, h2']
  rfl
theorem exc_mk {K : PySem.W.Frag} {h : Heap} {mg : Str → Option Value} {x : Str} {C fI : Addr} {nm q : Str} {N : Addr} {bs bm : List Value} {sn : List Str} {sub : List Value} {ab : Bool} {col : Option Bool} {dd : Option Addr} {m0 m1 m2 m3 m5 : Option Value}
    (X : K.In h) (G : h.Ns mainGlobals mg) (aC : PySem.W.nsIn K mainGlobals x = some (some (.ref C)))
    (xL : K.lookup C = some (excClassObj nm q C N bs bm true sn sub ab col dd m0 m1 m2 m3 m5 "ValueError.__new__")) (hb : PySem.HandSPX.refsVE bm = true)
    (sa : PySem.W.findIn K (.ref C) "__setattr__" = some (some (.builtin "object.__setattr__")))
    (ga : PySem.W.findIn K (.ref C) "__getattribute__" = some (some (.builtin "BaseException.__getattribute__")))
    (gg : PySem.W.findIn K (.ref C) "__getattr__" = some none) (a1 : PySem.W.findIn K (.ref C) "__init__" = some (some (.ref fI)))
    (t1 : PySem.W.typeIn K (.ref fI) = some (.type "function")) (kC : PySem.W.keepIn K (.ref C) = true)
    (eC : PySem.W.subIn K (.ref C) (.type "BaseException") = some true) (tC : PySem.W.typeIn K (.ref C) = some (.type "type"))
    (hC : PySem.W.hasDictIn K C = true) (iC : PySem.W.isClsIn K C = true) (sC : PySem.W.subIn K (.ref C) (.ref C) = some true) : ExcT K mg x C fI :=
  { g := PySem.W.mg_of X G aC, o := ⟨⟨nm, q, N, bs, bm, sn, sub, ab, col, dd, m0, m1, m2, m3, m5, xL, hb⟩, sa, eC, tC, kC⟩, xf := ⟨ga, gg, eC, hC⟩, iC := a1, tI := t1, te := exm_own eC iC tC sC }
theorem sqT_mk {K : PySem.W.Frag} {a : Addr} {xs : List V} {its : List Value} {n : Nat} {dd : Option Addr} {sl : Array (Option Value)}
    (l : K.lookup a = some ⟨.type "tuple", dd, .seq its.toArray n, sl⟩) (z : its.toArray.size ≤ sizeLine) (r : Vals xs its) : ∀ H, SqT K H a xs := fun _ =>
  .inr ⟨_, its.toArray, n, l, rfl, rfl, z, by simpa using r⟩
end Wk
namespace Wk
open PySem L2
section
variable {X : Cx} {x : Str} {pos : Pos}
theorem pe_gstr {z : Str} {t : Tok} (hm : X.mg x = some (.str z t)) (hg : Gl X x := by rfl) (hdb : (x == ("__debug__" : Str)) = false := by decide) : PE X (.Name x pos) (tC (.str z)) := pe_glob hg hm (v := .str z) ⟨t, rfl⟩ hdb
theorem pe_gint {i : Int} {t : Tok} (hm : X.mg x = some (.int i t)) (hg : Gl X x := by rfl) (hdb : (x == ("__debug__" : Str)) = false := by decide) : PE X (.Name x pos) (tC (.int i)) := pe_glob hg hm (v := .int i) ⟨t, rfl⟩ hdb
theorem pe_gref {b : Addr} (hm : X.mg x = some (.ref b)) (hg : Gl X x := by rfl) (hdb : (x == ("__debug__" : Str)) = false := by decide) : PE X (.Name x pos) (tC (.ref b)) := pe_glob hg hm (v := .ref b) rfl hdb
end
end Wk
namespace Wk
open PySem L2
/-- a loop's turn: the next state is in the invariant, with a smaller number -/
theorem turn_to {W : Nat → L2.St → Hp → Prop} {m : Nat} {tb : TS} {D : Ends} {σ : L2.St} {H : Hp}
    (h : tb { D with nx := fun σ' H' => ∃ m', m' < m ∧ W m' σ' H', ct := fun σ' H' => ∃ m', m' < m ∧ W m' σ' H', bk := D.nx } σ H) :
    ∃ N : L2.St → Hp → Prop, (∀ σ' H', N σ' H' → ∃ m', m' < m ∧ W m' σ' H') ∧ tb { D with nx := N, ct := N, bk := D.nx } σ H :=
  ⟨_, fun _ _ z => z, h⟩
theorem ite_b {b : Bool} {A B : Prop} (h1 : b = true → A) (h2 : b = false → B) : if b = true then A else B := by
  cases b
  · exact iteF (h2 rfl)
  · exact iteT (h1 rfl)
end Wk
namespace Wk
open PySem L2
abbrev cs (z : Str) : List Nat := z.cps.toList
abbrev S (l : List Nat) : Str := ⟨l.toArray⟩
theorem S_cs (z : Str) : S (cs z) = z := by
  cases z
  simp
theorem cs_S (l : List Nat) : cs (S l) = l := by simp
theorem cs_len (z : Str) : (cs z).length = z.length := by simp [Str.length]
theorem S_len (l : List Nat) : (S l).length = l.length := by simp [Str.length]
theorem S_inj {l m : List Nat} : S l = S m ↔ l = m := by
  constructor
  · intro h
    have := congrArg (fun z : Str => z.cps.toList) h
    simpa using this
  · intro h; rw [h]
theorem one_inj {x c : Nat} : ((⟨#[x]⟩ : Str) = ⟨#[c]⟩) = (x = c) := propext ⟨fun h => by
  have := congrArg (fun z : Str => z.cps.toList) h
  simpa using this, fun h => by rw [h]⟩
theorem atI_eq {α : Type} (l : List α) (n : Nat) : atI l (n : Int) = l[n]? := by
  cases h : l[n]? with
  | some v => exact atI_nat h
  | none =>
    have hl : l.length ≤ n := by simpa using h
    unfold atI ixN
    rw [if_pos (by omega), if_neg (by omega)]
    rfl
theorem sz_of {n : Nat} (h : n ≤ 100000) : n ≤ sizeLine := Nat.le_trans h (by decide)
theorem sz_lt {n : Nat} (h : n < 100000) : n < sizeLine := Nat.lt_of_lt_of_le h (by decide)
theorem cut_to (z : Str) (n : Nat) : cutS z none (some (n : Int)) = S ((cs z).take n) := by
  unfold cutS
  rw [HT.sIx_none, HT.sIx_nat]
  congr 1
  simp only [List.drop_zero, Nat.sub_zero]
  congr 1
  rw [List.take_eq_take_iff, cs_len]
  omega
theorem cut_mid (z : Str) (n m : Nat) : cutS z (some (n : Int)) (some (m : Int)) = S (((cs z).drop n).take (m - n)) := by
  unfold cutS
  rw [HT.sIx_nat, HT.sIx_nat]
  congr 1
  congr 1
  by_cases h : n ≤ z.length
  · rw [Nat.min_eq_left h, List.take_eq_take_iff, List.length_drop, cs_len]
    omega
  · rw [List.drop_of_length_le (by rw [cs_len]; omega), List.drop_of_length_le (by rw [cs_len]; omega)]
    simp
theorem cut_from (z : Str) (n : Nat) : cutS z (some (n : Int)) none = S ((cs z).drop n) := by
  unfold cutS
  rw [HT.sIx_nat, HT.sIx_none]
  congr 1
  congr 1
  by_cases h : n ≤ z.length
  · rw [Nat.min_eq_left h, List.take_of_length_le (by rw [List.length_drop, cs_len]; omega)]
  · rw [List.drop_of_length_le (by rw [cs_len]; omega), List.drop_of_length_le (by rw [cs_len]; omega)]
    simp
end Wk
namespace Wk
open PySem L2
section
variable {K : PySem.W.Frag} {H : Hp} {Q : VK}
theorem rin_t {p : Addr} {xs : List V} {x : V} {neg : Bool} (h : SqT K H p xs) (hx : flatV x = true) (ha : xs.all flatV = true)
    (q : Q (.bl (if neg then !inV x xs else inV x xs)) H) : rIn K neg x (.ref p) H Q := ⟨p, xs, rfl, .inr h, hx, ha, q⟩
theorem rin_l {p : Addr} {xs : List V} {x : V} {neg : Bool} (h : SqL K H p xs) (hx : flatV x = true) (ha : xs.all flatV = true)
    (q : Q (.bl (if neg then !inV x xs else inV x xs)) H) : rIn K neg x (.ref p) H Q := ⟨p, xs, rfl, .inl h, hx, ha, q⟩
theorem inV_strs (z : Str) : ∀ ls : List (List Nat), inV (.str z) (ls.map fun l => V.str (S l)) = decide (cs z ∈ ls)
  | [] => by simp [inV]
  | l :: ls => by
    have ih := inV_strs z ls
    have e : eqV (.str (S l)) (.str z) = decide (cs z = l) := by
      show (S l == z) = _
      rw [Bool.eq_iff_iff, beq_iff_eq, decide_eq_true_eq]
      constructor
      · intro h; rw [← h, cs_S]
      · intro h; rw [← h, S_cs]
    show (eqV (.str (S l)) (.str z) || inV (.str z) (ls.map fun l => V.str (S l))) = _
    rw [e, ih, Bool.eq_iff_iff, Bool.or_eq_true, decide_eq_true_eq, decide_eq_true_eq, decide_eq_true_eq, List.mem_cons]
theorem isi_str {z : Str} (q : Q (.bl true) H) : rIsi K [.str z, .ty "str"] H Q := ⟨_, _, _, _, true, rfl, .ty _, .base (.str _), kit_ty (by decide +kernel), q⟩
end
end Wk
namespace Wk
open PySem L2
/-- tuples stay -/
def TSame (H H' : Hp) : Prop := ∀ q xs, H q = some (.tup xs) → H' q = some (.tup xs)
theorem TSame.of {H H' : Hp} (h : Same H H') : TSame H H' := fun q _ e => h q _ e
theorem TSame.trans {H H1 H2 : Hp} (a : TSame H H1) (b : TSame H1 H2) : TSame H H2 := fun q xs e => b q xs (a q xs e)
theorem TSame.lst {H : Hp} {l : Addr} {vs ws : List V} (h : H l = some (.lst vs)) : TSame H (upd H l (.lst ws)) := fun q xs e => by
  rw [upd_ne (ne_of e h (by intro z; cases z))]
  exact e
theorem Same.new {H : Hp} {p : Addr} {o : HO} (h : H p = none) : Same H (upd H p o) := fun b u e => by
  rw [upd_ne (ne_of_none e h)]
  exact e
/-- an object that H does not know may change -/
theorem Same.mut {H H' : Hp} {p : Addr} {o : HO} (e : Same H H') (h : H p = none) : Same H (upd H' p o) := fun b u q => by
  rw [upd_ne (ne_of_none q h)]
  exact e b u q
end Wk
namespace Wk
open PySem L2
/-- the heap behind a made exception: nothing that stood has changed -/
theorem exc_heap {H : Hp} {e d : Addr} {o1 o2 o3 o4 : HO} (he : H e = none) (hd : H d = none) : Same H (upd (del (upd (upd (upd H e o1) d o2) e o3) e) d o4) := fun b o q => by
  have n1 : b ≠ e := ne_of_none q he
  have n2 : b ≠ d := ne_of_none q hd
  rw [upd_ne n2, del_ne n1, upd_ne n1, upd_ne n2, upd_ne n1]
  exact q
end Wk
namespace Wk
open PySem L2
/-! rules over tracked lists and tuples alone: what they ask is settled by the heap -/
theorem atI_lit {α : Type} (l : List α) (n : Nat) : atI l (@OfNat.ofNat Int n instOfNat) = l[n]? := atI_eq l n
section
variable {X : Cx}
def rIxLT : R2 := fun x y H Q => ∃ p xs i v, x = .ref p ∧ y = .int i ∧ H p = some (.lst xs) ∧ atI xs i = some v ∧ Q v H
def rIxTT : R2 := fun x y H Q => ∃ p xs i v, x = .ref p ∧ y = .int i ∧ H p = some (.tup xs) ∧ atI xs i = some v ∧ Q v H
theorem ix_listT : IxR X rIxLT := fun value slice pins s σ H x y v u Q I rx ry ⟨p, xs, i, z, e1, e2, e3, e4, q⟩ hs =>
  ix_list value slice pins s σ H x y v u Q I rx ry ⟨p, xs, i, z, e1, e2, SqL.of e3, e4, q⟩ hs
theorem ix_tupT : IxR X rIxTT := fun value slice pins s σ H x y v u Q I rx ry ⟨p, xs, i, z, e1, e2, e3, e4, q⟩ hs =>
  ix_tup value slice pins s σ H x y v u Q I rx ry ⟨p, xs, i, z, e1, e2, SqT.of e3, e4, q⟩ hs
def rLenLT : List V → Hp → VK → Prop := fun xs H Q => ∃ p ys, xs = [.ref p] ∧ H p = some (.lst ys) ∧ Q (.int ys.length) H
def rLenTT : List V → Hp → VK → Prop := fun xs H Q => ∃ p ys, xs = [.ref p] ∧ H p = some (.tup ys) ∧ Q (.int ys.length) H
theorem call_lenLT : CallR X (.builtin "len") rLenLT := fun pins s σ H xs us Q I r ⟨p, ys, e1, e2, q⟩ =>
  call_len_seq pins s σ H xs us Q I r ⟨p, ys, e1, .inl (SqL.of e2), q⟩
theorem call_lenTT : CallR X (.builtin "len") rLenTT := fun pins s σ H xs us Q I r ⟨p, ys, e1, e2, q⟩ =>
  call_len_seq pins s σ H xs us Q I r ⟨p, ys, e1, .inr (SqT.of e2), q⟩
end
theorem cxK {CX : CXT} {P : Program} {w : World} {K : PySem.W.Frag} {mg : Str → Option Value} {base : Heap} {N : List Str} {q : Str} {sc : Scope} {f : Addr} {cd : Value} {A : Around} {o : List Env} {s : Shared} {H : Hp} {E : XK} :
    (cxOf CX P w K mg base N q sc f cd A o s H E).K = K := rfl
theorem cxKn {CX : CXT} {P : Program} {w : World} {K : PySem.W.Frag} {mg : Str → Option Value} {base : Heap} {N : List Str} {q : Str} {sc : Scope} {f : Addr} {cd : Value} {A : Around} {o : List Env} {s : Shared} {H : Hp} {E : XK} :
    (cxOf CX P w K mg base N q sc f cd A o s H E).nox.K = K := rfl
end Wk
namespace Wk
open PySem L2
theorem atI_lits {α : Type} (l : List α) : atI l 0 = l[0]? ∧ atI l 1 = l[1]? ∧ atI l 2 = l[2]? ∧ atI l 3 = l[3]? ∧ atI l 4 = l[4]? ∧ atI l 5 = l[5]? ∧ atI l 6 = l[6]? ∧ atI l 7 = l[7]? ∧ atI l 8 = l[8]? ∧ atI l 9 = l[9]? ∧ atI l 10 = l[10]? ∧ atI l 11 = l[11]? ∧ atI l 12 = l[12]? ∧ atI l 13 = l[13]? ∧ atI l 14 = l[14]? ∧ atI l 15 = l[15]? ∧ atI l 16 = l[16]? ∧ atI l 17 = l[17]? ∧ atI l 18 = l[18]? ∧ atI l 19 = l[19]? ∧ atI l 20 = l[20]? ∧ atI l 21 = l[21]? ∧ atI l 22 = l[22]? ∧ atI l 23 = l[23]? := ⟨atI_eq l 0, atI_eq l 1, atI_eq l 2, atI_eq l 3, atI_eq l 4, atI_eq l 5, atI_eq l 6, atI_eq l 7, atI_eq l 8, atI_eq l 9, atI_eq l 10, atI_eq l 11, atI_eq l 12, atI_eq l 13, atI_eq l 14, atI_eq l 15, atI_eq l 16, atI_eq l 17, atI_eq l 18, atI_eq l 19, atI_eq l 20, atI_eq l 21, atI_eq l 22, atI_eq l 23⟩
theorem ixN_0 (n : Nat) : ixN (n + 1) 0 = some 0 := by
  unfold ixN
  rw [if_pos (by decide), if_pos (by omega)]
  rfl
theorem ixN_1 (n : Nat) : ixN (n + 1 + 1) 1 = some 1 := by
  unfold ixN
  rw [if_pos (by decide), if_pos (by omega)]
  rfl
theorem ixN_2 (n : Nat) : ixN (n + 1 + 1 + 1) 2 = some 2 := by
  unfold ixN
  rw [if_pos (by decide), if_pos (by omega)]
  rfl
end Wk
namespace Wk
open PySem L2
/-- the body of a for and what follows it, put aside while its head is read -/
theorem for_hide {wi : TI} {g : TG} {tb : TS} {D : Ends} {σ : L2.St} {H : Hp} (h : ∀ (tb' : TS) (D' : Ends), tb' = tb → D' = D → tFor wi g tb' D' σ H) : tFor wi g tb D σ H := h tb D rfl rfl
end Wk
namespace Wk
open PySem PySem.Spec PyProof.Rows L2
section
variable {X : Cx}
/-- o.m(e, ..) by a built-in type's method; the written part given by an equation, so that it may stand in a comprehension -/
theorem pe_bmK {K : PySem.W.Frag} {T id : String} {name : Str} {r : V → List V → Hp → VK → Prop} {o e : Expr} {es : List Expr} {to : TE} {t : TA} {apos cpos : Pos} (hK : X.K = K) (pa : PlainAttrs T) (slot : Slot T name id) (hty : typeOf (.builtin id) = pure (.type "method_descriptor")) (hm : MtR X id r) (ho : PE X o to) (ha : PA X (e :: es) t)
    (hbase : attributeBase o name X.env (eval o X.env) = eval o X.env := by rfl)
    (hfew : ((backTo cpos (starEach (e :: es) X.env)).all (fun x => !x.1) && (backToKw cpos (keywordEach [] X.env)).all (fun x => x.1.isSome)
      && decide ((e :: es).length + ([] : List Keyword).length + (if ([] : List Keyword).isEmpty then 0 else 1) < 30)) = true := by rfl)
    (hline : (apos.endLine == cpos.line) = true := by rfl) (hs : starEach (e :: es) X.env = (false, eval e X.env) :: starEach es X.env := by rfl) (hplain : (backTo cpos (starEach es X.env)).any (·.1) = false := by rfl) :
    PE X (.Call (.Attribute o name apos) (e :: es) [] cpos) (tBM K T r to t) := by
  subst hK
  exact pe_bm pa slot hty hm ho ha hbase hfew hline hs hplain
end
end Wk
set_option Elab.async false
set_option linter.all false
set_option maxRecDepth 100000
set_option maxHeartbeats 4000000
/-! Exceptions without values; own operators and own ==. -/
namespace Wk
open PySem PySem.Spec PyProof.Rows L2
/-- C(), C's own __init__ keeping sp and storing nothing -/
def tMkO0 (C : Addr) (sp : Sp) : L2.St → Hp → XK → Prop := fun _ H Q => ∀ a, H a = none → sp [.ref a] (upd H a (exo a C none))
  (fun v H2 => v = .non ∧ H2 a = some (exo a C none) ∧ Q (.ref C) none (del H2 a)) (fun _ _ _ => False)
section
variable {X : Cx}
theorem mk_bare {pins : List (Addr × Obj)} {σ : L2.St} {H1 H2 : Hp} {hp hp2 h2 : Heap} {g1 g2 : Array GenState} {d1 d2 : Drawn} {t1 t2 : Nat} {os1 os2 : OsState} {a C : Addr}
    (I1 : Inv X pins σ H1 ⟨hp, g1, d1, t1, os1⟩) (ha : hp.objs.size ≤ a) (k : ∀ b o, hp.get? b = some o → hp2.get? b = some o)
    (un : Un (frs X.stack) [] (upd H1 a (exo a C none)) H2 hp2 h2) (hok : HOk X.prog X.w H2 h2) (ho : os2 = os1) (hb : AllBare g2) (ea : H2 a = some (exo a C none)) :
    ∃ (t0 : Addr) (G : Heap), Inv X pins σ (del H2 a) ⟨G, g2, d2, t2, os2⟩ ∧ (∀ b o, G.get? b = some o → h2.get? b = some o) ∧ G.get? a = none ∧
      h2.get? a = some ({ cls := .ref C, dict := none, data := .fields #[.ref t0, .none, .none, .none, .bool false, .none] } : Obj) := by
  obtain ⟨t0, hoe⟩ := exo_at hok ea
  have hn : H1 a = none := I1.hok.fresh ha
  obtain ⟨G, g1', g2'⟩ := restrict h2 fun b => decide (b ≠ a)
  have gk : ∀ b, b ≠ a → G.get? b = h2.get? b := fun b hb => g1' b (decide_eq_true hb)
  have ge : G.get? a = none := g2' a (by simp)
  have nha : ∀ {b : Addr} {o : Obj}, hp.get? b = some o → b ≠ a := fun z => Nat.ne_of_lt (Nat.lt_of_lt_of_le (Heap.lt_size z) ha)
  have up : ∀ {b : Addr}, b ≠ a → H1 b = none → upd H1 a (exo a C none) b = none := fun hb n => (upd_ne hb).trans n
  have U : Un (frs X.stack) [] H1 (del H2 a) hp G := {
    keep := fun b o z n hf hx => (gk b (nha z)).trans (un.keep b o (k b o z) (up (nha z) n) hf hx)
    slot := fun b o z n hf hx => by
      rw [gk b (nha z)]
      exact un.slot b o (k b o z) (up (nha z) n) hf hx
    free := fun b o z n hx => (del_ne (nha z)).trans (un.free b o (k b o z) (up (nha z) n) hx)
    there := fun b o z hx => by
      rw [gk b (nha z)]
      exact un.there b o (k b o z) hx
    tups := fun b xs z => (del_ne (ne_of_none z hn)).trans (un.tups b xs ((upd_ne (ne_of_none z hn)).trans z))
    frzs := fun b o v z => (del_ne (ne_of_none z hn)).trans (un.frzs b o v ((upd_ne (ne_of_none z hn)).trans z))
    tbls := fun b ps z => by
      rw [del_ne (ne_of_none z hn)]
      exact un.tbls b ps ((upd_ne (ne_of_none z hn)).trans z) }
  have hok3 : HOk X.prog X.w (del H2 a) G := fun b o z => by
    have hba : b ≠ a := fun e => by
      rw [e, del_same] at z
      cases z
    rw [del_ne hba] at z
    have noa : ∀ {c : Addr}, H2 c = some (.own b) → c ≠ a := fun hc => at_ne ea hc exo_own
    refine (hok b o z).stay (fun c v hc y => ?_) (fun c hc => (del_ne (noa hc)).trans hc) (fun c xs hc => (del_ne (at_ne ea hc exo_tup)).trans hc)
    have hca : c ≠ a := by
      rcases hc with hc | hc
      · rw [hc]
        exact hba
      · exact noa hc
    exact (gk c hca).trans y
  refine ⟨t0, G, I1.call' (ch := []) ho U hok3 hb (fun b z => absurd z (by simp)), fun b o z => ?_, ge, hoe⟩
  by_cases hba : b = a
  · rw [hba, ge] at z
    cases z
  · exact (gk b hba).symm.trans z
theorem pmk_oex0 {CX : CXT} {x : Str} {C fI : Addr} {k : Nat} {fd : FuncData} {ps : List Str} {sp : Sp} {p pos : Pos} (T : OexC X.K C)
    (iC : PySem.W.findIn X.K (.ref C) "__init__" = some (some (.ref fI))) (tI : PySem.W.typeIn X.K (.ref fI) = some (.type "function"))
    (F1 : FnOk X.prog X.w X.K X.mg X.base CX k fI fd ps sp) (hr : Room (k + 1) X.A) (hb : Binds X.K fd ps []) (hx : Passes CX X (fun _ _ _ => False)) (hg : Gl X x)
    (hm : X.mg x = some (.ref C)) (hdb : (x == ("__debug__" : Str)) = false := by decide) : PMk X (.Call (.Name x p) [] [] pos) (tMkO0 C sp) := by
  intro pins s σ H Q I h
  obtain ⟨nm, q, N, bs, bm, sn, sub, ab, col, dd, k0, k1, k2, k3, k5, hC, hbm⟩ := T.cls
  refine wpAny_Call_Name_kw (ld_glob I hg hm ?_ hdb)
  refine PySem.W.callWith_K0 I.kIn T.kC ?_
  show wpAny _ _ (call (.ref C) []) _ _ _
  obtain ⟨hp, g, dr, tk, os⟩ := s
  have hsz : hp.objs.size ≤ hp.objs.size + 1 := Nat.le_succ _
  have hn : H (hp.objs.size + 1) = none := I.hok.fresh hsz
  have hq := h (hp.objs.size + 1) hn
  have kk : ∀ b o, hp.get? b = some o → ((hp.push (PySem.W.kdv_tup [])).push (PySem.HandSPX.excO C hp.objs.size)).get? b = some o := fun b o e => Heap.get?_push_of_some _ (Heap.get?_push_of_some _ e)
  have hget : ((hp.push (PySem.W.kdv_tup [])).push (PySem.HandSPX.excO C hp.objs.size)).get? (hp.objs.size + 1) = some (PySem.HandSPX.excO C hp.objs.size) := by heap_get
  have I2 : Inv X pins σ (upd H (hp.objs.size + 1) (exo (hp.objs.size + 1) C none)) ⟨(hp.push (PySem.W.kdv_tup [])).push (PySem.HandSPX.excO C hp.objs.size), g, dr, tk, os⟩ :=
    I.laid (t' := tk) (a := hp.objs.size + 1) (o := exo (hp.objs.size + 1) C none) (h' := (hp.push (PySem.W.kdv_tup [])).push (PySem.HandSPX.excO C hp.objs.size)) kk hsz (exo_ok hget)
  have r2 : Vals [V.ref (hp.objs.size + 1)] [Value.ref (hp.objs.size + 1)] := .cons rfl .nil
  have hl : ([Value.ref (hp.objs.size + 1)] ++ []).length = ps.length := F1.len _ _ _ _ hq
  refine wpAny_call (PySem.HandSPX.call_own F.excBase_ValueError (fun Y => PySem.HandSPX.refsVE_contains Y bm hbm) (I.kIn _ _ hC) (PySem.W.looks_findIn I.kIn iC) (fun self => PySem.W.bind_fn I.kIn self tI) (Nat.zero_le _)
    (codeAny_mono (F1.run _ X.stack _ _ ⟨[Value.ref (hp.objs.size + 1)], []⟩ [Value.ref (hp.objs.size + 1)] _ _ (fun _ _ _ => False) (hr.make C [] []) (I2.env0.make C [] []) (hb _ [Value.ref (hp.objs.size + 1)] I2.kIn hl) r2 hq) fun r s' hq' => ?_))
  cases r with
  | error er => exact hx pins σ _ _ er s' I2 hq'
  | ok fl =>
    cases fl with
    | ret u =>
      obtain ⟨v, H2, os2, bare2, un2, hok2, rv, ev, ea, q2⟩ := hq'
      subst ev
      obtain ⟨h2, g2, d2, t2, os'⟩ := s'
      obtain ⟨t0, G, J, kG, ge, hoe⟩ := mk_bare (d2 := d2) (t2 := t2) I hsz kk un2 hok2 os2 bare2 ea
      exact ⟨rv, ⟨hp.objs.size + 1, _, _, ⟨G, g2, d2, t2, os'⟩, _, .ref C, none, rfl, J, kG, ge, hoe, ⟨rfl, rfl⟩, rfl, rfl, del_same, rfl, bare2, raises_own T.exC T.tyC, q2⟩⟩
    | next => exact False.elim hq'
    | brk => exact False.elim hq'
    | cont => exact False.elim hq'
/-! ### own operators -/
theorem cmpBack_of {pins : List (Addr × Obj)} {σ : L2.St} {Q : VK} {u : Value} {s' : Shared} (h : EP X pins σ Q u s') : PySem.W.CmpBack (EP X pins σ Q) u s' := by
  obtain ⟨v, H', I, r, q⟩ := h
  cases v with
  | non => cases (show u = Value.none from r); exact ⟨.non, H', I, rfl, q⟩
  | bl b => cases (show u = Value.bool b from r); exact ⟨.bl b, H', I, rfl, q⟩
  | int i => obtain ⟨t, e⟩ := (show ∃ t, u = Value.int i t from r); cases e; exact ⟨.int i, H', I, ⟨t, rfl⟩, q⟩
  | str x => obtain ⟨t, e⟩ := (show ∃ t, u = Value.str x t from r); cases e; exact ⟨.str x, H', I, ⟨t, rfl⟩, q⟩
  | byt x => obtain ⟨t, e⟩ := (show ∃ t, u = Value.bytes x t from r); cases e; exact ⟨.byt x, H', I, ⟨t, rfl⟩, q⟩
  | flt x => obtain ⟨t, e⟩ := (show ∃ t, u = Value.float x t from r); cases e; exact ⟨.flt x, H', I, ⟨t, rfl⟩, q⟩
  | ref b => cases (show u = Value.ref b from r); exact ⟨.ref b, H', I, rfl, q⟩
  | ty n => cases (show u = Value.type n from r); exact ⟨.ty n, H', I, rfl, q⟩
/-- what the written part says of an own operator of the class at C -/
structure OwnOp (K : PySem.W.Frag) (C f : Addr) (op : Operator) : Prop where
  sf : PySem.W.selfFirst K C = true
  at_ : PySem.W.findIn K (.ref C) (PySem.dunder op.info.2) = some (some (.ref f))
  fn : PySem.W.isFn K (.ref f) = true
  nor : PySem.W.findIn K (.ref C) (dunderR op.info.2) = some none
  i1 : ∃ fo, PySem.W.findIn K (.type "int") (PySem.dunder op.info.2) = some fo
  i2 : ∃ ro, PySem.W.findIn K (.type "int") (dunderR op.info.2) = some ro
  sub : PySem.W.subIn K (.type "int") (.ref C) = some false
/-- a op b: a an instance of the class at C, b another one or an int -/
def rOwn (C : Addr) (sp : Sp) (E : XK) : R2 := fun x y H Q => ∃ a dx fs, x = .ref a ∧ H a = some (.ins C dx fs) ∧
  ((∃ b dy gs, y = .ref b ∧ H b = some (.ins C dy gs)) ∨ ∃ i, y = .int i) ∧ sp [x, y] H Q E
theorem op_own {CX : CXT} {op : Operator} {C f : Addr} {k : Nat} {fd : FuncData} {ps : List Str} {sp : Sp} {E : XK} (T : OwnOp X.K C f op) (F1 : FnOk X.prog X.w X.K X.mg X.base CX k f fd ps sp) (hr : Room k X.A)
    (hb : Binds X.K fd ps []) (hx : Passes CX X E) : OpR X (binaryOp op) (rOwn C sp E) := by
  intro pins s σ H x y v u Q I rx ry h
  obtain ⟨a, dx, fs, rfl, ea, hy, h⟩ := h
  cases (show v = Value.ref a from rx)
  obtain ⟨mA, O, _, _, _, _⟩ := ins_get I.hok ea
  obtain ⟨od, J, _⟩ := O.look
  obtain ⟨m, hF⟩ := I.fr
  have run : wpAny (model X.prog X.w) X.A (call (.ref f) [.ref a, u]) (PySem.W.CmpBack (EP X pins σ Q)) X.xe s :=
    wpAny_mono (run_fn (us := [.ref a, u]) (vs := [.ref a, y]) F1 hr hb .nil hx I (.cons rfl (.cons ry .nil)) h) (fun w s' z => cmpBack_of z) fun _ _ z => z
  rcases hy with ⟨b, dy, gs, rfl, eb⟩ | ⟨i, rfl⟩
  · cases (show u = Value.ref b from ry)
    obtain ⟨mB, O', _, _, _, _⟩ := ins_get I.hok eb
    obtain ⟨od', J', _⟩ := O'.look
    exact PySem.W.binop_K hF I.ok.mod.kin J J'.type T.sf T.at_ T.fn run
  · obtain ⟨t, e⟩ := (show ∃ t, u = Value.int i t from ry)
    cases e
    obtain ⟨fo, h1⟩ := T.i1
    obtain ⟨ro, h2⟩ := T.i2
    exact PySem.W.ksp_binT hF I.ok.mod.kin J rfl T.sf T.at_ T.fn T.nor (.inl rfl) h1 h2 T.sub run
/-- a == b by a's own ==, b of any told type that is no subclass of it -/
def rOwnEq (K : PySem.W.Frag) (C : Addr) (sp : Sp) (E : XK) : R2 := fun x y H Q => ∃ a dx fs t, x = .ref a ∧ H a = some (.ins C dx fs) ∧ TyX K H y t ∧ PySem.W.notFirst K C t = true ∧ sp [x, y] H Q E
theorem op_ownEq {CX : CXT} {C f : Addr} {k : Nat} {fd : FuncData} {ps : List Str} {sp : Sp} {E : XK} (at_ : PySem.W.findIn X.K (.ref C) "__eq__" = some (some (.ref f))) (fn : PySem.W.isFn X.K (.ref f) = true)
    (F1 : FnOk X.prog X.w X.K X.mg X.base CX k f fd ps sp) (hr : Room k X.A) (hb : Binds X.K fd ps []) (hx : Passes CX X E) : OpR X (compareOp .Eq) (rOwnEq X.K C sp E) := by
  intro pins s σ H x y v u Q I rx ry h
  obtain ⟨a, dx, fs, t, rfl, ea, ty, nf, h⟩ := h
  cases (show v = Value.ref a from rx)
  obtain ⟨mA, O, _, _, _, _⟩ := ins_get I.hok ea
  obtain ⟨od, J, _⟩ := O.look
  obtain ⟨m, hF⟩ := I.fr
  have run : wpAny (model X.prog X.w) X.A (call (.ref f) [.ref a, u]) (PySem.W.CmpBack (EP X pins σ Q)) X.xe s :=
    wpAny_mono (run_fn (us := [.ref a, u]) (vs := [.ref a, y]) F1 hr hb .nil hx I (.cons rfl (.cons ry .nil)) h) (fun w s' z => cmpBack_of z) fun _ _ z => z
  obtain ⟨P, Z, hp, _⟩ := kit_of I ry ty
  show wpAny (model X.prog X.w) X.A (richCompare .Eq (.ref a) u) _ _ _
  exact PySem.W.cmp_K (op := .Eq) hr.units0 hF I.ok.mod.kin J (Z.ty _ _ I.kIn hp) nf at_ fn run
theorem op_ownEqK {CX : CXT} {K : PySem.W.Frag} {C f : Addr} {k : Nat} {fd : FuncData} {ps : List Str} {sp : Sp} {E : XK} (hK : X.K = K) (at_ : PySem.W.findIn K (.ref C) "__eq__" = some (some (.ref f))) (fn : PySem.W.isFn K (.ref f) = true)
    (F1 : FnOk X.prog X.w K X.mg X.base CX k f fd ps sp) (hr : Room k X.A) (hb : Binds K fd ps []) (hx : Passes CX X E) : OpR X (compareOp .Eq) (rOwnEq K C sp E) := by
  subst hK
  exact op_ownEq at_ fn F1 hr hb hx
end
end Wk
namespace Wk
open PySem PySem.Spec PyProof.Rows L2
section
variable {X : Cx}
theorem call_repr_bool : CallR X (.builtin "repr") (fun xs H Q => ∃ b, xs = [.bl b] ∧ Q (.str (if b then "True" else "False")) H) := by
  intro pins s σ H xs us Q I r h
  obtain ⟨b, rfl, q⟩ := h
  obtain ⟨u, rfl, e⟩ := vals1 r
  cases (show u = Value.bool b from e)
  exact PySem.P.repr_of_bool ⟨.str _, H, I.tok _, ⟨_, rfl⟩, q⟩
end
/-- a def of the text with one default value, an int written in the text -/
abbrev FunD1 (K : PySem.W.Frag) (x qual : Str) (st : Stmt) (f : Addr) (fd : FuncData) : Prop := FunD K x qual (defArgs st) (defBody st) (defScope st) [.int 1] [] f fd
theorem fund_mk {K : PySem.W.Frag} {x qual : Str} {st : Stmt} {f T : Addr} {oc : Value} {od an dd : Option Addr} {osl sl : Array (Option Value)} {kV doc pm cdv ct cc u : Value} {n : Nat}
    (l : K.lookup f = some ⟨oc, od, .func (PySem.W.fnOf x qual (defArgs st) (defBody st) (defScope st) (.ref T) kV doc pm an cdv ct), osl⟩) (c : PySem.W.codeIn K cdv qual = true)
    (k : PySem.W.keepIn K (.ref f) = true) (t : K.lookup T = some ⟨cc, dd, .seq [u].toArray n, sl⟩) (r : RelV (.int 1) u) :
    FunD1 K x qual st f (PySem.W.fnOf x qual (defArgs st) (defBody st) (defScope st) (.ref T) kV doc pm an cdv ct) :=
  ⟨⟨oc, od, .ref T, kV, doc, pm, an, cdv, ct, osl, rfl, l, c, .inr ⟨by simp, T, _, [u], n, rfl, t, rfl, .cons r .nil⟩, .inl rfl⟩, k⟩
end Wk
namespace Wk
open PySem L2
/-- a comprehension's parts and what follows it, put aside while its head is read -/
theorem lc_hide {wi : TI} {g : TG} {tt : TT} {te : TE} {vs : List Nat} {σ : L2.St} {H : Hp} {Q : VK} (h : ∀ (g' : TG) (tt' : TT) (te' : TE) (Q' : VK), g' = g → tt' = tt → te' = te → Q' = Q → tLc wi g' tt' te' vs σ H Q') : tLc wi g tt te vs σ H Q := h g tt te Q rfl rfl rfl rfl
end Wk
namespace Wk
open PySem L2
theorem kit_own {K : PySem.W.Frag} {t : Value} {C : Addr} {b : Bool} (h0 : (t == Value.ref C) = false) (h1 : PySem.W.isClsIn K C = true) (h2 : PySem.W.typeIn K (.ref C) = some (.type "type")) (h3 : PySem.W.subIn K t (.ref C) = some b) : PySem.W.kitOne K t (.ref C) = some b := by
  have h1' : (PySem.W.clsIn K C).isSome = true := h1
  unfold PySem.W.kitOne PySem.W.kitCls
  rw [h0]
  simp only [h1', h2, h3]
  rfl
theorem kit_blt {K : PySem.W.Frag} {C : Addr} {T : String} {b : Bool} (h0 : (Value.ref C == Value.type T) = false) (h1 : PySem.W.kitMeta T = true) (h3 : PySem.W.subIn K (.ref C) (.type T) = some b) : PySem.W.kitOne K (.ref C) (.type T) = some b := by
  unfold PySem.W.kitOne PySem.W.kitCls
  rw [h0]
  simp only [h1, h3]
  rfl
theorem kit_self {K : PySem.W.Frag} {C : Addr} : PySem.W.kitOne K (.ref C) (.ref C) = some true := by
  unfold PySem.W.kitOne
  rw [if_pos (by simp)]
end Wk
namespace Wk
open PySem L2
theorem prop_mk {K : PySem.W.Frag} {C p g : Addr} {f : Str} {rest : List Value} (h1 : PySem.W.findIn K (.ref C) f = some (some (.ref p))) (h2 : PySem.W.specialIn K (.ref p) "__get__" = some (some (.builtin "property.__get__")))
    (h3 : PySem.W.takesIn K (.ref p) = some true) (h4 : PySem.W.recIn K p "property" = some (.ref g :: rest)) : PropOf K C f p g := ⟨h1, h2, h3, _, h4⟩
theorem ownop_mk {K : PySem.W.Frag} {C f : Addr} {op : Operator} {fo ro : Option Value} (h1 : PySem.W.selfFirst K C = true) (h2 : PySem.W.findIn K (.ref C) (PySem.dunder op.info.2) = some (some (.ref f))) (h3 : PySem.W.isFn K (.ref f) = true)
    (h4 : PySem.W.findIn K (.ref C) (dunderR op.info.2) = some none) (h5 : PySem.W.findIn K (.type "int") (PySem.dunder op.info.2) = some fo) (h6 : PySem.W.findIn K (.type "int") (dunderR op.info.2) = some ro) (h7 : PySem.W.subIn K (.type "int") (.ref C) = some false) : OwnOp K C f op :=
  ⟨h1, h2, h3, h4, ⟨_, h5⟩, ⟨_, h6⟩, h7⟩
end Wk
set_option Elab.async false
set_option linter.all false
set_option maxRecDepth 100000
set_option maxHeartbeats 4000000
/-! A def's promise where no repr is under way around the call, and repr of data. -/
namespace Wk
open PySem PySem.Spec PyProof.Rows L2
structure FnG (P : Program) (w : World) (K : PySem.W.Frag) (mg : Str → Option Value) (base : Heap) (CX : CXT) (k : Nat) (f : Addr) (fd : FuncData) (ps : List Str) (sp : Sp) : Prop where
  len : ∀ vs H Q E, sp vs H Q E → vs.length = ps.length
  run : ∀ (A : Around) (outer : List Env) (s : Shared) (H : Hp) (args : Args) (us : List Value) (vs : List V) (Q : VK) (E : XK), Room k A → A.guards = some [] → Env0 P w K mg base A outer s H → BindsTo s fd args (ps.zip us) → Vals vs us → sp vs H Q E →
    codeAny (model P w) A (.call (.ref f) args) (CR CX outer P w H s Q E) s
theorem fnG_of {P : Program} {w : World} {K : PySem.W.Frag} {mg : Str → Option Value} {base : Heap} {CX : CXT} {k : Nat} {f : Addr} {fd : FuncData} {ps : List Str} {sp : Sp} (F : FnOk P w K mg base CX k f fd ps sp) : FnG P w K mg base CX k f fd ps sp :=
  ⟨F.len, fun A outer s H args us vs Q E hr _ => F.run A outer s H args us vs Q E hr⟩
section
variable {X : Cx} {CX : CXT} {k : Nat} {f : Addr} {fd : FuncData} {ps : List Str} {sp : Sp} {E : XK} {ds : List Value} {dvs : List V} {x : Str} {e : Expr} {es : List Expr} {t : TA} {p pos : Pos}
theorem run_fnG {pins : List (Addr × Obj)} {σ : L2.St} {H : Hp} {s : Shared} {Q : VK} {us : List Value} {vs : List V} (F : FnG X.prog X.w X.K X.mg X.base CX k f fd ps sp) (hr : Room k X.A) (hgd : X.A.guards = some []) (hb : Binds X.K fd ps ds) (hd : Vals dvs ds) (hx : Passes CX X E)
    (I : Inv X pins σ H s) (r : Vals vs us) (h : sp (vs ++ dvs) H Q E) : wpAny (model X.prog X.w) X.A (call (.ref f) us) (EP X pins σ Q) X.xe s := by
  have r2 : Vals (vs ++ dvs) (us ++ ds) := r.append hd
  have hl : (us ++ ds).length = ps.length := by rw [← r2.length]; exact F.len _ _ _ _ h
  refine wpAny_call (codeAny_mono (F.run X.A X.stack s H ⟨us, []⟩ (us ++ ds) (vs ++ dvs) Q E hr hgd I.env0 (hb s us I.kIn hl) r2 h) fun r s' hq => ?_)
  match r with
  | .error e => exact hx pins σ H s e s' I hq
  | .ok (.ret u) => exact I.after hq
  | .ok .next => exact False.elim hq
  | .ok .brk => exact False.elim hq
  | .ok .cont => exact False.elim hq
theorem pe_callG (F : FnG X.prog X.w X.K X.mg X.base CX k f fd ps sp) (hr : Room k X.A) (hgd : X.A.guards = some []) (hg : Gl X x) (hm : X.mg x = some (.ref f)) (hk : PySem.W.keepIn X.K (.ref f) = true) (hb : Binds X.K fd ps ds) (hd : Vals dvs ds) (hx : Passes CX X E)
    (ha : PA X (e :: es) t) (hdb : (x == ("__debug__" : Str)) = false := by decide) (he : starEach (e :: es) X.env = (false, eval e X.env) :: starEach es X.env := by rfl) (hpl : (backTo pos (starEach es X.env)).any (·.1) = false := by rfl) :
    PE X (.Call (.Name x p) (e :: es) [] pos) (tCall sp dvs E t) := by
  refine ⟨fun pins s σ H Q I h => ?_⟩
  refine wpAny_Call_Name_kw (ld_glob I hg hm ?_ hdb)
  exact PySem.W.callWith_K (h₀ := X.base) I.ok.mod.kin hk (thn (ha.run pos pins s σ H _ I h) fun us s1 ⟨vs, H1, I1, r, q⟩ => ⟨I1.kIn, run_fnG F hr hgd hb hd hx I1 r q⟩) he hpl
/-- repr of data -/
def rRepr (K : PySem.W.Frag) : List V → Hp → VK → Prop := fun xs H Q => ∃ (v : V) (d : PyData), xs = [v] ∧ Dp K H v d ∧ d.showable = true ∧ d.shown.length ≤ sizeLine ∧ d.depth ≤ 60 ∧ d.hasDict = false ∧ Q (.str d.shown) H
theorem call_repr (hgd : X.A.guards = some []) (hu : X.A.units + 64 < cLine) : CallR X (.builtin "repr") (rRepr X.K) := by
  intro pins s σ H xs us Q I r h
  obtain ⟨v, d, rfl, hd, hs, hz, hdp, hnd, q⟩ := h
  obtain ⟨u, rfl, ru⟩ := vals1 r
  have key : ∀ a : Addr, u = Value.ref a → wpAny (model X.prog X.w) X.A (call (.builtin "repr") [u]) (EP X pins σ Q) X.xe s := by
    rintro a rfl
    obtain ⟨as, rd⟩ := Dp.reads I d v _ hd ru
    exact repr_of_reads' rd hs (PyData.noDict_hsm hnd) hgd (by omega) (fun _ _ e => e) (fun h' u tk hk => ⟨.str d.shown, H, I.kept (t' := tk) hk, ⟨_, rfl⟩, q⟩) hz
  cases hd with
  | non =>
    cases (show u = Value.none from ru)
    exact PySem.P.repr_of_none ⟨.str _, H, I.tok _, ⟨_, rfl⟩, q⟩
  | bl b =>
    cases (show u = Value.bool b from ru)
    exact PySem.P.repr_of_bool ⟨.str _, H, I.tok _, ⟨_, rfl⟩, q⟩
  | int i =>
    obtain ⟨t, rfl⟩ := (show ∃ t, u = Value.int i t from ru)
    exact PySem.P.repr_of_int (by simpa [PyData.showable] using hs) ⟨.str _, H, I.tok _, ⟨_, rfl⟩, q⟩
  | str x =>
    obtain ⟨t, rfl⟩ := (show ∃ t, u = Value.str x t from ru)
    exact PySem.P.repr_of_str ⟨.str _, H, I.tok _, ⟨_, rfl⟩, q⟩ (by simpa only [PyData.shown] using hz)
  | lst h1 h2 => exact key _ ru
  | tup h1 h2 => exact key _ ru
end
end Wk
namespace Wk
open PySem PySem.Spec PyProof.Rows L2
/-- a def of the text, walked where no repr is under way -/
theorem okG_any {CX : CXT} {P : Program} {w : World} {K : PySem.W.Frag} {mg : Str → Option Value} {base : Heap} {k : Nat} {f : Addr} {name qual : Str} {params : Arguments} {body : List Stmt} {scope : Scope} {dV kV doc pm cdv ct oc : Value} {an od : Option Addr}
    {osl : Array (Option Value)} {N ps : List Str} {sp : Sp} (lk : K.lookup f = some ⟨oc, od, .func (PySem.W.fnOf name qual params body scope dV kV doc pm an cdv ct), osl⟩) (hcd : PySem.W.codeIn K cdv qual = true) (S : FnScope N ps scope)
    (len : ∀ vs H Q E, sp vs H Q E → vs.length = ps.length)
    (hbody : ∀ (A : Around) (outer : List Env) (s : Shared) (H : Hp) (vs : List V) (Q : VK) (E : XK), Room k (A.deeper (envOfC qual scope s.heap.objs.size f cdv)) → (A.deeper (envOfC qual scope s.heap.objs.size f cdv)).guards = some [] → sp vs H Q E →
      ∃ t, PSs (cxOf CX P w K mg base N qual scope f cdv A outer s H E) body t ∧ t { nx := fun _ H' => Q .non H', rt := Q } (L2.start N vs) H) :
    FnG P w K mg base CX (k + 1) f (PySem.W.fnOf name qual params body scope dV kV doc pm an cdv ct) ps sp where
  len := len
  run := fun A outer s H args us vs Q E hr hgd e0 hb r hsp => by
    have KX : K.In s.heap := e0.mod.kin.keeps fun b o e => (e0.bs b o e).1
    have lim : s.heap.NoLimit := e0.mod.nolimit.keeps fun b o e => (e0.bs b o e).1
    obtain ⟨t, ht, hq⟩ := hbody A outer s H vs Q E (hr.deeper _) hgd hsp
    refine codeAny_call_function hr.depth (KX _ _ lk) rfl S.co S.gen rfl (PySem.W.codeRec_of KX hcd) (hb _ _ _ _ ?_)
    refine wpAny_newFunctionEnv_cells S.kind (fun y hy => ?_) fun env he s1 x => ?_
    · obtain ⟨n, v⟩ := y
      exact (S.par n (List.of_mem_zip hy).1).elim .inl fun q => .inr ⟨q, PySem.W.cellsFrom_some _ _ _ (.inl q)⟩
    · subst he
      refine ⟨lim.keeps x.toInCall.keep, codeAny_func ?_⟩
      have I : Inv (cxOf CX P w K mg base N qual scope f cdv A outer s H E) [] (L2.start N vs) H s1 := inv_start S hr.hd e0 (len _ _ _ _ hsp) r x
      refine wpAny_mono (ht.run [] s1 (L2.start N vs) H _ I hq) (fun fl s' hs => ?_) fun e s' hs => hs
      match fl with
      | .ret u =>
        obtain ⟨v, σ', H', J, rv, q⟩ := hs
        exact ⟨v, H', J.os, J.bare, J.base, J.hok, rv, q⟩
      | .next =>
        obtain ⟨σ', H', J, q⟩ := hs
        exact ⟨V.non, H', J.os, J.bare, J.base, J.hok, rfl, q⟩
      | .brk => exact hs.elim fun _ z => z.elim fun _ z => False.elim z.2
      | .cont => exact hs.elim fun _ z => z.elim fun _ z => False.elim z.2
section
variable {P : Program} {w : World} {K : PySem.W.Frag} {mg : Str → Option Value} {base : Heap}
theorem okG {x qual : Str} {st : Stmt} {f : Addr} {fd : FuncData} {N ps : List Str} {k : Nat} {sp : Sp} (F : Fun K x qual st f fd) (S : FnScope N ps (defScope st)) (len : ∀ vs H Q E, sp vs H Q E → vs.length = ps.length)
    (hbody : ∀ (cdv : Value) (A : Around) (outer : List Env) (s : Shared) (H : Hp) (vs : List V) (Q : VK) (E : XK), Room k (A.deeper (envOfC qual (defScope st) s.heap.objs.size f cdv)) → (A.deeper (envOfC qual (defScope st) s.heap.objs.size f cdv)).guards = some [] → sp vs H Q E →
      ∃ t, PSs (cxOf CX0 P w K mg base N qual (defScope st) f cdv A outer s H E).nox (defBody st) t ∧ t { nx := fun _ H' => Q .non H', rt := Q } (L2.start N vs) H) : FnG P w K mg base CX0 (k + 1) f fd ps sp := by
  obtain ⟨oc, od, kV, doc, pm, an, cdv, ct, osl, rfl, lk, hcd⟩ := F.ex
  refine okG_any lk hcd S len fun A outer s H vs Q E hr hgd hsp => ?_
  obtain ⟨t, h, q⟩ := hbody cdv A outer s H vs Q E hr hgd hsp
  exact ⟨t, h.nox, q⟩
end
end Wk
namespace Wk
open PySem PySem.Spec PyProof.Rows L2
/-- the law's call: its promise where no repr is under way; H tracks the script at most -/
theorem lawG_at {P : Program} {w : World} {K : PySem.W.Frag} {mg mb : Str → Option Value} {CX : CXT} {k : Nat} {fa a : Addr} {fd : FuncData} {x : Str} {sp : Sp} {s : Shared} {vs : List Value} {ns : List Int} {H : Hp}
    (KX : K.In s.heap) (hns : s.heap.Ns mainGlobals mg) (hb : s.heap.Ns builtinsNs mb) (hbb : ∀ x : Str, x ≠ "__name__" → mb x = bootBuiltins x) (hlim : s.heap.NoLimit) (hg : s.gens = #[])
    (ha : s.heap.get? a = some { cls := .type "list", data := .seq vs.toArray }) (hr : Room k callerA)
    (F : ∀ base : Heap, K.In base → base.Ns mainGlobals mg → FnG P w K mg base CX k fa fd [x] sp) (hbind : ∀ (s : Shared) (u : Value), BindsTo s fd ⟨[u], []⟩ [(x, u)])
    (hO : Only H) (hok : HOk P w H s.heap) (hA : ∀ b, H b ≠ none → b = a) (hK : H a ≠ none → K.lookup a = none)
    (hsp : sp [.ref a] H (fun v _ => v = .bl true) fun _ _ _ => False) (hCX : ∀ e s', CX [] H s (fun _ _ _ => False) e s' → False) :
    codeAny (model P w) callerA (.call (.ref fa) ⟨[.ref a], []⟩) (fun r s' => r = .ok (.ret (.bool true)) ∧ OldK s.heap s'.heap ∧ s'.os = s.os ∧ AllBare s'.gens) s := by
  have free : ∀ {b : Addr} {o : Obj}, s.heap.get? b = some o → (b = a → K.lookup a = none → False) ∨ H b = none → H b = none := fun {b o} e z => by
    rcases z with z | z
    · cases q : H b with
      | none => rfl
      | some u =>
        have e1 : b = a := hA b (by rw [q]; simp)
        exact (z e1 (hK (by rw [← e1, q]; simp))).elim
    · exact z
  have nsK : ∀ {b : Addr} {m : Str → Option Value}, s.heap.Ns b m → (hidT s.heap H).Ns b m := fun {b m} ⟨o, es, ep, e, d, r⟩ => by
    refine ⟨o, es, ep, hidT_get e ?_, d, r⟩
    cases q : H b with
    | none => rfl
    | some u =>
      have e1 : b = a := hA b (by rw [q]; simp)
      rw [e1, ha] at e
      cases e
      cases (show Data.seq vs.toArray _ = Data.dict es ep from d)
  have hKb : K.In (hidT s.heap H) := fun b o e => hidT_get (KX b o e) (free (KX b o e) (.inl fun e1 z => by
    rw [e1, z] at e
    cases e))
  obtain ⟨mc, l1, l2⟩ := hlim
  have e0 : Env0 P w K mg (hidT s.heap H) callerA [] s H :=
    ⟨rfl, ⟨hKb, nsK hns, ⟨mb, nsK hb, hbb⟩, ⟨mc, nsK l1, l2⟩⟩, fun b o e => of_hidT e, Nat.le_of_eq (hidT_size _ _), trivial, fun b hb => absurd (show b ∈ ([] : List Addr) from hb) (by simp), hok, .of_eq hg⟩
  refine codeAny_mono ((F _ hKb (nsK hns)).run callerA [] s H ⟨[.ref a], []⟩ [.ref a] [.ref a] _ _ hr rfl e0 (hbind s (.ref a)) (.cons rfl .nil) hsp) fun r s' h => ?_
  match r with
  | .error e => exact (hCX e s' h).elim
  | .ok .next => exact False.elim h
  | .ok .brk => exact False.elim h
  | .ok .cont => exact False.elim h
  | .ok (.ret u) =>
    obtain ⟨v, H', os, bare, un, hok', r', q⟩ := h
    obtain rfl : v = .bl true := q
    obtain rfl : u = Value.bool true := r'
    refine ⟨rfl, OldK.of_keep fun b o e => ?_, os, bare⟩
    rcases hO b with z | ⟨ob, xs, z⟩
    · exact un.keep b o e z (by intro y; exact absurd (show b ∈ ([] : List Addr) from y) (by simp)) (by simp)
    · obtain ⟨e1, _⟩ := hok b _ z
      obtain ⟨e2, _⟩ := hok' b _ (un.frzs b ob _ z)
      rw [e] at e1
      cases e1
      exact e2
theorem lawG_call {P : Program} {w : World} {K : PySem.W.Frag} {mg mb : Str → Option Value} {CX : CXT} {k : Nat} {fa a : Addr} {fd : FuncData} {x : Str} {sp : Sp} {s : Shared} {vs : List Value} {ns : List Int}
    (KX : K.In s.heap) (hns : s.heap.Ns mainGlobals mg) (hb : s.heap.Ns builtinsNs mb) (hbb : ∀ x : Str, x ≠ "__name__" → mb x = bootBuiltins x) (hlim : s.heap.NoLimit) (hg : s.gens = #[])
    (ha : s.heap.get? a = some { cls := .type "list", data := .seq vs.toArray }) (hi : IntsAre vs ns) (hl : ns.length ≤ sizeLine) (hr : Room k callerA)
    (F : ∀ base : Heap, K.In base → base.Ns mainGlobals mg → FnG P w K mg base CX k fa fd [x] sp) (hbind : ∀ (s : Shared) (u : Value), BindsTo s fd ⟨[u], []⟩ [(x, u)])
    (hsp : ∀ H : Hp, Only H → SqL K H a (ns.map V.int) → sp [.ref a] H (fun v _ => v = .bl true) fun _ _ _ => False) (hCX : ∀ H e s', CX [] H s (fun _ _ _ => False) e s' → False) :
    codeAny (model P w) callerA (.call (.ref fa) ⟨[.ref a], []⟩) (fun r s' => r = .ok (.ret (.bool true)) ∧ OldK s.heap s'.heap ∧ s'.os = s.os ∧ AllBare s'.gens) s := by
  have rv := vals_ints hi
  have lenV := hi.length
  have run := fun H hO hok hA hK hS => lawG_at (H := H) (ns := ns) KX hns hb hbb hlim hg ha hr F hbind hO hok hA hK (hsp H hO hS) (hCX H)
  cases hk : K.lookup a with
  | some o =>
    have e := KX a o hk
    rw [ha] at e
    cases e
    exact run (fun _ => none) (fun _ => .inl rfl) (fun b u z => nomatch z) (fun b z => absurd rfl z) (fun z => absurd rfl z) (.inr ⟨_, vs.toArray, _, hk, rfl, rfl, rfl, by rw [List.size_toArray, lenV]; exact hl, by simpa using rv⟩)
  | none =>
    have u1 : upd (fun _ => none) a (.frz { cls := .type "list", data := .seq vs.toArray } (.lst (ns.map V.int))) a = some (.frz { cls := .type "list", data := .seq vs.toArray } (.lst (ns.map V.int))) := upd_same
    have u2 : ∀ b, b ≠ a → upd (fun _ => none) a (.frz { cls := .type "list", data := .seq vs.toArray } (.lst (ns.map V.int))) b = none := fun b hb => upd_ne hb
    refine run (upd (fun _ => none) a (.frz { cls := .type "list", data := .seq vs.toArray } (.lst (ns.map V.int)))) (fun b => ?_) (fun b u z => ?_) (fun b z => ?_) (fun _ => hk) (.inl (.inr ⟨_, u1⟩))
    · by_cases hb : b = a
      · rw [hb]
        exact .inr ⟨_, _, u1⟩
      · exact .inl (u2 b hb)
    · by_cases hb : b = a
      · subst hb
        rw [u1] at z
        cases z
        exact ⟨ha, by rw [List.length_map]; exact hl, vs, _, rv, ha⟩
      · rw [u2 b hb] at z
        cases z
    · by_cases hb : b = a
      · exact hb
      · exact absurd (u2 b hb) z
theorem walk_ofG {l : PySem.W.OpenLaw} {n k : Nat} {q : Program} {loose : List Str} {XP : (Str → Option Value) → Heap → Prop} {YP : World → Heap → Prop} {d : DefRec} {K : Params → PySem.W.Frag} {CX : World → CXT} {sp : World → Sp} {x : Str}
    (hn : l.most = some n) (hn2 : n ≤ sizeLine) (hdf : d.params.defaults = []) (hr : Room k callerA) (hY : ∀ (w : World) (h : Heap), YP w h → (K w.params).In h)
    (F : ∀ (w : World) (mg : Str → Option Value) (fa : Addr) (h : Heap), (K w.params).In h → h.Ns mainGlobals mg → mg d.name = some (.ref fa) →
      ∃ fd : FuncData, (∀ (s : Shared) (u : Value), BindsTo s fd ⟨[u], []⟩ [(x, u)]) ∧ ∀ base : Heap, (K w.params).In base → base.Ns mainGlobals mg → FnG l.prog w (K w.params) mg base (CX w) k fa fd [x] (sp w))
    (hsp : ∀ (w : World) (H : Hp) (a : Addr) (ns : List Int), ns.length ≤ n → Only H → SqL (K w.params) H a (ns.map V.int) → sp w [.ref a] H (fun v _ => v = .bl true) fun _ _ _ => False)
    (hCX : ∀ (w : World) (H : Hp) (s : Shared) (e : Value) (s' : Shared), CX w [] H s (fun _ _ _ => False) e s' → False) :
    PySem.W.WalkO q loose XP YP l.row.toRowW d [] (fun f vs => PySem.call f vs) := by
  refine Att.attach_call hn hdf fun w s₀ s₁ mg mb fa o pm cd doc a vs ns G Y ho hd hcd hmg hobj hints hlen hg => ?_
  obtain ⟨fd, hb, hF⟩ := F w mg fa _ (hY w _ Y) G.T.g hmg
  exact lawG_call (hY w _ Y) G.T.g G.T.b G.T.builtins G.T.nolimit hg hobj hints (Nat.le_trans hlen hn2) hr hF hb (fun H hO hS => hsp w H a ns hlen hO hS) fun H e s' => hCX w H s₁ e s'
end Wk
namespace Wk
open PySem PySem.Spec PyProof.Rows L2
def keyD : Key → PyData
  | .inl i => .int i
  | .inr x => .str x
/-- a dict's entries, ints by keys -/
def kvI (l : List (Key × Int)) : List (Key × V) := l.map fun p => (p.1, V.int p.2)
def kvD (l : List (Key × Int)) : List (PyData × PyData) := l.map fun p => (keyD p.1, .int p.2)
theorem kv_reads {P : Program} {w : World} {h : Heap} : ∀ {l : List (Key × Int)} {vs : List (Key × Value)} {es : List DictEntry}, KV (kvI l) vs → Pairs (mixKind P w) es vs →
    ReadsAll h (es.map (·.key)) ((kvD l).map (·.1)) [] ∧ ReadsAll h (es.map (·.val)) ((kvD l).map (·.2)) []
  | [], _, _, .nil, .nil => ⟨.nil, .nil⟩
  | (k, i) :: l, _, _, .cons ⟨e1, r⟩ kv, .cons hk hv ps => by
    obtain ⟨a1, a2⟩ := kv_reads (h := h) kv ps
    obtain ⟨t, er⟩ := (show ∃ t, _ = Value.int i t from r)
    have e1' : k = _ := e1
    refine ⟨?_, ?_⟩
    · refine ReadsAll.cons (as := []) (bs := []) ?_ a1
      dsimp only
      rcases keyIs_shape (show keyIs _ _ = true from hk) with ⟨j, u, q1, q2⟩ | ⟨x, u, q1, q2⟩
      · rw [q2, e1', q1]
        exact Reads.int j u
      · rw [q2, e1', q1]
        exact Reads.str x u
    · refine ReadsAll.cons (as := []) (bs := []) ?_ a2
      dsimp only
      rw [hv, er]
      exact Reads.int i t
section
variable {X : Cx}
/-- data that repr is asked for: lists, tuples and scalars, or a dict of ints -/
def DQ (K : PySem.W.Frag) (H : Hp) (v : V) (d : PyData) : Prop := (Dp K H v d ∧ d.hasDict = false) ∨ ∃ (a : Addr) (l : List (Key × Int)), v = .ref a ∧ H a = some (.dK (kvI l)) ∧ d = .dict (kvD l)
def rReprQ (K : PySem.W.Frag) : List V → Hp → VK → Prop := fun xs H Q => ∃ (v : V) (d : PyData), xs = [v] ∧ DQ K H v d ∧ d.showable = true ∧ d.shown.length ≤ sizeLine ∧ d.depth ≤ 60 ∧ Q (.str d.shown) H
theorem call_reprQ (hgd : X.A.guards = some []) (hu : X.A.units + 64 < cLine) : CallR X (.builtin "repr") (rReprQ X.K) := by
  intro pins s σ H xs us Q I r h
  obtain ⟨v, d, rfl, hd, hs, hz, hdp, q⟩ := h
  rcases hd with ⟨hd, hnd⟩ | ⟨a, l, rfl, ha, rfl⟩
  · exact call_repr hgd hu pins s σ H _ us Q I r ⟨v, d, rfl, hd, hs, hz, hdp, hnd, q⟩
  · obtain ⟨u, rfl, ru⟩ := vals1 r
    cases (show u = Value.ref a from ru)
    obtain ⟨_, hsm, vs, kv, o, es, ep, e1, e2, e3, _, ps, _⟩ := (show ObjOk X.prog X.w H s.heap a (.dK (kvI l)) from I.hok a _ ha)
    obtain ⟨r1, r2⟩ := kv_reads (h := s.heap) kv ps
    have rd : Reads s.heap (.ref a) (.dict (kvD l)) (a :: [] ++ []) := .dict e1 e2.1 e3 r1 r2
    have ne : sysModules ∉ (a :: [] ++ [] : List Addr) := fun z => by
      have e : sysModules = a := by simpa using z
      rw [← e] at hsm
      simp at hsm
    exact repr_of_reads' rd hs (fun _ => ne) hgd (by omega) (fun _ _ e => e) (fun h' u tk hk => ⟨.str _, H, I.kept (t' := tk) hk, ⟨_, rfl⟩, q⟩) hz
end
end Wk
namespace Wk
open PySem L2
theorem same_seqT {K : PySem.W.Frag} {H H' : Hp} {a : Addr} {xs : List V} (e : Same H H') (h : SqT K H a xs) : SqT K H' a xs := by
  rcases h with (h | ⟨o, h⟩) | h
  · exact .inl (.inl (e _ _ h))
  · exact .inl (.inr ⟨o, e _ _ h⟩)
  · exact .inr h
mutual
theorem dp_same {K : PySem.W.Frag} {H H' : Hp} (e : Same H H') : ∀ {v : V} {d : PyData}, Dp K H v d → Dp K H' v d
  | _, _, .non => .non
  | _, _, .bl b => .bl b
  | _, _, .int i => .int i
  | _, _, .str x => .str x
  | _, _, .lst h a => .lst (e.seq h) (dpAll_same e a)
  | _, _, .tup h a => .tup (same_seqT e h) (dpAll_same e a)
theorem dpAll_same {K : PySem.W.Frag} {H H' : Hp} (e : Same H H') : ∀ {vs : List V} {ds : List PyData}, DpAll K H vs ds → DpAll K H' vs ds
  | _, _, .nil => .nil
  | _, _, .cons h a => .cons (dp_same e h) (dpAll_same e a)
end
end Wk
set_option Elab.async false
set_option linter.all false
set_option maxRecDepth 100000
set_option maxHeartbeats 4000000
/-! A mirror of defs over plain data: what a def computes, as a Lean function over data, and that the def computes it. -/
namespace Mi
open PySem L2 Wk
/-- plain data -/
inductive D where
  -- fl: a list that is only read (the script); ft: a tuple of the text's top; pr: a pair that a loop hands out
  | non | bl (b : Bool) | int (i : Int) | str (z : Str) | lst (l : List D) | fl (l : List D) | tup (l : List D) | ft (l : List D) | pr (l : List D) | dk (l : List (Key × D)) | dt (l : List (List Key × D)) | obj (c : Nat) (l : List D)
/-- an exception: its class, its fields -/
structure Exn where
  c : Nat
  l : List D
/-- what a name owns: a list or a dict that nothing else names -/
inductive OD where
  | lst (l : List D) | dk (l : List (Key × D)) | dt (l : List (List Key × D))
def OD.d : OD → D
  | .lst l => .lst l
  | .dk l => .dk l
  | .dt l => .dt l
inductive Cell where
  | no | val (d : D) | own (o : OD) | par (o : OD) | pin
def Cell.owned : Cell → Bool
  | .own _ => true
  | .par _ => true
  | _ => false
abbrev Env := List Cell
inductive Out (α : Type) where
  | no | ok (a : α) (ρ : Env) | err (x : Exn) (ρ : Env)
def Out.bind {α β : Type} : Out α → (α → Env → Out β) → Out β
  | .no, _ => .no
  | .ok a ρ, k => k a ρ
  | .err x ρ, _ => .err x ρ
theorem bind_no {α β : Type} {k : α → Env → Out β} : Out.bind (.no : Out α) k = .no := rfl
theorem bind_ok {α β : Type} {a : α} {ρ : Env} {k : α → Env → Out β} : Out.bind (.ok a ρ) k = k a ρ := rfl
theorem bind_err {α β : Type} {x : Exn} {ρ : Env} {k : α → Env → Out β} : Out.bind (.err x ρ : Out α) k = .err x ρ := rfl
/-- what the framework knows of the text: the written part, own classes with their fields, exception classes with theirs -/
structure Cf where
  K : PySem.W.Frag
  cls : Nat → Addr
  fld : Nat → List Str
  xc : Nat → Addr
  xf : Nat → List Str
/-- a tuple object without a dict of its own -/
def good (o : Obj) : Prop := o.cls = .type "tuple" ∧ o.dict = none
def keyV : V → Bool
  | .int _ => true
  | .str _ => true
  | _ => false
def keyish (vs : List V) : Bool := !vs.isEmpty && vs.all keyV
/-- how a tuple is tracked: one that may be a dict's key by its items, any other by its object -/
def tupHO (o : Obj) (vs : List V) : HO := if keyish vs then .tup vs else .frz o (.tup vs)
theorem tup_sq {K : PySem.W.Frag} {H : Hp} {a : Addr} {o : Obj} {vs : List V} (h : H a = some (tupHO o vs)) : SqT K H a vs := by
  unfold tupHO at h
  split at h
  · exact .inl (.inl h)
  · exact .inl (.inr ⟨o, h⟩)
mutual
inductive Rep (G : Cf) (F : Hp) : V → D → Prop
  | non : Rep G F .non .non
  | bl (b : Bool) : Rep G F (.bl b) (.bl b)
  | int (i : Int) : Rep G F (.int i) (.int i)
  | str (z : Str) : Rep G F (.str z) (.str z)
  | lst {a : Addr} {vs : List V} {ds : List D} : F a = some (.lst vs) → Reps G F vs ds → Rep G F (.ref a) (.lst ds)
  | fl {a : Addr} {vs : List V} {ds : List D} : SqL G.K F a vs → Reps G F vs ds → Rep G F (.ref a) (.fl ds)
  | tup {a : Addr} {o : Obj} {vs : List V} {ds : List D} : good o → F a = some (tupHO o vs) → Reps G F vs ds → Rep G F (.ref a) (.tup ds)
  | ft {a : Addr} {vs : List V} {ds : List D} : SqT G.K F a vs → Reps G F vs ds → Rep G F (.ref a) (.ft ds)
  | pr {a : Addr} {vs : List V} {ds : List D} : F a = some (.tup vs) → Reps G F vs ds → Rep G F (.ref a) (.pr ds)
  | dk {a : Addr} {vs : List (Key × V)} {ds : List (Key × D)} : F a = some (.dK vs) → RepK G F vs ds → Rep G F (.ref a) (.dk ds)
  | dt {a : Addr} {vs : List (List Key × V)} {ds : List (List Key × D)} : F a = some (.dT vs) → RepT G F vs ds → Rep G F (.ref a) (.dt ds)
  | obj {a dx : Addr} {vs : List (Str × V)} {c : Nat} {ds : List D} : F a = some (.ins (G.cls c) dx vs) → F dx = some (.own a) → vs.map (·.1) = G.fld c → RepF G F vs ds → Rep G F (.ref a) (.obj c ds)
inductive Reps (G : Cf) (F : Hp) : List V → List D → Prop
  | nil : Reps G F [] []
  | cons {v : V} {d : D} {vs : List V} {ds : List D} : Rep G F v d → Reps G F vs ds → Reps G F (v :: vs) (d :: ds)
inductive RepK (G : Cf) (F : Hp) : List (Key × V) → List (Key × D) → Prop
  | nil : RepK G F [] []
  | cons {k : Key} {v : V} {d : D} {vs : List (Key × V)} {ds : List (Key × D)} : Rep G F v d → RepK G F vs ds → RepK G F ((k, v) :: vs) ((k, d) :: ds)
inductive RepT (G : Cf) (F : Hp) : List (List Key × V) → List (List Key × D) → Prop
  | nil : RepT G F [] []
  | cons {k : List Key} {v : V} {d : D} {vs : List (List Key × V)} {ds : List (List Key × D)} : Rep G F v d → RepT G F vs ds → RepT G F ((k, v) :: vs) ((k, d) :: ds)
inductive RepF (G : Cf) (F : Hp) : List (Str × V) → List D → Prop
  | nil : RepF G F [] []
  | cons {k : Str} {v : V} {d : D} {vs : List (Str × V)} {ds : List D} : Rep G F v d → RepF G F vs ds → RepF G F ((k, v) :: vs) (d :: ds)
end
mutual
theorem Rep.same {G : Cf} {F F' : Hp} (e : Same F F') : ∀ {v : V} {d : D}, Rep G F v d → Rep G F' v d
  | _, _, .non => .non
  | _, _, .bl b => .bl b
  | _, _, .int i => .int i
  | _, _, .str z => .str z
  | _, _, .lst h a => .lst (e _ _ h) (Reps.same e a)
  | _, _, .fl h a => .fl (e.seq h) (Reps.same e a)
  | _, _, .tup g h a => .tup g (e _ _ h) (Reps.same e a)
  | _, _, .ft h a => .ft (same_seqT e h) (Reps.same e a)
  | _, _, .pr h a => .pr (e _ _ h) (Reps.same e a)
  | _, _, .dk h a => .dk (e _ _ h) (RepK.same e a)
  | _, _, .dt h a => .dt (e _ _ h) (RepT.same e a)
  | _, _, .obj h1 h2 h3 a => .obj (e _ _ h1) (e _ _ h2) h3 (RepF.same e a)
theorem Reps.same {G : Cf} {F F' : Hp} (e : Same F F') : ∀ {v : List V} {d : List D}, Reps G F v d → Reps G F' v d
  | _, _, .nil => .nil
  | _, _, .cons h a => .cons (Rep.same e h) (Reps.same e a)
theorem RepK.same {G : Cf} {F F' : Hp} (e : Same F F') : ∀ {v : List (Key × V)} {d : List (Key × D)}, RepK G F v d → RepK G F' v d
  | _, _, .nil => .nil
  | _, _, .cons h a => .cons (Rep.same e h) (RepK.same e a)
theorem RepT.same {G : Cf} {F F' : Hp} (e : Same F F') : ∀ {v : List (List Key × V)} {d : List (List Key × D)}, RepT G F v d → RepT G F' v d
  | _, _, .nil => .nil
  | _, _, .cons h a => .cons (Rep.same e h) (RepT.same e a)
theorem RepF.same {G : Cf} {F F' : Hp} (e : Same F F') : ∀ {v : List (Str × V)} {d : List D}, RepF G F v d → RepF G F' v d
  | _, _, .nil => .nil
  | _, _, .cons h a => .cons (Rep.same e h) (RepF.same e a)
end
/-- an owned object -/
inductive RepO (G : Cf) (F : Hp) : HO → OD → Prop
  | lst {vs : List V} {ds : List D} : Reps G F vs ds → RepO G F (.lst vs) (.lst ds)
  | dk {vs : List (Key × V)} {ds : List (Key × D)} : RepK G F vs ds → RepO G F (.dK vs) (.dk ds)
  | dt {vs : List (List Key × V)} {ds : List (List Key × D)} : RepT G F vs ds → RepO G F (.dT vs) (.dt ds)
theorem RepO.same {G : Cf} {F F' : Hp} (e : Same F F') {ho : HO} {o : OD} (h : RepO G F ho o) : RepO G F' ho o := by
  cases h with
  | lst h => exact .lst (h.same e)
  | dk h => exact .dk (h.same e)
  | dt h => exact .dt (h.same e)
theorem RepO.rep {G : Cf} {F : Hp} {ho : HO} {o : OD} {p : Addr} (h : RepO G F ho o) (e : F p = some ho) : Rep G F (.ref p) o.d := by
  cases h with
  | lst h => exact .lst e h
  | dk h => exact .dk e h
  | dt h => exact .dt e h
/-- a def's frame: its arguments, the heap at its entry (what is frozen, all), what it may change -/
structure Fr where
  G : Cf
  n : Nat
  A : List V
  F0 : Hp
  H0 : Hp
  ex : List Addr
  pin : V
def RelC (f : Fr) (F H : Hp) (i : Nat) (s : Option (Option V)) : Cell → Prop
  | .no => True
  | .val d => ∃ v, s = some (some v) ∧ Rep f.G F v d
  | .own o => ∃ p ho, s = some (some (.ref p)) ∧ H p = some ho ∧ F p = none ∧ RepO f.G F ho o ∧ (f.H0 p = none ∨ p ∈ f.ex)
  | .par o => ∃ p ho, s = some (some (.ref p)) ∧ H p = some ho ∧ F p = none ∧ RepO f.G F ho o ∧ p ∈ f.ex ∧ f.A[i]? = some (.ref p)
  | .pin => s = some (some f.pin)
structure Rel (f : Fr) (F H : Hp) (σ : L2.St) (ρ : Env) : Prop where
  fh : Same F H
  f0 : Same f.F0 F
  out : ∀ b, f.H0 b ≠ none → b ∉ f.ex → H b = f.H0 b ∧ F b = f.F0 b
  len : σ.length = ρ.length
  cell : ∀ (i : Nat) (c : Cell), ρ[i]? = some c → RelC f F H i σ[i]? c
  sep : ∀ (i j : Nat) (c e : Cell) (p : Addr), ρ[i]? = some c → ρ[j]? = some e → c.owned = true → e.owned = true → σ[i]? = some (some (.ref p)) → σ[j]? = some (some (.ref p)) → i = j
/-- new frozen objects -/
structure Grow (F H F' H' : Hp) : Prop where
  ff : Same F F'
  hh : Same H H'
  fh : Same F' H'
  old : ∀ b, H b ≠ none → F' b = F b
theorem Grow.refl {F H : Hp} (h : Same F H) : Grow F H F H := ⟨Same.refl F, Same.refl H, h, fun _ _ => rfl⟩
theorem Grow.trans {F H F1 H1 F2 H2 : Hp} (a : Grow F H F1 H1) (b : Grow F1 H1 F2 H2) : Grow F H F2 H2 :=
  ⟨a.ff.trans b.ff, a.hh.trans b.hh, b.fh, fun c hc => by
    cases e : H c with
    | none => exact absurd e hc
    | some o =>
      rw [b.old c (by rw [a.hh _ _ e]; simp), a.old c hc]⟩
theorem Grow.new {F H : Hp} {p : Addr} {o : HO} (h : Same F H) (n : H p = none) : Grow F H (upd F p o) (upd H p o) := by
  refine ⟨Same.new (h.free n), Same.new n, fun b u e => ?_, fun b hb => ?_⟩
  · by_cases hb : b = p
    · rw [hb, upd_same] at e ⊢
      exact e
    · rw [upd_ne hb] at e ⊢
      exact h b u e
  · exact upd_ne fun e => hb (by rw [e, n])
theorem Rel.grow {f : Fr} {F H F' H' : Hp} {σ : L2.St} {ρ : Env} (r : Rel f F H σ ρ) (g : Grow F H F' H') : Rel f F' H' σ ρ := by
  refine ⟨g.fh, r.f0.trans g.ff, fun b hb he => ?_, r.len, fun i c e => ?_, r.sep⟩
  · obtain ⟨h1, h2⟩ := r.out b hb he
    cases z : H b with
    | none => rw [z] at h1; exact absurd h1.symm hb
    | some o =>
      refine ⟨?_, ?_⟩
      · rw [g.hh _ _ z, ← z, h1]
      · rw [g.old b (by rw [z]; simp), h2]
  · have h := r.cell i c e
    cases c with
    | no => trivial
    | pin => exact h
    | val d =>
      obtain ⟨v, h1, h2⟩ := h
      exact ⟨v, h1, h2.same g.ff⟩
    | own o =>
      obtain ⟨p, ho, h1, h2, h3, h4, h5⟩ := h
      exact ⟨p, ho, h1, g.hh _ _ h2, by rw [g.old p (by rw [h2]; simp)]; exact h3, h4.same g.ff, h5⟩
    | par o =>
      obtain ⟨p, ho, h1, h2, h3, h4, h5⟩ := h
      exact ⟨p, ho, h1, g.hh _ _ h2, by rw [g.old p (by rw [h2]; simp)]; exact h3, h4.same g.ff, h5⟩
/-- an exception on its way, as the handler finds it -/
def XRel (G : Cf) (F : Hp) (x : Exn) (cls : Value) (d : Option Addr) : Prop := cls = .ref (G.xc x.c) ∧
  ((x.l = [] ∧ G.xf x.c = [] ∧ d = none) ∨ ∃ da fs, d = some da ∧ F da = some (.xd fs) ∧ fs.map (·.1) = G.xf x.c ∧ RepF G F fs x.l)
section
variable {α β : Type}
def PostE (f : Fr) (W : WX) (F : Hp) (σ τ : L2.St) (R : L2.St → Hp → β → α → Prop) (Q : β → Hp → Prop) : Out α → Prop
  | .no => False
  | .ok a ρ => ∀ b F' H', Same F F' → Rel f F' H' (σ ++ τ) ρ → R σ F' b a → Q b H'
  | .err x ρ => ∀ cls d F' H', Same F F' → Rel f F' H' (σ ++ τ) ρ → XRel f.G F' x cls d → W cls d σ H'
/-- a reading by a mirror -/
def Sim (f : Fr) (W : WX) (R : L2.St → Hp → β → α → Prop) (t : L2.St → Hp → (β → Hp → Prop) → Prop) (m : Env → Out α) : Prop :=
  ∀ F H σ τ ρ Q, σ.length = f.n → Rel f F H (σ ++ τ) ρ → PostE f W F σ τ R Q (m ρ) → t σ H Q
abbrev SimE (f : Fr) (W : WX) (t : TE) (m : Env → Out D) : Prop := Sim f W (fun _ => Rep f.G) t m
abbrev SimT (f : Fr) (W : WX) (t : TT) (m : Env → Out Bool) : Prop := Sim f W (fun _ _ b a => b = a) t m
abbrev SimA (f : Fr) (W : WX) (t : TA) (m : Env → Out (List D)) : Prop := Sim f W (fun _ => Reps f.G) t m
end
theorem PostE.weak {α β : Type} {f : Fr} {W : WX} {F F1 : Hp} {σ τ : L2.St} {R : L2.St → Hp → β → α → Prop} {Q : β → Hp → Prop} {o : Out α} (e : Same F F1) (h : PostE f W F σ τ R Q o) : PostE f W F1 σ τ R Q o := by
  cases o with
  | no => exact h
  | ok a ρ => exact fun b F' H' e' => h b F' H' (e.trans e')
  | err x ρ => exact fun c d F' H' e' => h c d F' H' (e.trans e')
/-- one part, then what it gives -/
theorem sim_bind {α α' β β' : Type} {f : Fr} {W : WX} {R : L2.St → Hp → β → α → Prop} {R' : L2.St → Hp → β' → α' → Prop} {t : L2.St → Hp → (β → Hp → Prop) → Prop} {m : Env → Out α} (h : Sim f W R t m) {F H : Hp} {σ τ : L2.St} {ρ : Env} {Q : β' → Hp → Prop} {k : α → Env → Out α'} {c : β → Hp → Prop}
    (hn : σ.length = f.n) (r : Rel f F H (σ ++ τ) ρ) (p : PostE f W F σ τ R' Q ((m ρ).bind k))
    (hk : ∀ a ρ1 b F1 H1, Same F F1 → Rel f F1 H1 (σ ++ τ) ρ1 → R σ F1 b a → PostE f W F1 σ τ R' Q (k a ρ1) → c b H1) : t σ H c := by
  refine h F H σ τ ρ c hn r ?_
  cases e : m ρ with
  | no => rw [e] at p; exact p
  | ok a ρ1 =>
    rw [e] at p
    exact fun b F1 H1 s r1 hR => hk a ρ1 b F1 H1 s r1 hR (PostE.weak s p)
  | err x ρ1 =>
    rw [e] at p
    exact p
/-- the last step: a value, perhaps with new objects -/
theorem post_ok {α β : Type} {f : Fr} {W : WX} {F H F' H' : Hp} {σ τ : L2.St} {ρ : Env} {R : L2.St → Hp → β → α → Prop} {Q : β → Hp → Prop} {a : α} {b : β} (p : PostE f W F σ τ R Q (.ok a ρ)) (r : Rel f F H (σ ++ τ) ρ) (g : Grow F H F' H') (h : R σ F' b a) : Q b H' :=
  p b F' H' g.ff (r.grow g) h
end Mi
set_option Elab.async false
set_option linter.all false
set_option maxRecDepth 100000
set_option maxHeartbeats 4000000
namespace Mi
open PySem PySem.Spec PyProof.Rows L2 Wk
/-! ### operators by values of any kind -/
section
variable {X : Cx} {K : PySem.W.Frag}
theorem OpR.or {f : Value → Value → Sem Value} {r s : R2} (h1 : OpR X f r) (h2 : OpR X f s) : OpR X f (fun x y H Q => r x y H Q ∨ s x y H Q) :=
  fun pins st σ H x y v u Q I rx ry h => h.elim (h1 pins st σ H x y v u Q I rx ry) (h2 pins st σ H x y v u Q I rx ry)
theorem IxR.or {r s : R2} (h1 : IxR X r) (h2 : IxR X s) : IxR X (fun x y H Q => r x y H Q ∨ s x y H Q) :=
  fun e1 e2 pins st σ H x y v u Q I rx ry h => h.elim (h1 e1 e2 pins st σ H x y v u Q I rx ry) (h2 e1 e2 pins st σ H x y v u Q I rx ry)
theorem CallR.or {f : Value} {r s : List V → Hp → VK → Prop} (h1 : CallR X f r) (h2 : CallR X f s) : CallR X f (fun x H Q => r x H Q ∨ s x H Q) :=
  fun pins st σ H xs us Q I rx h => h.elim (h1 pins st σ H xs us Q I rx) (h2 pins st σ H xs us Q I rx)
theorem SlR.or {r s : V → Option Int → Option Int → Hp → VK → Prop} (h1 : SlR X r) (h2 : SlR X s) : SlR X (fun x a b H Q => r x a b H Q ∨ s x a b H Q) :=
  fun pins st σ H x v vl vu lo hi sl Q I rx hs pl pu h => h.elim (h1 pins st σ H x v vl vu lo hi sl Q I rx hs pl pu) (h2 pins st σ H x v vl vu lo hi sl Q I rx hs pl pu)
theorem Inv.tnewF {pins : List (Addr × Obj)} {s : Shared} {σ : L2.St} {H : Hp} {xs : List V} {its : List Value} {t' : Nat} (I : Inv X pins σ H s) (r : Vals xs its) (hz : xs.length ≤ sizeLine) :
    Inv X pins σ (upd H s.heap.objs.size (tupHO { cls := .type "tuple", data := .seq its.toArray } xs)) { s with heap := s.heap.push { cls := .type "tuple", data := .seq its.toArray }, toks := t' } := by
  refine I.laid (fun b u e => Heap.get?_push_of_some _ e) (Nat.le_refl _) ?_
  unfold tupHO
  split
  · exact ⟨hz, its, r, IsTup.new _ _⟩
  · exact ⟨Heap.get?_push_size _ rfl, hz, its, r, IsTup.new _ _⟩
def rCatF (K : PySem.W.Frag) : R2 := fun x y H Q => ∃ a b xs ys, x = .ref a ∧ y = .ref b ∧ SqT K H a xs ∧ SqT K H b ys ∧ xs.length + ys.length ≤ sizeLine ∧
  (xs = [] → Q (.ref b) H) ∧ (xs ≠ [] → ys = [] → Q (.ref a) H) ∧ (xs ≠ [] → ys ≠ [] → ∀ p o, H p = none → good o → Q (.ref p) (upd H p (tupHO o (xs ++ ys))))
theorem op_catF (hK : X.K = K) : OpR X (binaryOp .Add) (rCatF K) := by
  subst hK
  intro pins s σ H x y v u Q I rx ry h
  obtain ⟨a, b, xs, ys, rfl, rfl, ha, hb, hz, q0, q1, q2⟩ := h
  cases rx
  cases ry
  obtain ⟨its, r1, p1, _⟩ := I.tuple ha
  obtain ⟨its2, r2, p2, _⟩ := I.tuple hb
  by_cases hx : xs = []
  · subst hx
    cases r1
    exact cat_tup0 p1 p2 ⟨.ref b, H, I, rfl, q0 rfl⟩
  · refine HT.cat_tup p1 p2 (fun z => hx (r1.nil_iff.mp z)) (fun z => ⟨.ref a, H, I, rfl, q1 hx (r2.nil_iff.mp z)⟩) (fun z => ?_) (by rw [← r1.length, ← r2.length]; exact hz)
    exact ⟨.ref s.heap.objs.size, _, Inv.tnewF (t' := s.toks) I (r1.append r2) (by rw [List.length_append]; exact hz), rfl, q2 hx (fun w => z (r2.nil_iff.mpr w)) _ _ (I.hok.fresh (Nat.le_refl _)) ⟨rfl, rfl⟩⟩
def rSlF (K : PySem.W.Frag) : V → Option Int → Option Int → Hp → VK → Prop := fun x lo hi H Q => ∃ a xs, x = .ref a ∧ SqT K H a xs ∧
  (HT.sIx xs.length 0 lo = 0 ∧ HT.sIx xs.length xs.length hi = xs.length → Q (.ref a) H) ∧ (¬ (HT.sIx xs.length 0 lo = 0 ∧ HT.sIx xs.length xs.length hi = xs.length) → ∀ p o, H p = none → good o → Q (.ref p) (upd H p (tupHO o (cutV xs lo hi))))
theorem sl_tupF (hK : X.K = K) : SlR X (rSlF K) := by
  subst hK
  intro pins s σ H x v vl vu lo hi sl Q I rx hs pl pu h
  obtain ⟨a, xs, rfl, hx, q1, q2⟩ := h
  cases rx
  obtain ⟨its, r, ht, hz⟩ := I.tuple hx
  have hlen : its.toArray.size = xs.length := by rw [List.size_toArray]; exact r.length.symm
  by_cases hw : HT.sIx xs.length 0 lo = 0 ∧ HT.sIx xs.length xs.length hi = xs.length
  · refine ⟨"tuple", _, PyProof.Rows.slot_tuple_getitem.lookup, ht.typeIs, ?_⟩
    exact getItem_tuple_whole ht hs pl pu (by rw [hlen]; exact hw) ⟨.ref a, H, I, rfl, q1 hw⟩
  · refine ⟨"tuple", _, PyProof.Rows.slot_tuple_getitem.lookup, ht.typeIs, ?_⟩
    refine HT.getItem_tuple_cut ht hs pl pu (by rw [hlen]; exact hw) ?_ (by rw [hlen]; exact hz)
    rw [hlen]
    exact ⟨.ref s.heap.objs.size, _, Inv.tnewF (t' := s.toks) (xs := cutV xs lo hi) I ((r.drop (HT.sIx xs.length 0 lo)).take (HT.sIx xs.length xs.length hi - HT.sIx xs.length 0 lo)) (Nat.le_trans (cutV_length xs lo hi) hz), rfl, q2 hw _ _ (I.hok.fresh (Nat.le_refl _)) ⟨rfl, rfl⟩⟩
def tTupF (t : TA) : TE := fun σ H Q => t σ H fun xs H1 => xs.length ≤ sizeLine ∧ ∀ p o, H1 p = none → good o → Q (.ref p) (upd H1 p (tupHO o xs))
theorem pe_tupF {x1} {es : List Expr} {t : TA} {pos : Pos} (h : PA X es t) : PE X (.Tuple es x1 pos) (tTupF t) := by
  refine ⟨fun pins s σ H Q I hq => ?_⟩
  refine wpAny_Tuple_spliced (thn (h.run pos pins s σ H _ I hq) fun us s1 ⟨xs, H1, I1, r, z, q⟩ => ⟨by rw [← r.length]; exact z, ?_⟩)
  exact ⟨.ref s1.heap.objs.size, _, Inv.tnewF (t' := s1.toks) I1 r z, rfl, q _ _ (I1.hok.fresh (Nat.le_refl _)) ⟨rfl, rfl⟩⟩
def rTupleF (K : PySem.W.Frag) : List V → Hp → VK → Prop := fun xs H Q => ∃ p ys, xs = [.ref p] ∧ ((SqL K H p ys ∧ ∀ l o, H l = none → good o → Q (.ref l) (upd H l (tupHO o ys))) ∨ (SqT K H p ys ∧ Q (.ref p) H))
theorem call_tupleF (hK : X.K = K) : CallR X (.type "tuple") (rTupleF K) := by
  subst hK
  intro pins s σ H xs us Q I r h
  obtain ⟨p, ys, rfl, h⟩ := h
  obtain ⟨u, rfl, rx⟩ := vals1 r
  cases rx
  rcases h with ⟨hq, q⟩ | ⟨hq, q⟩
  · obtain ⟨its, r', pl, hz⟩ := I.list hq
    have hlen := r'.length
    refine call_tuple_list pl.isList (fun h' kp => ?_) (by simp only [List.size_toArray] <;> omega)
    have I1 : Inv X pins σ H { s with heap := h' } := I.kept (t' := s.toks) kp
    exact ⟨.ref h'.objs.size, _, Inv.tnewF (t' := s.toks) I1 r' hz, rfl, q _ _ (I1.hok.fresh (Nat.le_refl _)) ⟨rfl, rfl⟩⟩
  · obtain ⟨its, r', pl, hz⟩ := I.tuple hq
    exact call_tuple_same pl ⟨.ref p, H, I, rfl, q⟩
/-- dict(t) of a tuple of pairs -/
def rDictT (K : PySem.W.Frag) : List V → Hp → VK → Prop := fun xs H Q => ∃ (a : Addr) (o : Obj) (ps : List Addr) (kvs : List (Key × V)), xs = [.ref a] ∧ good o ∧ H a = some (.frz o (.tup (ps.map V.ref))) ∧ Paired (fun p kv => SqT K H p [kV kv.1, kv.2]) ps kvs ∧
    ∀ p, H p = none → Q (.ref p) (upd H p (.dK (mergeK [] kvs)))
theorem call_dictT (hK : X.K = K) (hcalm : X.calm = true) : CallR X (.type "dict") (rDictT K) := by
  subst hK
  intro pins s σ H xs us Q I r q
  obtain ⟨a, o, ps, kvs, ex, go, hq, hp, q⟩ := q
  subst ex
  obtain ⟨u, eu, rx⟩ := vals1 r
  subst eu
  cases rx
  obtain ⟨ho, hz, its, rv, ht⟩ := I.hok a _ hq
  have ei := refs_at rv
  subst ei
  rw [List.length_map] at hz
  obtain ⟨prs, rel, hl, hpr⟩ := pairs_of I hp
  obtain ⟨o', ho', hc, n, hd⟩ := ht
  rw [ho] at ho'
  cases ho'
  have ho2 : s.heap.get? a = some o := ho
  -- the pairs as the library wants them
  have hk : ∀ j, j < prs.length → ∃ (b : Addr) (u : Value), ps[j]? = some b ∧ IsTup s.heap b #[u, (prs.getD j (.inl 0, .none)).2] ∧ keyIs (prs.getD j (.inl 0, .none)).1 u = true := fun j hj => by
    obtain ⟨b, u, e1, e2, e3⟩ := hpr j prs[j] (List.getElem?_eq_getElem hj)
    have e : prs.getD j (.inl 0, .none) = prs[j] := by simp [List.getD, List.getElem?_eq_getElem hj]
    rw [e]
    exact ⟨b, u, e1, e2, e3⟩
  let Ts : Nat → Addr := fun j => ps.getD j 0
  obtain ⟨qs, hq1, hq2⟩ : ∃ qs : List (Value × Value), qs.length = prs.length ∧ ∀ j k v, qs[j]? = some (k, v) → ps[j]? = some (Ts j) ∧ IsTup s.heap (Ts j) #[k, v] ∧ ∃ kk, prs[j]? = some (kk, v) ∧ keyIs kk k = true := by
    clear q hq ho ho2 hd go
    have mk : ∀ m, m ≤ prs.length → ∃ qs : List (Value × Value), qs.length = m ∧ ∀ j k v, qs[j]? = some (k, v) → ps[j]? = some (Ts j) ∧ IsTup s.heap (Ts j) #[k, v] ∧ ∃ kk, prs[j]? = some (kk, v) ∧ keyIs kk k = true := fun m => by
      induction m with
      | zero => exact fun _ => ⟨[], rfl, fun j k v e => by simp at e⟩
      | succ m ih =>
        intro hm
        obtain ⟨qs, g1, g2⟩ := ih (by omega)
        obtain ⟨b, u, e1, e2, e3⟩ := hpr m prs[m] (List.getElem?_eq_getElem (by omega))
        refine ⟨qs ++ [(u, prs[m].2)], by simp [g1], fun j k v e => ?_⟩
        by_cases hj : j < m
        · rw [List.getElem?_append_left (by omega)] at e
          exact g2 j k v e
        · have hjm : j = m := by
            have := (List.getElem?_eq_some_iff.mp e).1
            rw [List.length_append] at this
            simp at this
            omega
          subst hjm
          have e' : (qs ++ [(u, prs[j].2)])[qs.length]? = some (k, v) := by rw [g1]; exact e
          rw [List.getElem?_concat_length] at e'
          cases e'
          have eT : Ts j = b := by simp [Ts, List.getD, e1]
          rw [eT]
          exact ⟨e1, e2, prs[j].1, by rw [List.getElem?_eq_getElem (by omega)], e3⟩
    exact mk prs.length (Nat.le_refl _)
  have ok : PlainSeq "tuple" s.heap a (ps.map Value.ref).toArray ∧ PairItems s.heap (ps.map Value.ref).toArray Ts qs := by
    refine ⟨⟨o, n, ho2, hc, go.2, hd⟩, by simp [hq1, hl], fun j k v e => ?_⟩
    obtain ⟨e1, e2, _⟩ := hq2 j k v e
    exact ⟨by simp [e1], .inl e2⟩
  refine PySem.call_dict_pairs (knd := mixKind X.prog X.w) (kvs := prs) (PairArg.tuple a (ps.map Value.ref).toArray Ts qs) (I.ok.hd hcalm) ok ⟨hq1.symm, fun i kk v e => ?_⟩ (by rw [hq1, hl]; exact hz) fun h' tk hd' k => ?_
  · obtain ⟨_, _, k', e3, e4⟩ := hq2 i kk v e
    exact ⟨k', e3, e4⟩
  · have hm : (s.heap.objs.size == sysModules) = false := beq_eq_false_iff_ne.mpr (Nat.ne_of_gt I.big)
    have hlen : (mergeK [] kvs).length ≤ sizeLine := by
      refine Nat.le_trans (length_mergeK kvs []) ?_
      rw [List.length_nil, Nat.zero_add, rel.length, hl]
      exact hz
    exact ⟨.ref s.heap.objs.size, upd H s.heap.objs.size (.dK (mergeK [] kvs)), I.laid (t' := tk) (fun b o e => k b o (by simp) e) (Nat.le_refl _) (show ObjOk X.prog X.w _ _ _ (.dK (mergeK [] kvs)) from ⟨hlen, hm, merged [] prs, KV.merge rel .nil, hd'⟩), rfl, q _ (I.hok.fresh (Nat.le_refl _))⟩
def rStrs (g : Str → Str → V) : R2 := fun x y H Q => ∃ i j, x = .str i ∧ y = .str j ∧ Q (g i j) H
def rAddS : R2 := fun x y H Q => ∃ i j, x = .str i ∧ y = .str j ∧ i.length + j.length ≤ sizeLine ∧ Q (.str (i ++ j)) H
def rAddG (K : PySem.W.Frag) : R2 := fun x y H Q => rI0 (fun i j => .int (i + j)) x y H Q ∨ (rAddS x y H Q ∨ (rCat x y H Q ∨ rCatF K x y H Q))
theorem op_addG (hK : X.K = K) : OpR X (binaryOp .Add) (rAddG K) := by
  subst hK
  exact OpR.or op_add (OpR.or op_add_str (OpR.or op_cat (op_catF rfl)))
def rMulG : R2 := fun x y H Q => rI CMulW (fun i j => .int (i * j)) x y H Q ∨ rRep x y H Q
theorem op_mulG : OpR X (binaryOp .Mult) rMulG := OpR.or op_mulW op_rep
def rDivG : R2 := fun x y H Q => rI CDivW (fun i j => .int (i / j)) x y H Q ∨ rI CDivN (fun i j => .int (i.fdiv j)) x y H Q
theorem op_divG : OpR X (binaryOp .FloorDiv) rDivG := OpR.or op_fdivW op_fdivN
abbrev rModG : R2 := rI (fun _ j => j ≠ 0) fun i j => .int (i.fmod j)
theorem op_modG : OpR X (binaryOp .Mod) rModG := op_modN
abbrev rPowG : R2 := rI CPow fun i j => .int (i ^ j.toNat)
abbrev rSubG : R2 := rI0 fun i j => .int (i - j)
def rEqG (K : PySem.W.Frag) : R2 := fun x y H Q => rEq x y H Q ∨ rEqD K x y H Q
def rNeG (K : PySem.W.Frag) : R2 := fun x y H Q => rNe x y H Q ∨ rNeD K x y H Q
theorem op_eqG (hK : X.K = K) (hu : X.A.units + 64 < cLine) : OpR X (compareOp .Eq) (rEqG K) := by
  subst hK
  exact OpR.or op_eq (op_eqD hu)
theorem op_neG (hK : X.K = K) (hu : X.A.units + 64 < cLine) : OpR X (compareOp .NotEq) (rNeG K) := by
  subst hK
  exact OpR.or op_ne (op_neD hu)
def rLtG : R2 := fun x y H Q => rI0 (fun i j => .bl (decide (i < j))) x y H Q ∨ rStrs (fun i j => .bl (decide (i.cps.toList < j.cps.toList))) x y H Q
def rLeG : R2 := fun x y H Q => rI0 (fun i j => .bl (decide (i ≤ j))) x y H Q ∨ rStrs (fun i j => .bl (!decide (j.cps.toList < i.cps.toList))) x y H Q
def rGtG : R2 := fun x y H Q => rI0 (fun i j => .bl (decide (j < i))) x y H Q ∨ rStrs (fun i j => .bl (decide (j.cps.toList < i.cps.toList))) x y H Q
def rGeG : R2 := fun x y H Q => rI0 (fun i j => .bl (decide (j ≤ i))) x y H Q ∨ rStrs (fun i j => .bl (!decide (i.cps.toList < j.cps.toList))) x y H Q
theorem op_ltG : OpR X (compareOp .Lt) rLtG := OpR.or op_lt op_lt_str
theorem op_leG : OpR X (compareOp .LtE) rLeG := OpR.or op_le op_le_str
theorem op_gtG : OpR X (compareOp .Gt) rGtG := OpR.or op_gt op_gt_str
theorem op_geG : OpR X (compareOp .GtE) rGeG := OpR.or op_ge op_ge_str
def rInS (neg : Bool) : R2 := fun x y H Q => ∃ (c : Nat) (z : Str), x = .str ⟨#[c]⟩ ∧ y = .str z ∧ Q (.bl (if neg then !decide (c ∈ z.cps.toList) else decide (c ∈ z.cps.toList))) H
def rInD (neg : Bool) : R2 := fun y x H Q => ∃ a o, x = .ref a ∧ DGet H a y o ∧ Q (.bl (if neg then !o.isSome else o.isSome)) H
def rInG (K : PySem.W.Frag) (neg : Bool) : R2 := fun x y H Q => rIn K neg x y H Q ∨ (rInS neg x y H Q ∨ rInD neg x y H Q)
theorem op_inG (hK : X.K = K) (hu : X.A.units + 1 < cLine) : OpR X (compareOp .In) (rInG K false) := by
  subst hK
  refine OpR.or op_in_seq (OpR.or op_in_sign ?_)
  intro pins s σ H y x iv u Q I ry rx h
  obtain ⟨a, o, rfl, g, q⟩ := h
  obtain rfl : u = Value.ref a := rx
  exact d_in hu I g ry fun s3 I3 => ⟨.bl o.isSome, H, I3, rfl, q⟩
theorem op_notInG (hK : X.K = K) (hu : X.A.units + 1 < cLine) : OpR X (compareOp .NotIn) (rInG K true) := by
  subst hK
  refine OpR.or op_notIn_seq (OpR.or op_notIn_sign ?_)
  intro pins s σ H y x iv u Q I ry rx h
  obtain ⟨a, o, rfl, g, q⟩ := h
  obtain rfl : u = Value.ref a := rx
  exact d_notIn hu I g ry fun s3 I3 => ⟨.bl (!o.isSome), H, I3, rfl, q⟩
def rIsG : R2 := fun x y H Q => (y = .non ∧ Q (.bl (decide (x = .non))) H) ∨ rIsB x y H Q
def rNotG : R2 := fun x y H Q => (y = .non ∧ Q (.bl (!decide (x = .non))) H) ∨ rNotB x y H Q
theorem op_isG : OpR X (compareOp .Is) rIsG := OpR.or op_isN op_isBl
theorem op_notG : OpR X (compareOp .IsNot) rNotG := OpR.or op_notN op_notBl
def rIxD : R2 := fun x y H Q => ∃ a v, x = .ref a ∧ DGet H a y (some v) ∧ Q v H
theorem ix_dict (hu : X.A.units + 1 < cLine) : IxR X rIxD := by
  intro value slice pins s σ H x y o i Q I rx ry h hs
  obtain ⟨a, v, rfl, g, q⟩ := h
  obtain rfl : o = Value.ref a := rx
  have hT := dict_typeIs I g
  have h₂ : wpAny (model X.prog X.w) X.A (getItem (.ref a) i) (EP X pins σ Q) X.xe s := d_getItem hu I g ry fun w' s3 I3 rw' => ⟨v, H, I3, rw', q⟩
  unfold subscriptTail
  refine wpAny_bind ?_
  rw [getitemInPython_of_ne hT.not_modules]
  refine wpAny_bind (wpAny_specialOf hT PySem.F.slot_dict_getitem.lookup ?_)
  have fin : wpAny (model X.prog X.w) X.A (subscripted slice false (.ref a) i) (fun r s₃ => wpAny (model X.prog X.w) X.A (letTemporaryGo value (.ref a) r >>= fun _ => pure r) (EP X pins σ Q) X.xe s₃) X.xe s := by
    rw [hs]
    exact wpAny_operating (wpAny_mono h₂ (fun r s₃ h₃ => wpAny_bind (wpAny_letTemporaryGo (wpAny_pure h₃))) fun _ _ x => x)
  first
    | exact wpAny_pure (wpAny_bind fin)
    | exact wpAny_bind (wpAny_pure (wpAny_bind fin))
    | exact wpAny_bind fin
def rIxG (K : PySem.W.Frag) : R2 := fun x y H Q => rIxL K x y H Q ∨ (rIxT K x y H Q ∨ (rIxS x y H Q ∨ rIxD x y H Q))
theorem ix_G (hK : X.K = K) (hu : X.A.units + 1 < cLine) : IxR X (rIxG K) := by
  subst hK
  exact IxR.or ix_list (IxR.or ix_tup (IxR.or ix_str (ix_dict hu)))
def rSlG (K : PySem.W.Frag) : V → Option Int → Option Int → Hp → VK → Prop := fun x a b H Q => rSlL K x a b H Q ∨ (rSlF K x a b H Q ∨ rSlS x a b H Q)
theorem sl_G (hK : X.K = K) : SlR X (rSlG K) := by
  subst hK
  exact SlR.or sl_list (SlR.or (sl_tupF rfl) sl_str)
end
end Mi
set_option Elab.async false
set_option linter.all false
set_option maxRecDepth 100000
set_option maxHeartbeats 4000000
namespace Mi
open PySem PySem.Spec PyProof.Rows L2 Wk
/-! ### a value that is looked at: frozen, or owned by a name -/
def Pk (G : Cf) (F H : Hp) (v : V) (d : D) : Prop := Rep G F v d ∨ ∃ p ho o, v = .ref p ∧ H p = some ho ∧ RepO G F ho o ∧ d = o.d
section
variable {G : Cf} {F H : Hp} {v : V}
theorem pk_int {i : Int} (h : Pk G F H v (.int i)) : v = .int i := by
  rcases h with h | ⟨p, ho, o, rfl, h1, h2, h3⟩
  · cases h; rfl
  · cases o <;> cases h3
theorem pk_str {i : Str} (h : Pk G F H v (.str i)) : v = .str i := by
  rcases h with h | ⟨p, ho, o, rfl, h1, h2, h3⟩
  · cases h; rfl
  · cases o <;> cases h3
theorem pk_bl {i : Bool} (h : Pk G F H v (.bl i)) : v = .bl i := by
  rcases h with h | ⟨p, ho, o, rfl, h1, h2, h3⟩
  · cases h; rfl
  · cases o <;> cases h3
theorem pk_non (h : Pk G F H v .non) : v = .non := by
  rcases h with h | ⟨p, ho, o, rfl, h1, h2, h3⟩
  · cases h; rfl
  · cases o <;> cases h3
theorem pk_lst {l : List D} (s : Same F H) (h : Pk G F H v (.lst l)) : ∃ p vs, v = .ref p ∧ H p = some (.lst vs) ∧ Reps G F vs l := by
  rcases h with h | ⟨p, ho, o, rfl, h1, h2, h3⟩
  · cases h with
    | lst h1 h2 => exact ⟨_, _, rfl, s _ _ h1, h2⟩
  · cases o with
    | lst k =>
      obtain rfl : l = k := D.lst.inj h3
      cases h2 with
      | lst h2 => exact ⟨_, _, rfl, h1, h2⟩
    | dk k => cases h3
    | dt k => cases h3
theorem pk_fl {l : List D} (s : Same F H) (h : Pk G F H v (.fl l)) : ∃ p vs, v = .ref p ∧ SqL G.K H p vs ∧ Reps G F vs l := by
  rcases h with h | ⟨p, ho, o, rfl, h1, h2, h3⟩
  · cases h with
    | fl h1 h2 => exact ⟨_, _, rfl, s.seq h1, h2⟩
  · cases o <;> cases h3
theorem pk_tup {l : List D} (s : Same F H) (h : Pk G F H v (.tup l)) : ∃ p vs, v = .ref p ∧ SqT G.K H p vs ∧ Reps G F vs l := by
  rcases h with h | ⟨p, ho, o, rfl, h1, h2, h3⟩
  · cases h with
    | tup h0 h1 h2 => exact ⟨_, _, rfl, tup_sq (s _ _ h1), h2⟩
  · cases o <;> cases h3
theorem pk_ft {l : List D} (s : Same F H) (h : Pk G F H v (.ft l)) : ∃ p vs, v = .ref p ∧ SqT G.K H p vs ∧ Reps G F vs l := by
  rcases h with h | ⟨p, ho, o, rfl, h1, h2, h3⟩
  · cases h with
    | ft h1 h2 => exact ⟨_, _, rfl, same_seqT s h1, h2⟩
  · cases o <;> cases h3
theorem pk_dk {l : List (Key × D)} (s : Same F H) (h : Pk G F H v (.dk l)) : ∃ p vs, v = .ref p ∧ H p = some (.dK vs) ∧ RepK G F vs l := by
  rcases h with h | ⟨p, ho, o, rfl, h1, h2, h3⟩
  · cases h with
    | dk h1 h2 => exact ⟨_, _, rfl, s _ _ h1, h2⟩
  · cases o with
    | lst k => cases h3
    | dk k =>
      obtain rfl : l = k := D.dk.inj h3
      cases h2 with
      | dk h2 => exact ⟨_, _, rfl, h1, h2⟩
    | dt k => cases h3
theorem pk_dt {l : List (List Key × D)} (s : Same F H) (h : Pk G F H v (.dt l)) : ∃ p vs, v = .ref p ∧ H p = some (.dT vs) ∧ RepT G F vs l := by
  rcases h with h | ⟨p, ho, o, rfl, h1, h2, h3⟩
  · cases h with
    | dt h1 h2 => exact ⟨_, _, rfl, s _ _ h1, h2⟩
  · cases o with
    | lst k => cases h3
    | dk k => cases h3
    | dt k =>
      obtain rfl : l = k := D.dt.inj h3
      cases h2 with
      | dt h2 => exact ⟨_, _, rfl, h1, h2⟩
end
/-! ### lists of values -/
section
variable {G : Cf} {F : Hp}
theorem Reps.length : ∀ {vs : List V} {ds : List D}, Reps G F vs ds → vs.length = ds.length
  | _, _, .nil => rfl
  | _, _, .cons _ h => by rw [List.length_cons, List.length_cons, Reps.length h]
theorem Reps.append : ∀ {vs ws : List V} {ds es : List D}, Reps G F vs ds → Reps G F ws es → Reps G F (vs ++ ws) (ds ++ es)
  | _, _, _, _, .nil, h => h
  | _, _, _, _, .cons a h, k => .cons a (Reps.append h k)
theorem Reps.take : ∀ (n : Nat) {vs : List V} {ds : List D}, Reps G F vs ds → Reps G F (vs.take n) (ds.take n)
  | 0, _, _, _ => .nil
  | _ + 1, _, _, .nil => .nil
  | n + 1, _, _, .cons a h => .cons a (Reps.take n h)
theorem Reps.drop : ∀ (n : Nat) {vs : List V} {ds : List D}, Reps G F vs ds → Reps G F (vs.drop n) (ds.drop n)
  | 0, _, _, h => h
  | _ + 1, _, _, .nil => .nil
  | n + 1, _, _, .cons a h => Reps.drop n h
theorem Reps.get : ∀ {i : Nat} {vs : List V} {ds : List D} {d : D}, Reps G F vs ds → ds[i]? = some d → ∃ v, vs[i]? = some v ∧ Rep G F v d
  | _, _, _, _, .nil, e => by simp at e
  | 0, _, _, _, .cons a _, e => by simp at e; subst e; exact ⟨_, rfl, a⟩
  | i + 1, _, _, d, .cons _ h, e => by
    obtain ⟨v, h1, h2⟩ := Reps.get (i := i) (d := d) h (by simpa using e)
    exact ⟨v, by simpa using h1, h2⟩
theorem Reps.set : ∀ (i : Nat) {vs : List V} {ds : List D} {v : V} {d : D}, Reps G F vs ds → Rep G F v d → Reps G F (vs.set i v) (ds.set i d)
  | _, _, _, _, _, .nil, _ => .nil
  | 0, _, _, _, _, .cons _ h, k => .cons k h
  | i + 1, _, _, _, _, .cons a h, k => .cons a (Reps.set i h k)
theorem Reps.eraseIdx : ∀ (i : Nat) {vs : List V} {ds : List D}, Reps G F vs ds → Reps G F (vs.eraseIdx i) (ds.eraseIdx i)
  | _, _, _, .nil => .nil
  | 0, _, _, .cons _ h => h
  | i + 1, _, _, .cons a h => .cons a (Reps.eraseIdx i h)
theorem Reps.reverse {vs : List V} {ds : List D} (h : Reps G F vs ds) : Reps G F vs.reverse ds.reverse := by
  induction vs generalizing ds with
  | nil => cases h; exact .nil
  | cons v vs ih =>
    cases h with
    | cons a h =>
      rw [List.reverse_cons, List.reverse_cons]
      exact Reps.append (ih h) (.cons a .nil)
theorem Reps.isEmpty {vs : List V} {ds : List D} (h : Reps G F vs ds) : vs.isEmpty = ds.isEmpty := by cases h <;> rfl
def fget {κ : Type} [DecidableEq κ] (l : List (κ × D)) (k : κ) : Option D := (l.find? fun kv => decide (kv.1 = k)).map (·.2)
theorem RepK.get (k : Key) : ∀ {vs : List (Key × V)} {ds : List (Key × D)}, RepK G F vs ds → match fget ds k with
    | some d => ∃ v, valV vs k = some v ∧ Rep G F v d
    | none => valV vs k = none
  | _, _, .nil => rfl
  | _, _, .cons (k := k') (vs := vs) (ds := ds) a h => by
    unfold fget valV
    simp only [List.find?_cons]
    by_cases e : k' = k
    · simp only [e, decide_true, Option.map_some]
      exact ⟨_, rfl, a⟩
    · simp only [e, decide_false]
      exact RepK.get k h
theorem RepT.get (k : List Key) : ∀ {vs : List (List Key × V)} {ds : List (List Key × D)}, RepT G F vs ds → match fget ds k with
    | some d => ∃ v, valV vs k = some v ∧ Rep G F v d
    | none => valV vs k = none
  | _, _, .nil => rfl
  | _, _, .cons (k := k') (vs := vs) (ds := ds) a h => by
    unfold fget valV
    simp only [List.find?_cons]
    by_cases e : k' = k
    · simp only [e, decide_true, Option.map_some]
      exact ⟨_, rfl, a⟩
    · simp only [e, decide_false]
      exact RepT.get k h
end
/-! ### leaves: one step by values -/
def Cont (G : Cf) (F H : Hp) (d : D) (Q : VK) : Prop := ∀ v F' H', Grow F H F' H' → Rep G F' v d → Q v H'
def Op2 (G : Cf) (r : R2) (g : D → D → Option D) : Prop := ∀ F H x y dx dy d Q, Same F H → Pk G F H x dx → Pk G F H y dy → g dx dy = some d → Cont G F H d Q → r x y H Q
theorem cont_id {G : Cf} {F H : Hp} {d : D} {v : V} {Q : VK} (s : Same F H) (c : Cont G F H d Q) (h : Rep G F v d) : Q v H := c v F H (Grow.refl s) h
theorem cont_new {G : Cf} {F H : Hp} {d : D} {p : Addr} {o : HO} {Q : VK} (s : Same F H) (c : Cont G F H d Q) (n : H p = none) (h : Rep G (upd F p o) (.ref p) d) : Q (.ref p) (upd H p o) := c _ _ _ (Grow.new s n) h
theorem rep_lst {G : Cf} {F H : Hp} {p : Addr} {vs : List V} {ds : List D} (s : Same F H) (n : H p = none) (h : Reps G F vs ds) : Rep G (upd F p (.lst vs)) (.ref p) (.lst ds) := .lst upd_same (h.same (Same.new (s.free n)))
theorem rep_tup {G : Cf} {F H : Hp} {p : Addr} {o : Obj} {vs : List V} {ds : List D} (g : good o) (s : Same F H) (n : H p = none) (h : Reps G F vs ds) : Rep G (upd F p (tupHO o vs)) (.ref p) (.tup ds) := .tup g upd_same (h.same (Same.new (s.free n)))
/-- a bound on lengths -/
def lim : Nat := 100000
theorem lim_sz {n : Nat} (h : n ≤ lim) : n ≤ sizeLine := sz_of h
def dAdd : D → D → Option D
  | .int a, .int b => some (.int (a + b))
  | .str a, .str b => if a.length + b.length ≤ lim then some (.str (a ++ b)) else none
  | .lst a, .lst b => if a.length + b.length ≤ lim then some (.lst (a ++ b)) else none
  | .tup a, .tup b => if a.length + b.length ≤ lim then some (.tup (a ++ b)) else none
  | _, _ => none
theorem o2_add {G : Cf} : Op2 G (rAddG G.K) dAdd := by
  intro F H x y dx dy d Q s hx hy e c
  unfold dAdd at e
  split at e
  · obtain rfl := pk_int hx; obtain rfl := pk_int hy
    cases e
    exact .inl ⟨_, _, rfl, rfl, cont_id s c (.int _)⟩
  · obtain rfl := pk_str hx; obtain rfl := pk_str hy
    split at e
    · rename_i hl
      cases e
      exact .inr (.inl ⟨_, _, rfl, rfl, lim_sz hl, cont_id s c (.str _)⟩)
    · cases e
  · obtain ⟨p, vs, rfl, h1, h2⟩ := pk_lst s hx; obtain ⟨q, ws, rfl, h3, h4⟩ := pk_lst s hy
    split at e
    · rename_i hl
      cases e
      exact .inr (.inr (.inl ⟨_, _, _, _, rfl, rfl, h1, h3, lim_sz (by rw [h2.length, h4.length]; exact hl), fun r n => cont_new s c n (rep_lst s n (h2.append h4))⟩))
    · cases e
  · obtain ⟨p, vs, rfl, h1, h2⟩ := pk_tup s hx; obtain ⟨q, ws, rfl, h3, h4⟩ := pk_tup s hy
    split at e
    · rename_i hl
      cases e
      refine .inr (.inr (.inr ⟨_, _, _, _, rfl, rfl, h1, h3, lim_sz (by rw [h2.length, h4.length]; exact hl), fun z => ?_, fun z1 z2 => ?_, fun _ _ r o n go => cont_new s c n (rep_tup go s n (h2.append h4))⟩))
      · subst z
        cases h2
        rcases hy with hy | ⟨_, _, o, _, _, _, ho⟩
        · exact cont_id s c hy
        · cases o <;> cases ho
      · subst z2
        cases h4
        rw [List.append_nil] at c
        rcases hx with hx | ⟨_, _, o, _, _, _, ho⟩
        · exact cont_id s c hx
        · cases o <;> cases ho
    · cases e
  · cases e
def dSub : D → D → Option D
  | .int a, .int b => some (.int (a - b))
  | _, _ => none
theorem o2_sub {G : Cf} : Op2 G rSubG dSub := by
  intro F H x y dx dy d Q s hx hy e c
  unfold dSub at e
  split at e
  · obtain rfl := pk_int hx; obtain rfl := pk_int hy
    cases e
    exact ⟨_, _, rfl, rfl, cont_id s c (.int _)⟩
  · cases e
def dMul : D → D → Option D
  | .int a, .int b => if a.natAbs.log2 + b.natAbs.log2 < 1000000 then some (.int (a * b)) else none
  | .lst a, .int b => if (-(2 ^ 63) ≤ b ∧ b < 2 ^ 63) ∧ a.length * b.toNat ≤ lim then some (.lst (List.replicate b.toNat a).flatten) else none
  | _, _ => none
theorem Reps.flat {G : Cf} {F : Hp} {vs : List V} {ds : List D} (h : Reps G F vs ds) : ∀ n : Nat, Reps G F (List.replicate n vs).flatten (List.replicate n ds).flatten
  | 0 => .nil
  | n + 1 => by
    rw [List.replicate_succ, List.replicate_succ, List.flatten_cons, List.flatten_cons]
    exact h.append (Reps.flat h n)
theorem o2_mul {G : Cf} : Op2 G rMulG dMul := by
  intro F H x y dx dy d Q s hx hy e c
  unfold dMul at e
  split at e
  · obtain rfl := pk_int hx; obtain rfl := pk_int hy
    split at e
    · rename_i hl
      cases e
      exact .inl ⟨_, _, rfl, rfl, hl, cont_id s c (.int _)⟩
    · cases e
  · obtain ⟨p, vs, rfl, h1, h2⟩ := pk_lst s hx; obtain rfl := pk_int hy
    split at e
    · rename_i hl
      cases e
      exact .inr ⟨_, _, _, rfl, rfl, h1, hl.1.1, hl.1.2, lim_sz (by rw [h2.length]; exact hl.2), fun r n => cont_new s c n (rep_lst s n (h2.flat _))⟩
    · cases e
  · cases e
def dDiv : D → D → Option D
  | .int a, .int b => if 0 < b ∧ b.natAbs.log2 < 9000 then some (.int (a / b)) else if b ≠ 0 ∧ b.natAbs < 1073741824 then some (.int (a.fdiv b)) else none
  | _, _ => none
def dMod : D → D → Option D
  | .int a, .int b => if b ≠ 0 then some (.int (a.fmod b)) else none
  | _, _ => none
theorem o2_mod {G : Cf} : Op2 G rModG dMod := by
  intro F H x y dx dy d Q s hx hy e c
  unfold dMod at e
  split at e
  · obtain rfl := pk_int hx; obtain rfl := pk_int hy
    split at e
    · rename_i hl
      cases e
      exact ⟨_, _, rfl, rfl, hl, cont_id s c (.int _)⟩
    · cases e
  · cases e
def dPow : D → D → Option D
  | .int a, .int b => if 0 ≤ b ∧ b ≤ 1000000 ∧ a.natAbs < 2 ^ 64 then some (.int (a ^ b.toNat)) else none
  | _, _ => none
theorem o2_pow {G : Cf} : Op2 G rPowG dPow := by
  intro F H x y dx dy d Q s hx hy e c
  unfold dPow at e
  split at e
  · obtain rfl := pk_int hx; obtain rfl := pk_int hy
    split at e
    · rename_i hl
      cases e
      exact ⟨_, _, rfl, rfl, hl, cont_id s c (.int _)⟩
    · cases e
  · cases e
def sless (a b : Str) : Bool := decide (a.cps.toList < b.cps.toList)
def dLt : D → D → Option D
  | .int a, .int b => some (.bl (decide (a < b)))
  | .str a, .str b => some (.bl (sless a b))
  | _, _ => none
def dLe : D → D → Option D
  | .int a, .int b => some (.bl (decide (a ≤ b)))
  | .str a, .str b => some (.bl (!sless b a))
  | _, _ => none
def dGt : D → D → Option D
  | .int a, .int b => some (.bl (decide (b < a)))
  | .str a, .str b => some (.bl (sless b a))
  | _, _ => none
def dGe : D → D → Option D
  | .int a, .int b => some (.bl (decide (b ≤ a)))
  | .str a, .str b => some (.bl (!sless a b))
  | _, _ => none
theorem o2_lt {G : Cf} : Op2 G rLtG dLt := by
  intro F H x y dx dy d Q s hx hy e c
  unfold dLt at e
  split at e
  · obtain rfl := pk_int hx; obtain rfl := pk_int hy; cases e
    exact .inl ⟨_, _, rfl, rfl, cont_id s c (.bl _)⟩
  · obtain rfl := pk_str hx; obtain rfl := pk_str hy; cases e
    exact .inr ⟨_, _, rfl, rfl, cont_id s c (.bl _)⟩
  · cases e
theorem o2_le {G : Cf} : Op2 G rLeG dLe := by
  intro F H x y dx dy d Q s hx hy e c
  unfold dLe at e
  split at e
  · obtain rfl := pk_int hx; obtain rfl := pk_int hy; cases e
    exact .inl ⟨_, _, rfl, rfl, cont_id s c (.bl _)⟩
  · obtain rfl := pk_str hx; obtain rfl := pk_str hy; cases e
    exact .inr ⟨_, _, rfl, rfl, cont_id s c (.bl _)⟩
  · cases e
theorem o2_gt {G : Cf} : Op2 G rGtG dGt := by
  intro F H x y dx dy d Q s hx hy e c
  unfold dGt at e
  split at e
  · obtain rfl := pk_int hx; obtain rfl := pk_int hy; cases e
    exact .inl ⟨_, _, rfl, rfl, cont_id s c (.bl _)⟩
  · obtain rfl := pk_str hx; obtain rfl := pk_str hy; cases e
    exact .inr ⟨_, _, rfl, rfl, cont_id s c (.bl _)⟩
  · cases e
theorem o2_ge {G : Cf} : Op2 G rGeG dGe := by
  intro F H x y dx dy d Q s hx hy e c
  unfold dGe at e
  split at e
  · obtain rfl := pk_int hx; obtain rfl := pk_int hy; cases e
    exact .inl ⟨_, _, rfl, rfl, cont_id s c (.bl _)⟩
  · obtain rfl := pk_str hx; obtain rfl := pk_str hy; cases e
    exact .inr ⟨_, _, rfl, rfl, cont_id s c (.bl _)⟩
  · cases e
end Mi
set_option Elab.async false
set_option linter.all false
set_option maxRecDepth 100000
set_option maxHeartbeats 4000000
namespace Mi
open PySem PySem.Spec PyProof.Rows L2 Wk
/-! ### == -/
mutual
def py : D → Option PyData
  | .non => some .none
  | .bl b => some (.bool b)
  | .int i => some (.int i)
  | .str z => some (.str z)
  | .lst l => (pys l).map .list
  | .fl l => (pys l).map .list
  | .tup l => (pys l).map .tuple
  | .ft l => (pys l).map .tuple
  | .pr l => (pys l).map .tuple
  | .dk _ => none
  | .dt _ => none
  | .obj _ _ => none
def pys : List D → Option (List PyData)
  | [] => some []
  | d :: ds => match py d, pys ds with
    | some x, some xs => some (x :: xs)
    | _, _ => none
end
mutual
theorem Rep.dp {G : Cf} {F : Hp} : ∀ {v : V} {d : D} {x : PyData}, Rep G F v d → py d = some x → Dp G.K F v x
  | _, _, _, .non, e => by cases e; exact .non
  | _, _, _, .bl b, e => by cases e; exact .bl b
  | _, _, _, .int i, e => by cases e; exact .int i
  | _, _, _, .str z, e => by cases e; exact .str z
  | _, _, _, .lst (ds := ds) h a, e => by
    rw [py] at e
    obtain ⟨xs, e1, rfl⟩ := Option.map_eq_some_iff.mp e
    exact .lst (SqL.of h) (Reps.dp a e1)
  | _, _, _, .fl (ds := ds) h a, e => by
    rw [py] at e
    obtain ⟨xs, e1, rfl⟩ := Option.map_eq_some_iff.mp e
    exact .lst h (Reps.dp a e1)
  | _, _, _, .tup (ds := ds) g h a, e => by
    rw [py] at e
    obtain ⟨xs, e1, rfl⟩ := Option.map_eq_some_iff.mp e
    exact .tup (tup_sq h) (Reps.dp a e1)
  | _, _, _, .ft (ds := ds) h a, e => by
    rw [py] at e
    obtain ⟨xs, e1, rfl⟩ := Option.map_eq_some_iff.mp e
    exact .tup h (Reps.dp a e1)
  | _, _, _, .pr (ds := ds) h a, e => by
    rw [py] at e
    obtain ⟨xs, e1, rfl⟩ := Option.map_eq_some_iff.mp e
    exact .tup (SqT.of h) (Reps.dp a e1)
  | _, _, _, .dk _ _, e => by rw [py] at e; cases e
  | _, _, _, .dt _ _, e => by rw [py] at e; cases e
  | _, _, _, .obj _ _ _ _, e => by rw [py] at e; cases e
theorem Reps.dp {G : Cf} {F : Hp} : ∀ {vs : List V} {ds : List D} {xs : List PyData}, Reps G F vs ds → pys ds = some xs → DpAll G.K F vs xs
  | _, _, _, .nil, e => by rw [pys] at e; cases e; exact .nil
  | _, _, _, .cons (d := d) (ds := ds) h a, e => by
    rw [pys] at e
    split at e
    · rename_i x xs e1 e2
      cases e
      exact .cons (Rep.dp h e1) (Reps.dp a e2)
    · cases e
end
theorem Pk.dp {G : Cf} {F H : Hp} {v : V} {d : D} {x : PyData} (s : Same F H) (h : Pk G F H v d) (e : py d = some x) : Dp G.K H v x := by
  rcases h with h | ⟨p, ho, o, rfl, h1, h2, rfl⟩
  · exact dp_same s (h.dp e)
  · cases h2 with
    | lst h2 =>
      rw [OD.d, py] at e
      obtain ⟨xs, e1, rfl⟩ := Option.map_eq_some_iff.mp e
      exact .lst (SqL.of h1) (dpAll_same s (h2.dp e1))
    | dk h2 => rw [OD.d, py] at e; cases e
    | dt h2 => rw [OD.d, py] at e; cases e
/-- == of scalars -/
def eqS : D → D → Option Bool
  | .non, .non => some true
  | .non, .int _ => some false
  | .int _, .non => some false
  | .non, .bl _ => some false
  | .bl _, .non => some false
  | .non, .str _ => some false
  | .str _, .non => some false
  | .int a, .int b => some (decide (a = b))
  | .bl a, .bl b => some (decide (a = b))
  | .str a, .str b => some (decide (a = b))
  | .int _, .str _ => some false
  | .str _, .int _ => some false
  | .bl _, .str _ => some false
  | .str _, .bl _ => some false
  | _, _ => none
def eqB (a b : D) : Option Bool := match eqS a b with
  | some r => some r
  | none => match py a, py b with
    | some x, some y => if SeqAt.shaped x && SeqAt.shaped y then some (PyData.eqv x y) else none
    | _, _ => none
def dEq (a b : D) : Option D := (eqB a b).map .bl
def dNe (a b : D) : Option D := (eqB a b).map fun r => .bl (!r)
theorem pk_scal {G : Cf} {F H : Hp} {x y : V} {dx dy : D} {r : Bool} (hx : Pk G F H x dx) (hy : Pk G F H y dy) (e : eqS dx dy = some r) : scal x y = true ∧ decide (x = y) = r := by
  unfold eqS at e
  split at e
  all_goals first
    | (cases e; done)
    | (obtain rfl := pk_non hx; obtain rfl := pk_non hy; cases e; exact ⟨rfl, rfl⟩)
    | (obtain rfl := pk_non hx; obtain rfl := pk_int hy; cases e; exact ⟨rfl, by simp⟩)
    | (obtain rfl := pk_int hx; obtain rfl := pk_non hy; cases e; exact ⟨rfl, by simp⟩)
    | (obtain rfl := pk_non hx; obtain rfl := pk_bl hy; cases e; exact ⟨rfl, by simp⟩)
    | (obtain rfl := pk_bl hx; obtain rfl := pk_non hy; cases e; exact ⟨rfl, by simp⟩)
    | (obtain rfl := pk_non hx; obtain rfl := pk_str hy; cases e; exact ⟨rfl, by simp⟩)
    | (obtain rfl := pk_str hx; obtain rfl := pk_non hy; cases e; exact ⟨rfl, by simp⟩)
    | (obtain rfl := pk_int hx; obtain rfl := pk_int hy; cases e; exact ⟨rfl, by simp⟩)
    | (obtain rfl := pk_bl hx; obtain rfl := pk_bl hy; cases e; exact ⟨rfl, by simp⟩)
    | (obtain rfl := pk_str hx; obtain rfl := pk_str hy; cases e; exact ⟨rfl, by simp⟩)
    | (obtain rfl := pk_int hx; obtain rfl := pk_str hy; cases e; exact ⟨rfl, by simp⟩)
    | (obtain rfl := pk_str hx; obtain rfl := pk_int hy; cases e; exact ⟨rfl, by simp⟩)
    | (obtain rfl := pk_bl hx; obtain rfl := pk_str hy; cases e; exact ⟨rfl, by simp⟩)
    | (obtain rfl := pk_str hx; obtain rfl := pk_bl hy; cases e; exact ⟨rfl, by simp⟩)
theorem eq_core {G : Cf} {F H : Hp} {x y : V} {dx dy : D} {r : Bool} (s : Same F H) (hx : Pk G F H x dx) (hy : Pk G F H y dy) (e : eqB dx dy = some r) :
    (scal x y = true ∧ decide (x = y) = r) ∨ ∃ a b, Dp G.K H x a ∧ Dp G.K H y b ∧ SeqAt.shaped a = true ∧ SeqAt.shaped b = true ∧ PyData.eqv a b = r := by
  unfold eqB at e
  split at e
  · rename_i r' h
    cases e
    exact .inl (pk_scal hx hy h)
  · split at e
    · rename_i a b h1 h2
      split at e
      · rename_i hs
        cases e
        rw [Bool.and_eq_true] at hs
        exact .inr ⟨a, b, hx.dp s h1, hy.dp s h2, hs.1, hs.2, rfl⟩
      · cases e
    · cases e
theorem o2_eq {G : Cf} : Op2 G (rEqG G.K) dEq := by
  intro F H x y dx dy d Q s hx hy e c
  obtain ⟨r, e1, rfl⟩ := Option.map_eq_some_iff.mp e
  rcases eq_core s hx hy e1 with ⟨h1, h2⟩ | ⟨a, b, h1, h2, h3, h4, h5⟩
  · exact .inl ⟨h1, by rw [h2]; exact cont_id s c (.bl _)⟩
  · exact .inr ⟨a, b, h1, h2, h3, h4, by rw [h5]; exact cont_id s c (.bl _)⟩
theorem o2_ne {G : Cf} : Op2 G (rNeG G.K) dNe := by
  intro F H x y dx dy d Q s hx hy e c
  obtain ⟨r, e1, rfl⟩ := Option.map_eq_some_iff.mp e
  rcases eq_core s hx hy e1 with ⟨h1, h2⟩ | ⟨a, b, h1, h2, h3, h4, h5⟩
  · exact .inl ⟨h1, by rw [h2]; exact cont_id s c (.bl _)⟩
  · exact .inr ⟨a, b, h1, h2, h3, h4, by rw [h5]; exact cont_id s c (.bl _)⟩
/-! ### in -/
def flat : D → Bool
  | .non => true
  | .bl _ => true
  | .int _ => true
  | .str _ => true
  | _ => false
def eqF : D → D → Bool
  | .non, .non => true
  | .bl a, .bl b => a == b
  | .bl a, .int b => (if a then 1 else 0) == b
  | .int a, .bl b => a == (if b then 1 else 0)
  | .int a, .int b => a == b
  | .str a, .str b => a == b
  | _, _ => false
theorem rep_flat {G : Cf} {F : Hp} {v : V} {d : D} (h : Rep G F v d) (e : flat d = true) : flatV v = true := by
  cases h <;> first
    | rfl
    | cases e
theorem rep_eqF {G : Cf} {F F' : Hp} {v w : V} {d e : D} (h : Rep G F v d) (k : Rep G F' w e) (e1 : flat d = true) (e2 : flat e = true) : eqV v w = eqF d e := by
  cases h <;> first
    | (cases e1; done)
    | (cases k <;> first
        | rfl
        | cases e2)
theorem reps_flat {G : Cf} {F : Hp} : ∀ {vs : List V} {ds : List D}, Reps G F vs ds → ds.all flat = true → vs.all flatV = true
  | _, _, .nil, _ => rfl
  | _, _, .cons a h, e => by
    rw [List.all_cons, Bool.and_eq_true] at e
    rw [List.all_cons, Bool.and_eq_true]
    exact ⟨rep_flat a e.1, reps_flat h e.2⟩
theorem reps_in {G : Cf} {F F' : Hp} {x : V} {d : D} (k : Rep G F' x d) (e2 : flat d = true) : ∀ {vs : List V} {ds : List D}, Reps G F vs ds → ds.all flat = true → inV x vs = ds.any fun y => eqF y d
  | _, _, .nil, _ => rfl
  | _, _, .cons (d := d') a h, e => by
    rw [List.all_cons, Bool.and_eq_true] at e
    have ih := reps_in k e2 h e.2
    unfold inV at ih ⊢
    rw [List.any_cons, List.any_cons, ih, rep_eqF a k e.1 e2]
def key : D → Option Key
  | .int i => some (.inl i)
  | .str z => some (.inr z)
  | _ => none
theorem rep_key {G : Cf} {F H : Hp} {v : V} {d : D} {k : Key} (h : Pk G F H v d) (e : key d = some k) : v = kV k := by
  unfold key at e
  split at e
  · obtain rfl := pk_int h; cases e; rfl
  · obtain rfl := pk_str h; cases e; rfl
  · cases e
def inSeq (x : D) (l : List D) : Option Bool := if flat x && l.all flat then some (l.any fun y => eqF y x) else none
def inB (x y : D) : Option Bool := match y with
  | .lst l => inSeq x l
  | .fl l => inSeq x l
  | .tup l => inSeq x l
  | .ft l => inSeq x l
  | .str z => match x with
    | .str a => match a.cps.toList with
      | [c] => some (decide (c ∈ z.cps.toList))
      | _ => none
    | _ => none
  | .dk l => (key x).map fun k => (fget l k).isSome
  | _ => none
def dIn (x y : D) : Option D := (inB x y).map .bl
def dNotIn (x y : D) : Option D := (inB x y).map fun b => .bl (!b)
theorem pk_flat {G : Cf} {F H : Hp} {v : V} {d : D} (h : Pk G F H v d) (e : flat d = true) : Rep G F v d := by
  rcases h with h | ⟨p, ho, o, rfl, h1, h2, rfl⟩
  · exact h
  · cases o <;> cases e
theorem in_core {G : Cf} {F H : Hp} {neg : Bool} {x y : V} {dx dy : D} {r : Bool} {Q : VK} (s : Same F H) (hx : Pk G F H x dx) (hy : Pk G F H y dy) (e : inB dx dy = some r) (q : Q (.bl (if neg then !r else r)) H) : rInG G.K neg x y H Q := by
  have seq : ∀ {p : Addr} {vs : List V} {l : List D}, (SqL G.K H p vs ∨ SqT G.K H p vs) → Reps G F vs l → inSeq dx l = some r → rIn G.K neg x (.ref p) H Q := fun {p vs l} h1 h2 h3 => by
    unfold inSeq at h3
    split at h3
    · rename_i hf
      rw [Bool.and_eq_true] at hf
      cases h3
      have hx' := pk_flat hx hf.1
      exact ⟨p, vs, rfl, h1, rep_flat hx' hf.1, reps_flat h2 hf.2, by rw [reps_in hx' hf.1 h2 hf.2]; exact q⟩
    · cases h3
  unfold inB at e
  split at e
  · obtain ⟨p, vs, rfl, h1, h2⟩ := pk_lst s hy
    exact .inl (seq (.inl (SqL.of h1)) h2 e)
  · obtain ⟨p, vs, rfl, h1, h2⟩ := pk_fl s hy
    exact .inl (seq (.inl h1) h2 e)
  · obtain ⟨p, vs, rfl, h1, h2⟩ := pk_tup s hy
    exact .inl (seq (.inr h1) h2 e)
  · obtain ⟨p, vs, rfl, h1, h2⟩ := pk_ft s hy
    exact .inl (seq (.inr h1) h2 e)
  · obtain rfl := pk_str hy
    split at e
    · rename_i a
      obtain rfl := pk_str hx
      split at e
      · rename_i c hc
        cases e
        refine .inr (.inl ⟨c, _, ?_, rfl, q⟩)
        congr 1
        cases a with
        | mk cps =>
          congr 1
          exact Array.toList_inj.mp hc
      · cases e
    · cases e
  · rename_i l
    obtain ⟨k, e1, rfl⟩ := Option.map_eq_some_iff.mp e
    obtain ⟨p, vs, rfl, h1, h2⟩ := pk_dk s hy
    obtain rfl := rep_key hx e1
    refine .inr (.inr ⟨p, _, rfl, DGet.k h1, ?_⟩)
    have g := h2.get k
    have eq : (valV vs k).isSome = (fget l k).isSome := by
      cases z : fget l k with
      | none => rw [z] at g; rw [g]; rfl
      | some d => rw [z] at g; obtain ⟨v, g1, _⟩ := g; rw [g1]; rfl
    rw [eq]
    exact q
  · cases e
theorem o2_in {G : Cf} : Op2 G (rInG G.K false) dIn := by
  intro F H x y dx dy d Q s hx hy e c
  obtain ⟨r, e1, rfl⟩ := Option.map_eq_some_iff.mp e
  exact in_core s hx hy e1 (cont_id s c (.bl _))
theorem o2_notIn {G : Cf} : Op2 G (rInG G.K true) dNotIn := by
  intro F H x y dx dy d Q s hx hy e c
  obtain ⟨r, e1, rfl⟩ := Option.map_eq_some_iff.mp e
  exact in_core s hx hy e1 (cont_id s c (.bl _))
/-! ### is -/
def isNon : D → Bool
  | .non => true
  | _ => false
def isB (x y : D) : Option Bool := match y with
  | .non => some (isNon x)
  | .bl b => match x with
    | .bl a => some (decide (a = b))
    | _ => none
  | _ => none
def dIs (x y : D) : Option D := (isB x y).map .bl
def dIsNot (x y : D) : Option D := (isB x y).map fun b => .bl (!b)
theorem pk_isNon {G : Cf} {F H : Hp} {v : V} {d : D} (h : Pk G F H v d) : decide (v = .non) = isNon d := by
  rcases h with h | ⟨p, ho, o, rfl, h1, h2, rfl⟩
  · cases h <;> simp [isNon]
  · cases o <;> simp [isNon, OD.d]
theorem o2_is {G : Cf} : Op2 G rIsG dIs := by
  intro F H x y dx dy d Q s hx hy e c
  obtain ⟨r, e1, rfl⟩ := Option.map_eq_some_iff.mp e
  unfold isB at e1
  split at e1
  · obtain rfl := pk_non hy
    cases e1
    exact .inl ⟨rfl, by rw [pk_isNon hx]; exact cont_id s c (.bl _)⟩
  · obtain rfl := pk_bl hy
    split at e1
    · obtain rfl := pk_bl hx
      cases e1
      exact .inr ⟨_, _, rfl, rfl, cont_id s c (.bl _)⟩
    · cases e1
  · cases e1
theorem o2_isNot {G : Cf} : Op2 G rNotG dIsNot := by
  intro F H x y dx dy d Q s hx hy e c
  obtain ⟨r, e1, rfl⟩ := Option.map_eq_some_iff.mp e
  unfold isB at e1
  split at e1
  · obtain rfl := pk_non hy
    cases e1
    exact .inl ⟨rfl, by rw [pk_isNon hx]; exact cont_id s c (.bl _)⟩
  · obtain rfl := pk_bl hy
    split at e1
    · obtain rfl := pk_bl hx
      cases e1
      exact .inr ⟨_, _, rfl, rfl, cont_id s c (.bl _)⟩
    · cases e1
  · cases e1
/-! ### subscripts, slices -/
def ixL (l : List D) : D → Option D
  | .int i => atI l i
  | _ => none
def dIx : D → D → Option D
  | .lst l, y => ixL l y
  | .fl l, y => ixL l y
  | .tup l, y => ixL l y
  | .ft l, y => ixL l y
  | .str z, .int i => if z.length ≤ lim then (atI z.cps.toList i).map fun c => .str ⟨#[c]⟩ else none
  | .dk l, y => (key y).bind fun k => fget l k
  | _, _ => none
theorem reps_atI {G : Cf} {F : Hp} {vs : List V} {ds : List D} {i : Int} {d : D} (h : Reps G F vs ds) (e : atI ds i = some d) : ∃ v, atI vs i = some v ∧ Rep G F v d := by
  unfold atI at e ⊢
  rw [h.length]
  cases z : ixN ds.length i with
  | none => rw [z] at e; cases e
  | some n =>
    rw [z] at e
    exact h.get e
theorem o2_ix {G : Cf} : Op2 G (rIxG G.K) dIx := by
  intro F H x y dx dy d Q s hx hy e c
  have seq : ∀ {vs : List V} {l : List D}, Reps G F vs l → ixL l dy = some d → ∃ i v, y = .int i ∧ atI vs i = some v ∧ Q v H := fun {vs l} h1 h2 => by
    unfold ixL at h2
    split at h2
    · obtain rfl := pk_int hy
      obtain ⟨v, h3, h4⟩ := reps_atI h1 h2
      exact ⟨_, v, rfl, h3, cont_id s c h4⟩
    · cases h2
  unfold dIx at e
  split at e
  · obtain ⟨p, vs, rfl, h1, h2⟩ := pk_lst s hx
    obtain ⟨i, v, rfl, h3, h4⟩ := seq h2 e
    exact .inl ⟨p, vs, i, v, rfl, rfl, SqL.of h1, h3, h4⟩
  · obtain ⟨p, vs, rfl, h1, h2⟩ := pk_fl s hx
    obtain ⟨i, v, rfl, h3, h4⟩ := seq h2 e
    exact .inl ⟨p, vs, i, v, rfl, rfl, h1, h3, h4⟩
  · obtain ⟨p, vs, rfl, h1, h2⟩ := pk_tup s hx
    obtain ⟨i, v, rfl, h3, h4⟩ := seq h2 e
    exact .inr (.inl ⟨p, vs, i, v, rfl, rfl, h1, h3, h4⟩)
  · obtain ⟨p, vs, rfl, h1, h2⟩ := pk_ft s hx
    obtain ⟨i, v, rfl, h3, h4⟩ := seq h2 e
    exact .inr (.inl ⟨p, vs, i, v, rfl, rfl, h1, h3, h4⟩)
  · obtain rfl := pk_str hx; obtain rfl := pk_int hy
    split at e
    · rename_i hl
      obtain ⟨k, e1, rfl⟩ := Option.map_eq_some_iff.mp e
      exact .inr (.inr (.inl ⟨_, _, _, rfl, rfl, lim_sz hl, e1, cont_id s c (.str _)⟩))
    · cases e
  · rename_i l dy'
    obtain ⟨p, vs, rfl, h1, h2⟩ := pk_dk s hx
    obtain ⟨k, e1, e2⟩ := Option.bind_eq_some_iff.mp e
    obtain rfl := rep_key hy e1
    have g := h2.get k
    rw [e2] at g
    obtain ⟨v, g1, g2⟩ := g
    exact .inr (.inr (.inr ⟨p, v, rfl, by rw [← g1]; exact DGet.k h1, cont_id s c g2⟩))
  · cases e
def cutD (l : List D) (lo hi : Option Int) : List D := (l.drop (HT.sIx l.length 0 lo)).take (HT.sIx l.length l.length hi - HT.sIx l.length 0 lo)
theorem reps_cut {G : Cf} {F : Hp} {vs : List V} {ds : List D} (h : Reps G F vs ds) (lo hi : Option Int) : Reps G F (cutV vs lo hi) (cutD ds lo hi) := by
  unfold cutV cutD
  rw [h.length]
  exact (h.drop _).take _
def dSl (x : D) (lo hi : Option Int) : Option D := match x with
  | .lst l => some (.lst (cutD l lo hi))
  | .fl l => some (.lst (cutD l lo hi))
  | .tup l => some (.tup (cutD l lo hi))
  | .str z => if z.length ≤ lim then some (.str (cutS z lo hi)) else none
  | _ => none
theorem osl {G : Cf} {F H : Hp} {x : V} {dx d : D} {lo hi : Option Int} {Q : VK} (s : Same F H) (hx : Pk G F H x dx) (e : dSl dx lo hi = some d) (c : Cont G F H d Q) : rSlG G.K x lo hi H Q := by
  unfold dSl at e
  split at e
  · obtain ⟨p, vs, rfl, h1, h2⟩ := pk_lst s hx
    cases e
    exact .inl ⟨p, vs, rfl, SqL.of h1, fun q n => cont_new s c n (rep_lst s n (reps_cut h2 _ _))⟩
  · obtain ⟨p, vs, rfl, h1, h2⟩ := pk_fl s hx
    cases e
    exact .inl ⟨p, vs, rfl, h1, fun q n => cont_new s c n (rep_lst s n (reps_cut h2 _ _))⟩
  · rename_i l
    obtain ⟨p, vs, rfl, h1, h2⟩ := pk_tup s hx
    cases e
    refine .inr (.inl ⟨p, vs, rfl, h1, fun hw => ?_, fun hw q o n go => cont_new s c n (rep_tup go s n (reps_cut h2 _ _))⟩)
    have el : cutD l lo hi = l := by
      unfold cutD
      rw [h2.length] at hw
      rw [hw.1, hw.2]
      simp
    rw [el] at c
    rcases hx with hx | ⟨_, _, o, _, _, _, ho⟩
    · exact cont_id s c hx
    · cases o <;> cases ho
  · obtain rfl := pk_str hx
    split at e
    · rename_i hl
      cases e
      exact .inr (.inr ⟨_, rfl, lim_sz hl, cont_id s c (.str _)⟩)
    · cases e
  · cases e
end Mi
set_option Elab.async false
set_option linter.all false
set_option maxRecDepth 100000
set_option maxHeartbeats 4000000
namespace Mi
open PySem PySem.Spec PyProof.Rows L2 Wk
def lift {α : Type} : Option α → Env → Out α
  | none, _ => .no
  | some a, ρ => .ok a ρ
/-! ### names -/
def mC (d : D) : Env → Out D := fun ρ => .ok d ρ
/-- a name's value: what it owns is frozen from then on -/
def mVar (i : Nat) : Env → Out D := fun ρ => match ρ[i]? with
  | some (.val d) => .ok d ρ
  | some (.own o) => .ok o.d (ρ.set i (.val o.d))
  | _ => .no
section
variable {f : Fr} {W : WX}
theorem sim_c {v : V} {d : D} (h : ∀ F, Rep f.G F v d) : SimE f W (tC v) (mC d) := fun F H σ τ ρ Q hn r p => p v F H (Same.refl F) r (h F)
theorem app_get {σ τ : L2.St} {i : Nat} {x : Option V} (h : i < σ.length) (e : (σ ++ τ)[i]? = some x) : σ[i]? = some x := by rw [List.getElem?_append_left h] at e; exact e
theorem Rel.freeze {F H : Hp} {σ : L2.St} {ρ : Env} {i : Nat} {o : OD} {p : Addr} {ho : HO} (r : Rel f F H σ ρ) (e : ρ[i]? = some (.own o)) (es : σ[i]? = some (some (.ref p))) (eh : H p = some ho) (en : F p = none) (er : RepO f.G F ho o) (ex : f.H0 p = none ∨ p ∈ f.ex) :
    Rel f (upd F p ho) H σ (ρ.set i (.val o.d)) ∧ Same F (upd F p ho) ∧ Rep f.G (upd F p ho) (.ref p) o.d := by
  have sF : Same F (upd F p ho) := Same.new en
  have hr : Rep f.G (upd F p ho) (.ref p) o.d := (er.same sF).rep upd_same
  have hi : i < ρ.length := (List.getElem?_eq_some_iff.mp e).1
  have keep : ∀ j c, j ≠ i → ρ[j]? = some c → c.owned = true → ∀ q, σ[j]? = some (some (.ref q)) → q ≠ p := fun j c hj hc ho' q hq z => by
    subst z
    exact hj (r.sep j i c (.own o) q hc e ho' rfl hq es)
  refine ⟨⟨?_, r.f0.trans sF, fun b hb he => ?_, by rw [List.length_set]; exact r.len, fun j c hc => ?_, fun j k c c' q hj hk oc oc' e1 e2 => ?_⟩, sF, hr⟩
  · intro b u hb
    by_cases z : b = p
    · rw [z, upd_same] at hb
      rw [z, eh, ← hb]
    · rw [upd_ne z] at hb
      exact r.fh b u hb
  · obtain ⟨h1, h2⟩ := r.out b hb he
    refine ⟨h1, ?_⟩
    rw [upd_ne (fun z => ?_), h2]
    subst z
    exact ex.elim hb he
  · by_cases z : j = i
    · subst z
      rw [List.getElem?_set_self hi] at hc
      cases hc
      exact ⟨_, es, hr⟩
    · rw [List.getElem?_set_ne (Ne.symm z)] at hc
      have h := r.cell j c hc
      cases c with
      | no => trivial
      | pin => exact h
      | val d =>
        obtain ⟨v, h1, h2⟩ := h
        exact ⟨v, h1, h2.same sF⟩
      | own o' =>
        obtain ⟨q, ho', h1, h2, h3, h4, h5⟩ := h
        exact ⟨q, ho', h1, h2, by rw [upd_ne (keep j _ z hc rfl q h1)]; exact h3, h4.same sF, h5⟩
      | par o' =>
        obtain ⟨q, ho', h1, h2, h3, h4, h5⟩ := h
        exact ⟨q, ho', h1, h2, by rw [upd_ne (keep j _ z hc rfl q h1)]; exact h3, h4.same sF, h5⟩
  · have own : ∀ {l : Nat} {c : Cell}, (ρ.set i (.val o.d))[l]? = some c → c.owned = true → ρ[l]? = some c := fun {l c} h1 h2 => by
      by_cases z : l = i
      · subst z
        rw [List.getElem?_set_self hi] at h1
        cases h1
        cases h2
      · rw [List.getElem?_set_ne (Ne.symm z)] at h1
        exact h1
    exact r.sep j k c c' q (own hj oc) (own hk oc') oc oc' e1 e2
theorem sim_var {i : Nat} (hi : i < f.n) : SimE f W (tVar i) (mVar i) := by
  intro F H σ τ ρ Q hn r p
  unfold mVar at p
  split at p
  · rename_i d e
    obtain ⟨v, h1, h2⟩ := r.cell i _ e
    exact ⟨v, app_get (by omega) h1, p v F H (Same.refl F) r h2⟩
  · rename_i o e
    obtain ⟨q, ho, h1, h2, h3, h4, h5⟩ := r.cell i _ e
    obtain ⟨r1, s1, h6⟩ := r.freeze e h1 h2 h3 h4 h5
    exact ⟨_, app_get (by omega) h1, p _ _ H s1 r1 h6⟩
  · exact p.elim
/-! ### operands: a value, or a name that is looked at -/
def OpdR (f : Fr) (σ : L2.St) (F : Hp) (v : V) : Sum D Nat → Prop
  | .inl d => Rep f.G F v d
  | .inr i => σ[i]? = some (some v)
def content : Cell → Option D
  | .no => none
  | .val d => some d
  | .own o => some o.d
  | .par o => some o.d
  | .pin => none
def rsv : Sum D Nat → Env → Option D
  | .inl d, _ => some d
  | .inr i, ρ => ρ[i]?.bind content
theorem opd_same {σ : L2.St} {F F' : Hp} {v : V} {a : Sum D Nat} (s : Same F F') (h : OpdR f σ F v a) : OpdR f σ F' v a := by
  cases a with
  | inl d => exact Rep.same s h
  | inr i => exact h
theorem opd_pk {F H : Hp} {σ τ : L2.St} {ρ : Env} {v : V} {a : Sum D Nat} {d : D} (r : Rel f F H (σ ++ τ) ρ) (h : OpdR f σ F v a) (e : rsv a ρ = some d) : Pk f.G F H v d := by
  cases a with
  | inl d' =>
    cases e
    exact .inl h
  | inr i =>
    obtain ⟨c, e1, e2⟩ := Option.bind_eq_some_iff.mp (show ρ[i]?.bind content = some d from e)
    have hs : (σ ++ τ)[i]? = some (some v) := by
      have hl := (List.getElem?_eq_some_iff.mp (show σ[i]? = some (some v) from h)).1
      rw [List.getElem?_append_left hl]
      exact h
    have hc := r.cell i c e1
    cases c with
    | no => cases e2
    | pin => cases e2
    | val d' =>
      cases e2
      obtain ⟨v', h1, h2⟩ := hc
      rw [hs] at h1
      cases h1
      exact .inl h2
    | own o =>
      cases e2
      obtain ⟨q, ho, h1, h2, h3, h4, h5⟩ := hc
      rw [hs] at h1
      cases h1
      exact .inr ⟨q, ho, o, rfl, h2, h4, rfl⟩
    | par o =>
      cases e2
      obtain ⟨q, ho, h1, h2, h3, h4, h5⟩ := hc
      rw [hs] at h1
      cases h1
      exact .inr ⟨q, ho, o, rfl, h2, h4, rfl⟩
abbrev SimO (f : Fr) (W : WX) (t : TE) (m : Env → Out (Sum D Nat)) : Prop := Sim f W (OpdR f) t m
def oE (m : Env → Out D) : Env → Out (Sum D Nat) := fun ρ => (m ρ).bind fun d ρ1 => .ok (.inl d) ρ1
def oN (i : Nat) : Env → Out (Sum D Nat) := fun ρ => match ρ[i]?.bind content with
  | some _ => .ok (.inr i) ρ
  | none => .no
theorem sim_oE {t : TE} {m : Env → Out D} (h : SimE f W t m) : SimO f W t (oE m) := fun F H σ τ ρ Q hn r p =>
  sim_bind h hn r p fun a ρ1 b F1 H1 s1 r1 hR p1 => p1 b F1 H1 (Same.refl _) r1 hR
theorem sim_oN {i : Nat} (hi : i < f.n) : SimO f W (tVar i) (oN i) := by
  intro F H σ τ ρ Q hn r p
  unfold oN at p
  split at p
  · rename_i d e
    obtain ⟨c, e1, e2⟩ := Option.bind_eq_some_iff.mp e
    have hc := r.cell i c e1
    have fin : ∀ v, (σ ++ τ)[i]? = some (some v) → tVar i σ H Q := fun v h1 => ⟨v, app_get (by omega) h1, p v F H (Same.refl F) r (app_get (by omega) h1)⟩
    cases c with
    | no => cases e2
    | pin => cases e2
    | val d' => obtain ⟨v, h1, _⟩ := hc; exact fin v h1
    | own o => obtain ⟨q, ho, h1, _⟩ := hc; exact fin _ h1
    | par o => obtain ⟨q, ho, h1, _⟩ := hc; exact fin _ h1
  · exact p.elim
def mOp2 (g : D → D → Option D) (a b : Env → Out (Sum D Nat)) : Env → Out D := fun ρ => (a ρ).bind fun x ρ1 => (b ρ1).bind fun y ρ2 => match rsv x ρ2, rsv y ρ2 with
  | some dx, some dy => lift (g dx dy) ρ2
  | _, _ => .no
theorem post_lift {F H : Hp} {σ τ : L2.St} {ρ : Env} {Q : VK} {o : Option D} (r : Rel f F H (σ ++ τ) ρ) (p : PostE f W F σ τ (fun _ => Rep f.G) Q (lift o ρ)) : ∃ d, o = some d ∧ Cont f.G F H d Q := by
  cases o with
  | none => exact p.elim
  | some d => exact ⟨d, rfl, fun v F' H' g h => p v F' H' g.ff (r.grow g) h⟩
theorem sim_op2 {r : R2} {g : D → D → Option D} {ta tb : TE} {a b : Env → Out (Sum D Nat)} (ho : Op2 f.G r g) (ha : SimO f W ta a) (hb : SimO f W tb b) : SimE f W (tOp r ta tb) (mOp2 g a b) := by
  intro F H σ τ ρ Q hn rl p
  refine sim_bind ha hn rl p fun x ρ1 v F1 H1 s1 r1 h1 p1 => ?_
  refine sim_bind hb hn r1 p1 fun y ρ2 w F2 H2 s2 r2 h2 p2 => ?_
  split at p2
  · rename_i dx dy e1 e2
    obtain ⟨d, e, c⟩ := post_lift r2 p2
    exact ho F2 H2 v w dx dy d Q r2.fh (opd_pk r2 (opd_same s2 h1) e1) (opd_pk r2 h2 e2) e c
  · exact p2.elim
def Op1 (G : Cf) (r : V → Hp → VK → Prop) (g : D → Option D) : Prop := ∀ F H x dx d Q, Same F H → Pk G F H x dx → g dx = some d → Cont G F H d Q → r x H Q
def mUn (g : D → Option D) (a : Env → Out (Sum D Nat)) : Env → Out D := fun ρ => (a ρ).bind fun x ρ1 => match rsv x ρ1 with
  | some dx => lift (g dx) ρ1
  | none => .no
theorem sim_un {r : V → Hp → VK → Prop} {g : D → Option D} {ta : TE} {a : Env → Out (Sum D Nat)} (ho : Op1 f.G r g) (ha : SimO f W ta a) : SimE f W (tUn r ta) (mUn g a) := by
  intro F H σ τ ρ Q hn rl p
  refine sim_bind ha hn rl p fun x ρ1 v F1 H1 s1 r1 h1 p1 => ?_
  split at p1
  · rename_i dx e1
    obtain ⟨d, e, c⟩ := post_lift r1 p1
    exact ho F1 H1 v dx d Q r1.fh (opd_pk r1 h1 e1) e c
  · exact p1.elim
def dNeg : D → Option D
  | .int i => some (.int (-i))
  | _ => none
theorem o1_neg {G : Cf} : Op1 G (rU fun i => .int (-i)) dNeg := by
  intro F H x dx d Q s hx e c
  unfold dNeg at e
  split at e
  · obtain rfl := pk_int hx
    cases e
    exact ⟨_, rfl, cont_id s c (.int _)⟩
  · cases e
/-! ### slices -/
abbrev SimP (f : Fr) (W : WX) (t : TO) (m : Env → Out (Option Int)) : Prop := Sim f W (fun _ _ b a => b = a) t m
def mNoPart : Env → Out (Option Int) := fun ρ => .ok none ρ
def mPart (m : Env → Out D) : Env → Out (Option Int) := fun ρ => (m ρ).bind fun d ρ1 => match d with
  | .int i => .ok (some i) ρ1
  | _ => .no
theorem sim_noPart : SimP f W tNoPart mNoPart := fun F H σ τ ρ Q hn r p => p none F H (Same.refl F) r rfl
theorem sim_part {t : TE} {m : Env → Out D} (h : SimE f W t m) : SimP f W (tPart t) (mPart m) := by
  intro F H σ τ ρ Q hn r p
  refine sim_bind h hn r p fun d ρ1 v F1 H1 s1 r1 h1 p1 => ?_
  cases d with
  | int i =>
    cases h1
    exact ⟨i, rfl, p1 _ F1 H1 (Same.refl _) r1 rfl⟩
  | _ => exact p1.elim
def mSl (a : Env → Out (Sum D Nat)) (lo hi : Env → Out (Option Int)) : Env → Out D := fun ρ => (a ρ).bind fun x ρ1 => (lo ρ1).bind fun l ρ2 => (hi ρ2).bind fun h ρ3 => match rsv x ρ3 with
  | some dx => lift (dSl dx l h) ρ3
  | none => .no
theorem sim_sl {ta : TE} {tl th : TO} {a : Env → Out (Sum D Nat)} {lo hi : Env → Out (Option Int)} (ha : SimO f W ta a) (hl : SimP f W tl lo) (hh : SimP f W th hi) : SimE f W (tSl (rSlG f.G.K) ta tl th) (mSl a lo hi) := by
  intro F H σ τ ρ Q hn rl p
  refine sim_bind ha hn rl p fun x ρ1 v F1 H1 s1 r1 h1 p1 => ?_
  refine sim_bind hl hn r1 p1 fun y ρ2 w F2 H2 s2 r2 h2 p2 => ?_
  refine sim_bind hh hn r2 p2 fun z ρ3 u F3 H3 s3 r3 h3 p3 => ?_
  subst h2 h3
  split at p3
  · rename_i dx e1
    obtain ⟨d, e, c⟩ := post_lift r3 p3
    exact osl r3.fh (opd_pk r3 (opd_same (s2.trans s3) h1) e1) e c
  · exact p3.elim
/-! ### tests -/
def mTest (m : Env → Out D) : Env → Out Bool := fun ρ => (m ρ).bind fun d ρ1 => match d with
  | .bl b => .ok b ρ1
  | _ => .no
theorem sim_test {t : TE} {m : Env → Out D} (h : SimE f W t m) : SimT f W (tTest t) (mTest m) := by
  intro F H σ τ ρ Q hn r p
  refine sim_bind h hn r p fun d ρ1 v F1 H1 s1 r1 h1 p1 => ?_
  cases d with
  | bl i =>
    cases h1
    exact ⟨i, rfl, p1 _ F1 H1 (Same.refl _) r1 rfl⟩
  | _ => exact p1.elim
theorem sim_testB {t : TE} {m : Env → Out D} (h : SimE f W t m) : SimT f W (tB t) (mTest m) := sim_test h
def dTru : D → Option Bool
  | .non => some false
  | .bl b => some b
  | .int i => some (i != 0)
  | .str y => if y.length ≤ lim then some ((y.length : Int) != 0) else none
  | .lst l => some !l.isEmpty
  | .fl l => some !l.isEmpty
  | .tup l => some !l.isEmpty
  | .ft l => some !l.isEmpty
  | .dk l => some !l.isEmpty
  | _ => none
theorem RepK.isEmpty {G : Cf} {F : Hp} {vs : List (Key × V)} {ds : List (Key × D)} (h : RepK G F vs ds) : vs.isEmpty = ds.isEmpty := by cases h <;> rfl
theorem pk_tru {G : Cf} {F H : Hp} {v : V} {d : D} {b : Bool} (s : Same F H) (h : Pk G F H v d) (e : dTru d = some b) : TruV G.K v H b := by
  unfold dTru at e
  split at e
  · obtain rfl := pk_non h; cases e; rfl
  · obtain rfl := pk_bl h; cases e; rfl
  · obtain rfl := pk_int h; cases e; rfl
  · obtain rfl := pk_str h
    split at e
    · rename_i hl
      cases e
      exact ⟨lim_sz hl, rfl⟩
    · cases e
  · obtain ⟨p, vs, rfl, h1, h2⟩ := pk_lst s h; cases e
    exact .inl ⟨vs, SqL.of h1, by rw [h2.isEmpty]⟩
  · obtain ⟨p, vs, rfl, h1, h2⟩ := pk_fl s h; cases e
    exact .inl ⟨vs, h1, by rw [h2.isEmpty]⟩
  · obtain ⟨p, vs, rfl, h1, h2⟩ := pk_tup s h; cases e
    exact .inr (.inl ⟨vs, h1, by rw [h2.isEmpty]⟩)
  · obtain ⟨p, vs, rfl, h1, h2⟩ := pk_ft s h; cases e
    exact .inr (.inl ⟨vs, h1, by rw [h2.isEmpty]⟩)
  · obtain ⟨p, vs, rfl, h1, h2⟩ := pk_dk s h; cases e
    exact .inr (.inr ⟨vs, h1, by rw [h2.isEmpty]⟩)
  · cases e
def mTru (a : Env → Out (Sum D Nat)) : Env → Out Bool := fun ρ => (a ρ).bind fun x ρ1 => match (rsv x ρ1).bind dTru with
  | some b => .ok b ρ1
  | none => .no
theorem sim_tru {K : PySem.W.Frag} {ta : TE} {a : Env → Out (Sum D Nat)} (hK : f.G.K = K) (ha : SimO f W ta a) : SimT f W (fun σ H Q => ta σ H fun x H' => ∃ k, TruV K x H' k ∧ Q k H') (mTru a) := by
  subst hK
  intro F H σ τ ρ Q hn rl p
  refine sim_bind ha hn rl p fun x ρ1 v F1 H1 s1 r1 h1 p1 => ?_
  split at p1
  · rename_i b e
    obtain ⟨d, e1, e2⟩ := Option.bind_eq_some_iff.mp e
    exact ⟨b, pk_tru r1.fh (opd_pk r1 h1 e1) e2, p1 b F1 H1 (Same.refl _) r1 rfl⟩
  · exact p1.elim
def mAnd (a b : Env → Out Bool) : Env → Out Bool := fun ρ => (a ρ).bind fun x ρ1 => if x = true then b ρ1 else .ok false ρ1
def mOr (a b : Env → Out Bool) : Env → Out Bool := fun ρ => (a ρ).bind fun x ρ1 => if x = true then .ok true ρ1 else b ρ1
def mNot (a : Env → Out Bool) : Env → Out Bool := fun ρ => (a ρ).bind fun x ρ1 => .ok (!x) ρ1
theorem sim_and {t u : TT} {a b : Env → Out Bool} (ha : SimT f W t a) (hb : SimT f W u b) : SimT f W (tAnd t u) (mAnd a b) := by
  intro F H σ τ ρ Q hn r p
  refine sim_bind ha hn r p fun x ρ1 v F1 H1 s1 r1 h1 p1 => ?_
  subst h1
  cases v with
  | true => exact iteT (hb F1 H1 σ τ ρ1 Q hn r1 (by rw [if_pos rfl] at p1; exact p1))
  | false => exact iteF (by rw [if_neg (by decide)] at p1; exact p1 false F1 H1 (Same.refl _) r1 rfl)
theorem sim_or {t u : TT} {a b : Env → Out Bool} (ha : SimT f W t a) (hb : SimT f W u b) : SimT f W (tOr t u) (mOr a b) := by
  intro F H σ τ ρ Q hn r p
  refine sim_bind ha hn r p fun x ρ1 v F1 H1 s1 r1 h1 p1 => ?_
  subst h1
  cases v with
  | true => exact iteT (by rw [if_pos rfl] at p1; exact p1 true F1 H1 (Same.refl _) r1 rfl)
  | false => exact iteF (hb F1 H1 σ τ ρ1 Q hn r1 (by rw [if_neg (by decide)] at p1; exact p1))
theorem sim_not {t : TT} {a : Env → Out Bool} (ha : SimT f W t a) : SimT f W (tNot t) (mNot a) := by
  intro F H σ τ ρ Q hn r p
  refine sim_bind ha hn r p fun x ρ1 v F1 H1 s1 r1 h1 p1 => ?_
  subst h1
  exact p1 _ F1 H1 (Same.refl _) r1 rfl
def mB (a : Env → Out Bool) : Env → Out D := fun ρ => (a ρ).bind fun x ρ1 => .ok (.bl x) ρ1
/-- and, or, not as values -/
def mAndV (a b : Env → Out D) : Env → Out D := fun ρ => (mTest a ρ).bind fun x ρ1 => if x = true then b ρ1 else .ok (.bl false) ρ1
def mOrV (a b : Env → Out D) : Env → Out D := fun ρ => (mTest a ρ).bind fun x ρ1 => if x = true then .ok (.bl true) ρ1 else b ρ1
def mNotV (a : Env → Out D) : Env → Out D := fun ρ => (mTest a ρ).bind fun x ρ1 => .ok (.bl (!x)) ρ1
theorem sim_andV {t u : TE} {a b : Env → Out D} (ha : SimE f W t a) (hb : SimE f W u b) : SimE f W (tAndV t u) (mAndV a b) := by
  intro F H σ τ ρ Q hn r p
  have h := sim_bind (R' := fun _ => Rep f.G) (c := fun x H1 => if x = true then u σ H1 Q else Q (.bl false) H1) (sim_test ha) hn r p fun x ρ1 v F1 H1 s1 r1 h1 p1 => by
    subst h1
    cases v with
    | true => exact iteT (hb F1 H1 σ τ ρ1 Q hn r1 (by rw [if_pos rfl] at p1; exact p1))
    | false => exact iteF (by rw [if_neg (by decide)] at p1; exact p1 _ F1 H1 (Same.refl _) r1 (.bl _))
  exact h
theorem sim_orV {t u : TE} {a b : Env → Out D} (ha : SimE f W t a) (hb : SimE f W u b) : SimE f W (tOrV t u) (mOrV a b) := by
  intro F H σ τ ρ Q hn r p
  have h := sim_bind (R' := fun _ => Rep f.G) (c := fun x H1 => if x = true then Q (.bl true) H1 else u σ H1 Q) (sim_test ha) hn r p fun x ρ1 v F1 H1 s1 r1 h1 p1 => by
    subst h1
    cases v with
    | true => exact iteT (by rw [if_pos rfl] at p1; exact p1 _ F1 H1 (Same.refl _) r1 (.bl _))
    | false => exact iteF (hb F1 H1 σ τ ρ1 Q hn r1 (by rw [if_neg (by decide)] at p1; exact p1))
  exact h
theorem sim_notV {t : TE} {a : Env → Out D} (ha : SimE f W t a) : SimE f W (tNotV t) (mNotV a) := by
  intro F H σ τ ρ Q hn r p
  have h := sim_bind (R' := fun _ => Rep f.G) (c := fun x H1 => Q (.bl (!x)) H1) (sim_test ha) hn r p fun x ρ1 v F1 H1 s1 r1 h1 p1 => by
    subst h1
    exact p1 _ F1 H1 (Same.refl _) r1 (.bl _)
  exact h
def mIf {α : Type} (c : Env → Out Bool) (a b : Env → Out α) : Env → Out α := fun ρ => (c ρ).bind fun x ρ1 => if x = true then a ρ1 else b ρ1
theorem sim_if {c : TT} {t u : TE} {mc : Env → Out Bool} {a b : Env → Out D} (hc : SimT f W c mc) (ha : SimE f W t a) (hb : SimE f W u b) : SimE f W (tIf c t u) (mIf mc a b) := by
  intro F H σ τ ρ Q hn r p
  refine sim_bind hc hn r p fun x ρ1 v F1 H1 s1 r1 h1 p1 => ?_
  subst h1
  cases v with
  | true => exact iteT (ha F1 H1 σ τ ρ1 Q hn r1 (by rw [if_pos rfl] at p1; exact p1))
  | false => exact iteF (hb F1 H1 σ τ ρ1 Q hn r1 (by rw [if_neg (by decide)] at p1; exact p1))
/-- a chain of two comparisons -/
def mChain (g g' : D → D → Option D) (a b c : Env → Out D) : Env → Out D := fun ρ => (a ρ).bind fun x ρ1 => (b ρ1).bind fun y ρ2 => match g x y with
  | some (.bl true) => (c ρ2).bind fun z ρ3 => lift (g' y z) ρ3
  | some (.bl false) => .ok (.bl false) ρ2
  | _ => .no
theorem sim_chain {r r' : R2} {g g' : D → D → Option D} {ta tb tc : TE} {a b c : Env → Out D} (ho : Op2 f.G r g) (ho' : Op2 f.G r' g') (ha : SimE f W ta a) (hb : SimE f W tb b) (hc : SimE f W tc c) : SimE f W (tChain r r' ta tb tc) (mChain g g' a b c) := by
  intro F H σ τ ρ Q hn rl p
  refine sim_bind ha hn rl p fun x ρ1 v F1 H1 s1 r1 h1 p1 => ?_
  refine sim_bind hb hn r1 p1 fun y ρ2 w F2 H2 s2 r2 h2 p2 => ?_
  split at p2
  · rename_i e
    refine ho F2 H2 v w x y _ _ r2.fh (.inl (h1.same s2)) (.inl h2) e fun z F3 H3 g3 h3 => ?_
    cases h3
    refine ⟨true, rfl, iteT ?_⟩
    refine sim_bind hc hn (r2.grow g3) (PostE.weak g3.ff p2) fun z ρ4 u F4 H4 s4 r4 h4 p4 => ?_
    obtain ⟨d, e', k⟩ := post_lift r4 p4
    exact ho' F4 H4 w u y z d Q r4.fh (.inl ((h2.same g3.ff).same s4)) (.inl h4) e' k
  · rename_i e
    refine ho F2 H2 v w x y _ _ r2.fh (.inl (h1.same s2)) (.inl h2) e fun z F3 H3 g3 h3 => ?_
    cases h3
    exact ⟨false, rfl, iteF (p2 _ F3 H3 g3.ff (r2.grow g3) (.bl _))⟩
  · exact p2.elim
/-! ### rows of values -/
def mNil : Env → Out (List D) := fun ρ => .ok [] ρ
def mCons (a : Env → Out D) (b : Env → Out (List D)) : Env → Out (List D) := fun ρ => (a ρ).bind fun x ρ1 => (b ρ1).bind fun xs ρ2 => .ok (x :: xs) ρ2
theorem sim_nil : SimA f W tNil mNil := fun F H σ τ ρ Q hn r p => p [] F H (Same.refl F) r .nil
theorem sim_cons {t : TE} {u : TA} {a : Env → Out D} {b : Env → Out (List D)} (ha : SimE f W t a) (hb : SimA f W u b) : SimA f W (tCons t u) (mCons a b) := by
  intro F H σ τ ρ Q hn r p
  refine sim_bind ha hn r p fun x ρ1 v F1 H1 s1 r1 h1 p1 => ?_
  refine sim_bind hb hn r1 p1 fun y ρ2 w F2 H2 s2 r2 h2 p2 => ?_
  exact p2 _ F2 H2 (Same.refl _) r2 (.cons (h1.same s2) h2)
def mTup (a : Env → Out (List D)) : Env → Out D := fun ρ => (a ρ).bind fun xs ρ1 => if xs.length ≤ lim then .ok (.tup xs) ρ1 else .no
theorem sim_tup {t : TA} {a : Env → Out (List D)} (h : SimA f W t a) : SimE f W (tTupF t) (mTup a) := by
  intro F H σ τ ρ Q hn r p
  refine sim_bind h hn r p fun x ρ1 v F1 H1 s1 r1 h1 p1 => ?_
  split at p1
  · rename_i hl
    exact ⟨lim_sz (by rw [h1.length]; exact hl), fun q o n go => p1 _ _ _ (Grow.new r1.fh n).ff (r1.grow (Grow.new r1.fh n)) (rep_tup go r1.fh n h1)⟩
  · exact p1.elim
/-! ### built-in calls -/
def OpdsR (f : Fr) (σ : L2.St) (F : Hp) : List V → List (Sum D Nat) → Prop
  | [], [] => True
  | v :: vs, a :: as => OpdR f σ F v a ∧ OpdsR f σ F vs as
  | _, _ => False
theorem opds_same {σ : L2.St} {F F' : Hp} (s : Same F F') : ∀ {vs : List V} {as : List (Sum D Nat)}, OpdsR f σ F vs as → OpdsR f σ F' vs as
  | [], [], h => h
  | v :: vs, a :: as, h => ⟨opd_same s h.1, opds_same s h.2⟩
  | [], _ :: _, h => h.elim
  | _ :: _, [], h => h.elim
def Pks (G : Cf) (F H : Hp) : List V → List D → Prop
  | [], [] => True
  | v :: vs, d :: ds => Pk G F H v d ∧ Pks G F H vs ds
  | _, _ => False
def rsvs : List (Sum D Nat) → Env → Option (List D)
  | [], _ => some []
  | a :: as, ρ => match rsv a ρ, rsvs as ρ with
    | some d, some ds => some (d :: ds)
    | _, _ => none
theorem opds_pk {F H : Hp} {σ τ : L2.St} {ρ : Env} (r : Rel f F H (σ ++ τ) ρ) : ∀ {vs : List V} {as : List (Sum D Nat)} {ds : List D}, OpdsR f σ F vs as → rsvs as ρ = some ds → Pks f.G F H vs ds
  | [], [], _, _, e => by cases e; trivial
  | v :: vs, a :: as, ds, h, e => by
    rw [rsvs] at e
    split at e
    · rename_i d ds' e1 e2
      cases e
      exact ⟨opd_pk r h.1 e1, opds_pk r h.2 e2⟩
    · cases e
  | [], _ :: _, _, h, _ => h.elim
  | _ :: _, [], _, h, _ => h.elim
abbrev SimOs (f : Fr) (W : WX) (t : TA) (m : Env → Out (List (Sum D Nat))) : Prop := Sim f W (OpdsR f) t m
def oNil : Env → Out (List (Sum D Nat)) := fun ρ => .ok [] ρ
def oCons (a : Env → Out (Sum D Nat)) (b : Env → Out (List (Sum D Nat))) : Env → Out (List (Sum D Nat)) := fun ρ => (a ρ).bind fun x ρ1 => (b ρ1).bind fun xs ρ2 => .ok (x :: xs) ρ2
theorem sim_onil : SimOs f W tNil oNil := fun F H σ τ ρ Q hn r p => p [] F H (Same.refl F) r trivial
theorem sim_ocons {t : TE} {u : TA} {a : Env → Out (Sum D Nat)} {b : Env → Out (List (Sum D Nat))} (ha : SimO f W t a) (hb : SimOs f W u b) : SimOs f W (tCons t u) (oCons a b) := by
  intro F H σ τ ρ Q hn r p
  refine sim_bind ha hn r p fun x ρ1 v F1 H1 s1 r1 h1 p1 => ?_
  refine sim_bind hb hn r1 p1 fun y ρ2 w F2 H2 s2 r2 h2 p2 => ?_
  exact p2 _ F2 H2 (Same.refl _) r2 ⟨opd_same s2 h1, h2⟩
def OpN (G : Cf) (r : List V → Hp → VK → Prop) (g : List D → Option D) : Prop := ∀ F H vs ds d Q, Same F H → Pks G F H vs ds → g ds = some d → Cont G F H d Q → r vs H Q
def mCB (g : List D → Option D) (a : Env → Out (List (Sum D Nat))) : Env → Out D := fun ρ => (a ρ).bind fun xs ρ1 => match rsvs xs ρ1 with
  | some ds => lift (g ds) ρ1
  | none => .no
theorem sim_cb {r : List V → Hp → VK → Prop} {g : List D → Option D} {t : TA} {a : Env → Out (List (Sum D Nat))} (ho : OpN f.G r g) (h : SimOs f W t a) : SimE f W (tCB r t) (mCB g a) := by
  intro F H σ τ ρ Q hn rl p
  refine sim_bind h hn rl p fun xs ρ1 vs F1 H1 s1 r1 h1 p1 => ?_
  split at p1
  · rename_i ds e1
    obtain ⟨d, e, c⟩ := post_lift r1 p1
    exact ho F1 H1 vs ds d Q r1.fh (opds_pk r1 h1 e1) e c
  · exact p1.elim
end
end Mi
set_option Elab.async false
set_option linter.all false
set_option maxRecDepth 100000
set_option maxHeartbeats 4000000
namespace Mi
open PySem PySem.Spec PyProof.Rows L2 Wk
/-! ### the environment changes -/
def Cell.isPar : Cell → Bool
  | .par _ => true
  | _ => false
section
variable {f : Fr} {F H : Hp} {σ τ : L2.St} {ρ : Env}
/-- a slot gets another value -/
theorem Rel.setc {i : Nat} {v : V} {d : D} (r : Rel f F H σ ρ) (hi : i < ρ.length) (h : Rep f.G F v d) : Rel f F H (σ.set i (some v)) (ρ.set i (.val d)) := by
  have hi' : i < σ.length := by rw [r.len]; exact hi
  refine ⟨r.fh, r.f0, r.out, by rw [List.length_set, List.length_set]; exact r.len, fun j c e => ?_, fun j k c c' p e1 e2 o1 o2 e3 e4 => ?_⟩
  · by_cases z : j = i
    · subst z
      rw [List.getElem?_set_self hi] at e
      cases e
      exact ⟨v, List.getElem?_set_self hi', h⟩
    · rw [List.getElem?_set_ne (Ne.symm z)] at e
      rw [List.getElem?_set_ne (Ne.symm z)]
      exact r.cell j c e
  · have own : ∀ {l : Nat} {c : Cell}, (ρ.set i (.val d))[l]? = some c → c.owned = true → l ≠ i ∧ ρ[l]? = some c := fun {l c} h1 h2 => by
      by_cases z : l = i
      · subst z
        rw [List.getElem?_set_self hi] at h1
        cases h1
        cases h2
      · rw [List.getElem?_set_ne (Ne.symm z)] at h1
        exact ⟨z, h1⟩
    obtain ⟨n1, e1⟩ := own e1 o1
    obtain ⟨n2, e2⟩ := own e2 o2
    rw [List.getElem?_set_ne (Ne.symm n1)] at e3
    rw [List.getElem?_set_ne (Ne.symm n2)] at e4
    exact r.sep j k c c' p e1 e2 o1 o2 e3 e4
/-- a new owned object behind all slots -/
theorem Rel.push {p : Addr} {ho : HO} {o : OD} (r : Rel f F H σ ρ) (n : H p = none) (h : RepO f.G F ho o) : Rel f F (upd H p ho) (σ ++ [some (.ref p)]) (ρ ++ [.own o]) := by
  have nF : F p = none := r.fh.free n
  have n0 : f.H0 p = none ∨ p ∈ f.ex := by
    by_cases hx : p ∈ f.ex
    · exact .inr hx
    · cases z : f.H0 p with
      | none => exact .inl rfl
      | some u =>
        have := (r.out p (by rw [z]; simp) hx).1
        rw [n, z] at this
        cases this
  refine ⟨fun b u e => by rw [upd_ne (ne_of_none e nF)]; exact r.fh b u e, r.f0, fun b hb he => ?_, by rw [List.length_append, List.length_append, r.len]; rfl, fun j c e => ?_, fun j k c c' q e1 e2 o1 o2 e3 e4 => ?_⟩
  · obtain ⟨h1, h2⟩ := r.out b hb he
    refine ⟨?_, h2⟩
    rw [upd_ne (fun z => by subst z; rw [n] at h1; exact hb h1.symm), h1]
  · by_cases z : j < ρ.length
    · rw [List.getElem?_append_left z] at e
      rw [List.getElem?_append_left (by rw [r.len]; exact z)]
      have hc := r.cell j c e
      cases c with
      | no => trivial
      | pin => exact hc
      | val d => exact hc
      | own o' =>
        obtain ⟨q, ho', h1, h2, h3⟩ := hc
        exact ⟨q, ho', h1, by rw [upd_ne (ne_of_none h2 n)]; exact h2, h3⟩
      | par o' =>
        obtain ⟨q, ho', h1, h2, h3⟩ := hc
        exact ⟨q, ho', h1, by rw [upd_ne (ne_of_none h2 n)]; exact h2, h3⟩
    · have zl : j = ρ.length := by
        have := (List.getElem?_eq_some_iff.mp e).1
        rw [List.length_append] at this
        simp at this
        omega
      subst zl
      rw [List.getElem?_concat_length] at e
      cases e
      rw [← r.len, List.getElem?_concat_length]
      exact ⟨p, ho, rfl, upd_same, nF, h, n0⟩
  · have lt : ∀ {l : Nat} {c : Cell}, (ρ ++ [.own o])[l]? = some c → l < ρ.length ∨ l = ρ.length := fun {l c} h1 => by
      have := (List.getElem?_eq_some_iff.mp h1).1
      rw [List.length_append] at this
      simp at this
      omega
    have adr : ∀ {l : Nat} {c : Cell}, l < ρ.length → (ρ ++ [.own o])[l]? = some c → c.owned = true → (σ ++ [some (.ref p)])[l]? = some (some (.ref q)) → q ≠ p := fun {l c} h1 h2 h3 h4 => by
      rw [List.getElem?_append_left h1] at h2
      rw [List.getElem?_append_left (by rw [r.len]; exact h1)] at h4
      have hc := r.cell l c h2
      cases c with
      | no => cases h3
      | pin => cases h3
      | val d => cases h3
      | own o' =>
        obtain ⟨q', ho', g1, g2, _⟩ := hc
        rw [h4] at g1
        cases g1
        exact ne_of_none g2 n
      | par o' =>
        obtain ⟨q', ho', g1, g2, _⟩ := hc
        rw [h4] at g1
        cases g1
        exact ne_of_none g2 n
    have last : ∀ {l : Nat}, l = ρ.length → (σ ++ [some (.ref p)])[l]? = some (some (.ref q)) → q = p := fun {l} h1 h2 => by
      rw [h1, ← r.len, List.getElem?_concat_length] at h2
      cases h2
      rfl
    rcases lt e1 with z1 | z1
    · rcases lt e2 with z2 | z2
      · rw [List.getElem?_append_left z1] at e1
        rw [List.getElem?_append_left z2] at e2
        rw [List.getElem?_append_left (by rw [r.len]; exact z1)] at e3
        rw [List.getElem?_append_left (by rw [r.len]; exact z2)] at e4
        exact r.sep j k c c' q e1 e2 o1 o2 e3 e4
      · exact absurd (last z2 e4) (adr z1 e1 o1 e3)
    · rcases lt e2 with z2 | z2
      · exact absurd (last z1 e3) (adr z2 e2 o2 e4)
      · rw [z1, z2]
/-- what stands behind is forgotten -/
theorem Rel.drop (r : Rel f F H (σ ++ τ) ρ) : Rel f F H σ (ρ.take σ.length) := by
  have hl : σ.length + τ.length = ρ.length := by rw [← r.len, List.length_append]
  have get : ∀ {j : Nat} {c : Cell}, (ρ.take σ.length)[j]? = some c → j < σ.length ∧ ρ[j]? = some c := fun {j c} e => by
    have h1 := (List.getElem?_eq_some_iff.mp e).1
    rw [List.length_take] at h1
    have h2 : j < σ.length := by omega
    rw [List.getElem?_take_of_lt h2] at e
    exact ⟨h2, e⟩
  refine ⟨r.fh, r.f0, r.out, by rw [List.length_take]; omega, fun j c e => ?_, fun j k c c' p e1 e2 o1 o2 e3 e4 => ?_⟩
  · obtain ⟨h1, h2⟩ := get e
    have hc := r.cell j c h2
    rw [List.getElem?_append_left h1] at hc
    exact hc
  · obtain ⟨h1, e1⟩ := get e1
    obtain ⟨h2, e2⟩ := get e2
    exact r.sep j k c c' p e1 e2 o1 o2 (by rw [List.getElem?_append_left h1]; exact e3) (by rw [List.getElem?_append_left h2]; exact e4)
/-- an owned object's new content -/
def Cell.put (o : OD) : Cell → Cell
  | .par _ => .par o
  | _ => .own o
theorem Rel.upd {i : Nat} {c : Cell} {p : Addr} {ho : HO} {o : OD} (r : Rel f F H σ ρ) (e : ρ[i]? = some c) (oc : c.owned = true) (es : σ[i]? = some (some (.ref p))) (h : RepO f.G F ho o) : Rel f F (L2.upd H p ho) σ (ρ.set i (c.put o)) := by
  have hi := (List.getElem?_eq_some_iff.mp e).1
  have ci := r.cell i c e
  have hp : (∃ u, H p = some u) ∧ F p = none ∧ (f.H0 p = none ∨ p ∈ f.ex) := by
    cases c with
    | no => cases oc
    | pin => cases oc
    | val d => cases oc
    | own o' =>
      obtain ⟨q, ho', h1, h2, h3, h4, h5⟩ := ci
      rw [es] at h1
      cases h1
      exact ⟨⟨_, h2⟩, h3, h5⟩
    | par o' =>
      obtain ⟨q, ho', h1, h2, h3, h4, h5, h6⟩ := ci
      rw [es] at h1
      cases h1
      exact ⟨⟨_, h2⟩, h3, .inr h5⟩
  obtain ⟨⟨u0, hu0⟩, nF, n0⟩ := hp
  refine ⟨fun b u e => by rw [upd_ne (ne_of_none e nF)]; exact r.fh b u e, r.f0, fun b hb he => ?_, by rw [List.length_set]; exact r.len, fun j c' e' => ?_, fun j k c1 c2 q e1 e2 o1 o2 e3 e4 => ?_⟩
  · obtain ⟨h1, h2⟩ := r.out b hb he
    refine ⟨?_, h2⟩
    rw [upd_ne (fun z => by subst z; exact n0.elim hb he), h1]
  · by_cases z : j = i
    · subst z
      rw [List.getElem?_set_self hi] at e'
      cases e'
      cases c with
      | no => cases oc
      | pin => cases oc
      | val d => cases oc
      | own o' => exact ⟨p, ho, es, upd_same, nF, h, n0⟩
      | par o' =>
        obtain ⟨q, ho', h1, h2, h3, h4, h5, h6⟩ := ci
        rw [es] at h1
        cases h1
        exact ⟨p, ho, es, upd_same, nF, h, h5, h6⟩
    · rw [List.getElem?_set_ne (Ne.symm z)] at e'
      have hc := r.cell j c' e'
      cases c' with
      | no => trivial
      | pin => exact hc
      | val d => exact hc
      | own o' =>
        obtain ⟨q, ho', h1, h2, h3⟩ := hc
        refine ⟨q, ho', h1, ?_, h3⟩
        rw [upd_ne (fun y => z (by subst y; exact r.sep j i _ c q e' e rfl oc h1 es))]
        exact h2
      | par o' =>
        obtain ⟨q, ho', h1, h2, h3⟩ := hc
        refine ⟨q, ho', h1, ?_, h3⟩
        rw [upd_ne (fun y => z (by subst y; exact r.sep j i _ c q e' e rfl oc h1 es))]
        exact h2
  · have own : ∀ {l : Nat} {c' : Cell}, (ρ.set i (c.put o))[l]? = some c' → c'.owned = true → ∃ c'', ρ[l]? = some c'' ∧ c''.owned = true := fun {l c'} h1 h2 => by
      by_cases z : l = i
      · subst z
        exact ⟨c, e, oc⟩
      · rw [List.getElem?_set_ne (Ne.symm z)] at h1
        exact ⟨c', h1, h2⟩
    obtain ⟨d1, g1, p1⟩ := own e1 o1
    obtain ⟨d2, g2, p2⟩ := own e2 o2
    exact r.sep j k d1 d2 q g1 g2 p1 p2 e3 e4
/-- the last temporary becomes a slot's -/
theorem Rel.move {i : Nat} {p : Addr} {o : OD} (r : Rel f F H (σ ++ [some (.ref p)]) (ρ ++ [.own o])) (hi : i < ρ.length) : Rel f F H (σ.set i (some (.ref p))) (ρ.set i (.own o)) := by
  have hl : σ.length = ρ.length := by
    have := r.len
    rw [List.length_append, List.length_append] at this
    simpa using this
  have hi' : i < σ.length := by omega
  have top : (ρ ++ [.own o])[ρ.length]? = some (.own o) := List.getElem?_concat_length
  have topS : (σ ++ [some (.ref p)])[ρ.length]? = some (some (.ref p)) := by rw [← hl]; exact List.getElem?_concat_length
  have up : ∀ {j : Nat} {c : Cell}, j < ρ.length → ρ[j]? = some c → (ρ ++ [.own o])[j]? = some c := fun {j c} h e => by rw [List.getElem?_append_left h]; exact e
  have upS : ∀ {j : Nat}, j < ρ.length → (σ ++ [some (.ref p)])[j]? = σ[j]? := fun {j} h => List.getElem?_append_left (by omega)
  refine ⟨r.fh, r.f0, r.out, by rw [List.length_set, List.length_set]; exact hl, fun j c e => ?_, fun j k c c' q e1 e2 o1 o2 e3 e4 => ?_⟩
  · by_cases z : j = i
    · subst z
      rw [List.getElem?_set_self hi] at e
      cases e
      have h := r.cell _ _ top
      rw [topS] at h
      obtain ⟨q, ho, h1, h2⟩ := h
      cases h1
      exact ⟨p, ho, List.getElem?_set_self hi', h2⟩
    · rw [List.getElem?_set_ne (Ne.symm z)] at e
      rw [List.getElem?_set_ne (Ne.symm z)]
      have hj := (List.getElem?_eq_some_iff.mp e).1
      have h := r.cell j c (up hj e)
      rw [upS hj] at h
      exact h
  · have src : ∀ {l : Nat} {c : Cell}, (ρ.set i (.own o))[l]? = some c → (σ.set i (some (.ref p)))[l]? = some (some (.ref q)) → ∃ l', (ρ ++ [.own o])[l']? = some c ∧ (σ ++ [some (.ref p)])[l']? = some (some (.ref q)) ∧ ((l = i ∧ l' = ρ.length) ∨ (l ≠ i ∧ l' = l ∧ l < ρ.length)) := fun {l c} h1 h2 => by
      by_cases z : l = i
      · subst z
        rw [List.getElem?_set_self hi] at h1
        rw [List.getElem?_set_self hi'] at h2
        cases h1
        cases h2
        exact ⟨_, top, topS, .inl ⟨rfl, rfl⟩⟩
      · rw [List.getElem?_set_ne (Ne.symm z)] at h1 h2
        have hj := (List.getElem?_eq_some_iff.mp h1).1
        exact ⟨l, up hj h1, by rw [upS hj]; exact h2, .inr ⟨z, rfl, hj⟩⟩
    obtain ⟨l1, a1, b1, w1⟩ := src e1 e3
    obtain ⟨l2, a2, b2, w2⟩ := src e2 e4
    have := r.sep l1 l2 c c' q a1 a2 o1 o2 b1 b2
    omega
end
/-! ### statements -/
inductive Fl where
  | nx | rt (d : D) | bk | ct
def PostS (f : Fr) (W : WX) (F : Hp) (E : Ends) : Out Fl → Prop
  | .no => False
  | .ok .nx ρ => ∀ σ F' H', Same F F' → σ.length = f.n → Rel f F' H' σ ρ → E.nx σ H'
  | .ok (.rt d) ρ => ∀ v σ F' H', Same F F' → σ.length = f.n → Rel f F' H' σ ρ → Rep f.G F' v d → E.rt v H'
  | .ok .bk ρ => ∀ σ F' H', Same F F' → σ.length = f.n → Rel f F' H' σ ρ → E.bk σ H'
  | .ok .ct ρ => ∀ σ F' H', Same F F' → σ.length = f.n → Rel f F' H' σ ρ → E.ct σ H'
  | .err x ρ => ∀ cls d σ F' H', Same F F' → σ.length = f.n → Rel f F' H' σ ρ → XRel f.G F' x cls d → W cls d σ H'
def SimS (f : Fr) (W : WX) (t : TS) (m : Env → Out Fl) : Prop := ∀ F H σ ρ E, σ.length = f.n → Rel f F H σ ρ → PostS f W F E (m ρ) → t E σ H
theorem PostS.weak {f : Fr} {W : WX} {F F1 : Hp} {E : Ends} {o : Out Fl} (e : Same F F1) (h : PostS f W F E o) : PostS f W F1 E o := by
  match o, h with
  | .ok .nx ρ, h => exact fun σ F' H' s => h σ F' H' (e.trans s)
  | .ok (.rt d) ρ, h => exact fun v σ F' H' s => h v σ F' H' (e.trans s)
  | .ok .bk ρ, h => exact fun σ F' H' s => h σ F' H' (e.trans s)
  | .ok .ct ρ, h => exact fun σ F' H' s => h σ F' H' (e.trans s)
  | .err x ρ, h => exact fun c d σ F' H' s => h c d σ F' H' (e.trans s)
section
variable {f : Fr} {W : WX}
theorem sim_bindS {α β : Type} {R : L2.St → Hp → β → α → Prop} {t : L2.St → Hp → (β → Hp → Prop) → Prop} {m : Env → Out α} (h : Sim f W R t m) {F H : Hp} {σ : L2.St} {ρ : Env} {E : Ends} {k : α → Env → Out Fl} {c : β → Hp → Prop}
    (hn : σ.length = f.n) (r : Rel f F H σ ρ) (p : PostS f W F E ((m ρ).bind k))
    (hk : ∀ a ρ1 b F1 H1, Same F F1 → Rel f F1 H1 σ ρ1 → R σ F1 b a → PostS f W F1 E (k a ρ1) → c b H1) : t σ H c := by
  refine h F H σ [] ρ c hn (by rw [List.append_nil]; exact r) ?_
  cases e : m ρ with
  | no => rw [e] at p; exact p
  | ok a ρ1 =>
    rw [e] at p
    exact fun b F1 H1 s r1 hR => hk a ρ1 b F1 H1 s (by rw [List.append_nil] at r1; exact r1) hR (PostS.weak s p)
  | err x ρ1 =>
    rw [e] at p
    exact fun cls d F' H' s r1 hx => p cls d σ F' H' s hn (by rw [List.append_nil] at r1; exact r1) hx
def mNext : Env → Out Fl := fun ρ => .ok .nx ρ
theorem sim_next : SimS f W tNext mNext := fun F H σ ρ E hn r p => p σ F H (Same.refl F) hn r
def mBreak : Env → Out Fl := fun ρ => .ok .bk ρ
theorem sim_break : SimS f W tBreak mBreak := fun F H σ ρ E hn r p => p σ F H (Same.refl F) hn r
def mContinue : Env → Out Fl := fun ρ => .ok .ct ρ
theorem sim_continue : SimS f W tCont mContinue := fun F H σ ρ E hn r p => p σ F H (Same.refl F) hn r
def seqK (b : Env → Out Fl) : Fl → Env → Out Fl
  | .nx, ρ => b ρ
  | .rt d, ρ => .ok (.rt d) ρ
  | .bk, ρ => .ok .bk ρ
  | .ct, ρ => .ok .ct ρ
def mSeq (a b : Env → Out Fl) : Env → Out Fl := fun ρ => (a ρ).bind (seqK b)
theorem sim_seq {t u : TS} {a b : Env → Out Fl} (ha : SimS f W t a) (hb : SimS f W u b) : SimS f W (tSeq t u) (mSeq a b) := by
  intro F H σ ρ E hn r p
  refine ha F H σ ρ _ hn r ?_
  unfold mSeq at p
  match h : a ρ with
  | .no => rw [h] at p; exact p
  | .err x ρ1 => rw [h] at p; exact p
  | .ok .nx ρ1 =>
    rw [h] at p
    exact fun σ' F' H' s l r1 => hb F' H' σ' ρ1 E l r1 (PostS.weak s p)
  | .ok (.rt d) ρ1 => rw [h] at p; exact p
  | .ok .bk ρ1 => rw [h] at p; exact p
  | .ok .ct ρ1 => rw [h] at p; exact p
def mRet (m : Env → Out D) : Env → Out Fl := fun ρ => (m ρ).bind fun d ρ1 => .ok (.rt d) ρ1
theorem sim_ret {t : TE} {m : Env → Out D} (h : SimE f W t m) : SimS f W (tRet t) (mRet m) := fun F H σ ρ E hn r p =>
  sim_bindS h hn r p fun d ρ1 v F1 H1 s1 r1 h1 p1 => p1 v σ F1 H1 (Same.refl _) hn r1 h1
def mRetN : Env → Out Fl := fun ρ => .ok (.rt .non) ρ
theorem sim_retN : SimS f W tRetN mRetN := fun F H σ ρ E hn r p => p _ σ F H (Same.refl F) hn r .non
def mDrop (m : Env → Out D) : Env → Out Fl := fun ρ => (m ρ).bind fun _ ρ1 => .ok .nx ρ1
theorem sim_drop {t : TE} {m : Env → Out D} (h : SimE f W t m) : SimS f W (tDrop t) (mDrop m) := fun F H σ ρ E hn r p =>
  sim_bindS h hn r p fun d ρ1 v F1 H1 s1 r1 h1 p1 => p1 σ F1 H1 (Same.refl _) hn r1
theorem sim_ifS {c : TT} {t u : TS} {mc : Env → Out Bool} {a b : Env → Out Fl} (hc : SimT f W c mc) (ha : SimS f W t a) (hb : SimS f W u b) : SimS f W (tIfS c t u) (mIf mc a b) := by
  intro F H σ ρ E hn r p
  refine sim_bindS hc hn r p fun x ρ1 v F1 H1 s1 r1 h1 p1 => ?_
  subst h1
  cases v with
  | true => exact iteT (ha F1 H1 σ ρ1 E hn r1 (by rw [if_pos rfl] at p1; exact p1))
  | false => exact iteF (hb F1 H1 σ ρ1 E hn r1 (by rw [if_neg (by decide)] at p1; exact p1))
/-- a statement that is not reached -/
def mNever : Env → Out Fl := fun _ => .no
theorem sim_never {t : TS} : SimS f W t mNever := fun _ _ _ _ _ _ _ p => p.elim
def mNeverE {α : Type} : Env → Out α := fun _ => .no
theorem sim_neverE {α β : Type} {R : L2.St → Hp → β → α → Prop} {t : L2.St → Hp → (β → Hp → Prop) → Prop} : Sim f W R t mNeverE := fun _ _ _ _ _ _ _ _ p => p.elim
/-! ### targets -/
def SimG (f : Fr) (vs : List Nat) (g : TG) (mg : D → Env → Option Env) : Prop := ∀ F H σ τ ρ v d ρ' Q, σ.length = f.n → Rel f F H (σ ++ τ) ρ → Rep f.G F v d → mg d ρ = some ρ' →
  (∀ σ', σ'.length = f.n → wipe σ' vs = wipe σ vs → Rel f F H (σ' ++ τ) ρ' → Q σ' H) → g v σ H Q
def setv (i : Nat) (d : D) (ρ : Env) : Option Env := match ρ[i]? with
  | some c => if c.isPar then none else some (ρ.set i (.val d))
  | none => none
theorem wipe_set {σ : L2.St} {i : Nat} {x : Option V} : ∀ {vs : List Nat}, i ∈ vs → wipe (σ.set i x) vs = wipe σ vs
  | v :: vs, h => by
    unfold wipe
    by_cases z : v = i
    · subst z
      have key : ∀ ws : List Nat, (wipe (σ.set v x) ws).set v none = (wipe σ ws).set v none := fun ws => by
        induction ws with
        | nil => exact List.set_set ..
        | cons w ws ih =>
          unfold wipe
          by_cases y : w = v
          · subst y
            rw [List.set_set, List.set_set, ih]
          · rw [List.set_comm _ _ y, ih, List.set_comm _ _ (Ne.symm y)]
      exact key vs
    · rcases List.mem_cons.mp h with e | e
      · exact absurd e.symm z
      · rw [wipe_set e]
theorem set_app {σ τ : L2.St} {i : Nat} {x : Option V} (h : i < σ.length) : (σ ++ τ).set i x = σ.set i x ++ τ := List.set_append_left i x h
theorem sim_gName {i : Nat} {vs : List Nat} (hi : i < f.n) (hv : i ∈ vs) : SimG f vs (gName i) (setv i) := by
  intro F H σ τ ρ v d ρ' Q hn r h e k
  unfold setv at e
  split at e
  · rename_i c hc
    split at e
    · cases e
    · cases e
      refine k (σ.set i (some v)) (by rw [List.length_set]; exact hn) (wipe_set hv) ?_
      rw [← set_app (by omega)]
      exact r.setc (List.getElem?_eq_some_iff.mp hc).1 h
  · cases e
def SimGs (f : Fr) (vs : List Nat) (g : TGs) (mg : List D → Env → Option Env) : Prop := ∀ F H σ τ ρ xs ds ρ' Q, σ.length = f.n → Rel f F H (σ ++ τ) ρ → Reps f.G F xs ds → mg ds ρ = some ρ' →
  (∀ σ', σ'.length = f.n → wipe σ' vs = wipe σ vs → Rel f F H (σ' ++ τ) ρ' → Q σ' H) → g xs σ H Q
def gmNil : List D → Env → Option Env
  | [], ρ => some ρ
  | _, _ => none
def gmCons (a : D → Env → Option Env) (b : List D → Env → Option Env) : List D → Env → Option Env
  | d :: ds, ρ => (a d ρ).bind (b ds)
  | [], _ => none
theorem sim_gsNil {vs : List Nat} : SimGs f vs gNil gmNil := by
  intro F H σ τ ρ xs ds ρ' Q hn r h e k
  cases h with
  | nil =>
    cases e
    exact ⟨rfl, k σ hn rfl r⟩
  | cons _ _ => cases e
theorem sim_gsCons {vs : List Nat} {g : TG} {gs : TGs} {a : D → Env → Option Env} {b : List D → Env → Option Env} (ha : SimG f vs g a) (hb : SimGs f vs gs b) : SimGs f vs (gCons g gs) (gmCons a b) := by
  intro F H σ τ ρ xs ds ρ' Q hn r h e k
  cases h with
  | nil => cases e
  | @cons v d vs' ds' h1 h2 =>
    obtain ⟨ρ1, e1, e2⟩ := Option.bind_eq_some_iff.mp e
    exact ⟨v, _, rfl, ha F H σ τ ρ v d ρ1 _ hn r h1 e1 fun σ1 l1 w1 r1 => hb F H σ1 τ ρ1 _ ds' ρ' Q l1 r1 h2 e2 fun σ2 l2 w2 r2 => k σ2 l2 (w2.trans w1) r2⟩
def gmTup (n : Nat) (b : List D → Env → Option Env) : D → Env → Option Env
  | .tup ds, ρ => if ds.length = n then b ds ρ else none
  | .pr ds, ρ => if ds.length = n then b ds ρ else none
  | .ft ds, ρ => if ds.length = n then b ds ρ else none
  | _, _ => none
theorem sim_gTup {vs : List Nat} {n : Nat} {gs : TGs} {b : List D → Env → Option Env} (hb : SimGs f vs gs b) : SimG f vs (gTup f.G.K n gs) (gmTup n b) := by
  intro F H σ τ ρ v d ρ' Q hn r h e k
  have go : ∀ {a : Addr} {ws : List V} {ds : List D}, SqT f.G.K F a ws → Reps f.G F ws ds → (if ds.length = n then b ds ρ else none) = some ρ' → gTup f.G.K n gs (.ref a) σ H Q := fun {a ws ds} h1 h2 e' => by
    split at e'
    · rename_i hl
      exact ⟨a, ws, rfl, same_seqT r.fh h1, by rw [h2.length]; exact hl, hb F H σ τ ρ ws ds ρ' Q hn r h2 e' k⟩
    · cases e'
  cases h with
  | tup h0 h1 h2 => exact go (tup_sq h1) h2 e
  | pr h1 h2 => exact go (SqT.of h1) h2 e
  | ft h1 h2 => exact go h1 h2 e
  | _ => cases e
def mAsg (a : Env → Out D) (mg : D → Env → Option Env) : Env → Out Fl := fun ρ => (a ρ).bind fun d ρ1 => match mg d ρ1 with
  | some ρ2 => .ok .nx ρ2
  | none => .no
theorem sim_asg {t : TE} {g : TG} {vs : List Nat} {a : Env → Out D} {mg : D → Env → Option Env} (ha : SimE f W t a) (hg : SimG f vs g mg) : SimS f W (tAsg t g) (mAsg a mg) := by
  intro F H σ ρ E hn r p
  refine sim_bindS ha hn r p fun d ρ1 v F1 H1 s1 r1 h1 p1 => ?_
  split at p1
  · rename_i ρ2 e
    exact hg F1 H1 σ [] ρ1 v d ρ2 _ hn (by rw [List.append_nil]; exact r1) h1 e fun σ' l w r2 => p1 σ' F1 H1 (Same.refl _) l (by rw [List.append_nil] at r2; exact r2)
  · exact p1.elim
end
end Mi
set_option Elab.async false
set_option linter.all false
set_option maxRecDepth 100000
set_option maxHeartbeats 4000000
namespace Mi
open PySem PySem.Spec PyProof.Rows L2 Wk
section
variable {f : Fr} {W : WX}
/-! ### fresh objects -/
def PostF (f : Fr) (W : WX) (F : Hp) (σ τ : L2.St) (Q : VK) : Out OD → Prop
  | .no => False
  | .ok o ρ => ∀ p F' H', Same F F' → Rel f F' H' ((σ ++ τ) ++ [some (.ref p)]) (ρ ++ [.own o]) → Q (.ref p) H'
  | .err x ρ => ∀ cls d F' H', Same F F' → Rel f F' H' (σ ++ τ) ρ → XRel f.G F' x cls d → W cls d σ H'
def SimF (f : Fr) (W : WX) (t : TE) (m : Env → Out OD) : Prop := ∀ F H σ τ ρ Q, σ.length = f.n → Rel f F H (σ ++ τ) ρ → PostF f W F σ τ Q (m ρ) → t σ H Q
theorem PostF.weak {F F1 : Hp} {σ τ : L2.St} {Q : VK} {o : Out OD} (e : Same F F1) (h : PostF f W F σ τ Q o) : PostF f W F1 σ τ Q o := by
  cases o with
  | no => exact h
  | ok a ρ => exact fun b F' H' e' => h b F' H' (e.trans e')
  | err x ρ => exact fun c d F' H' e' => h c d F' H' (e.trans e')
theorem sim_bindF {α β : Type} {R : L2.St → Hp → β → α → Prop} {t : L2.St → Hp → (β → Hp → Prop) → Prop} {m : Env → Out α} (h : Sim f W R t m) {F H : Hp} {σ τ : L2.St} {ρ : Env} {Q : VK} {k : α → Env → Out OD} {c : β → Hp → Prop}
    (hn : σ.length = f.n) (r : Rel f F H (σ ++ τ) ρ) (p : PostF f W F σ τ Q ((m ρ).bind k))
    (hk : ∀ a ρ1 b F1 H1, Same F F1 → Rel f F1 H1 (σ ++ τ) ρ1 → R σ F1 b a → PostF f W F1 σ τ Q (k a ρ1) → c b H1) : t σ H c := by
  refine h F H σ τ ρ c hn r ?_
  cases e : m ρ with
  | no => rw [e] at p; exact p
  | ok a ρ1 =>
    rw [e] at p
    exact fun b F1 H1 s r1 hR => hk a ρ1 b F1 H1 s r1 hR (PostF.weak s p)
  | err x ρ1 =>
    rw [e] at p
    exact p
def fLst (a : Env → Out (List D)) : Env → Out OD := fun ρ => (a ρ).bind fun xs ρ1 => if xs.length ≤ lim then .ok (.lst xs) ρ1 else .no
theorem sim_fLst {t : TA} {a : Env → Out (List D)} (h : SimA f W t a) : SimF f W (tLst t) (fLst a) := by
  intro F H σ τ ρ Q hn r p
  refine sim_bindF h hn r p fun x ρ1 v F1 H1 s1 r1 h1 p1 => ?_
  split at p1
  · rename_i hl
    exact ⟨lim_sz (by rw [h1.length]; exact hl), fun q n => p1 q F1 _ (Same.refl _) (r1.push n (.lst h1))⟩
  · exact p1.elim
def fDk : Env → Out OD := fun ρ => .ok (.dk []) ρ
theorem sim_fDk : SimF f W tDNewK fDk := fun F H σ τ ρ Q hn r p => fun q n => p q F _ (Same.refl _) (r.push n (.dk .nil))
/-- list(x) -/
def dSeq : D → Option (List D)
  | .lst l => some l
  | .fl l => some l
  | .tup l => some l
  | .ft l => some l
  | _ => none
def rList (K : PySem.W.Frag) : List V → Hp → VK → Prop := fun xs H Q => ∃ p ys, xs = [.ref p] ∧ (SqL K H p ys ∨ SqT K H p ys) ∧ ∀ l, H l = none → Q (.ref l) (upd H l (.lst ys))
theorem call_listG {X : Cx} {K : PySem.W.Frag} (hK : X.K = K) : CallR X (.type "list") (rList K) := by
  subst hK
  exact call_list_of
theorem pk_seq {G : Cf} {F H : Hp} {v : V} {d : D} {l : List D} (s : Same F H) (h : Pk G F H v d) (e : dSeq d = some l) : ∃ p vs, v = .ref p ∧ (SqL G.K H p vs ∨ SqT G.K H p vs) ∧ Reps G F vs l := by
  unfold dSeq at e
  split at e
  · cases e
    obtain ⟨p, vs, rfl, h1, h2⟩ := pk_lst s h
    exact ⟨p, vs, rfl, .inl (SqL.of h1), h2⟩
  · cases e
    obtain ⟨p, vs, rfl, h1, h2⟩ := pk_fl s h
    exact ⟨p, vs, rfl, .inl h1, h2⟩
  · cases e
    obtain ⟨p, vs, rfl, h1, h2⟩ := pk_tup s h
    exact ⟨p, vs, rfl, .inr h1, h2⟩
  · cases e
    obtain ⟨p, vs, rfl, h1, h2⟩ := pk_ft s h
    exact ⟨p, vs, rfl, .inr h1, h2⟩
  · cases e
def fList (a : Env → Out (Sum D Nat)) : Env → Out OD := fun ρ => (a ρ).bind fun x ρ1 => match (rsv x ρ1).bind dSeq with
  | some l => .ok (.lst l) ρ1
  | none => .no
theorem sim_fList {t : TE} {a : Env → Out (Sum D Nat)} (h : SimO f W t a) : SimF f W (tCB (rList f.G.K) (tCons t tNil)) (fList a) := by
  intro F H σ τ ρ Q hn r p
  refine sim_bindF h hn r p fun x ρ1 v F1 H1 s1 r1 h1 p1 => ?_
  split at p1
  · rename_i l e
    obtain ⟨d, e1, e2⟩ := Option.bind_eq_some_iff.mp e
    obtain ⟨q, vs, rfl, h2, h3⟩ := pk_seq r1.fh (opd_pk r1 h1 e1) e2
    exact ⟨q, vs, rfl, h2, fun y n => p1 y F1 _ (Same.refl _) (r1.push n (.lst h3))⟩
  · exact p1.elim
/-- a fresh object as a value -/
def mFrz (m : Env → Out OD) : Env → Out D := fun ρ => (m ρ).bind fun o ρ1 => .ok o.d ρ1
theorem take_app {α : Type} {l m : List α} {n : Nat} (h : n = l.length) : (l ++ m).take n = l := by rw [h]; exact List.take_left ..
theorem sim_frz {t : TE} {m : Env → Out OD} (h : SimF f W t m) : SimE f W t (mFrz m) := by
  intro F H σ τ ρ Q hn r p
  refine h F H σ τ ρ Q hn r ?_
  unfold mFrz at p
  cases e : m ρ with
  | no => rw [e] at p; exact p
  | err x ρ1 => rw [e] at p; exact p
  | ok o ρ1 =>
    rw [e] at p
    intro q F' H' s r1
    have hl : (σ ++ τ).length = ρ1.length := by
      have := r1.len
      rw [List.length_append, List.length_append (as := ρ1)] at this
      simpa using this
    have top : (ρ1 ++ [.own o])[ρ1.length]? = some (.own o) := List.getElem?_concat_length
    obtain ⟨q', ho, h1, h2, h3, h4, h5⟩ := r1.cell _ _ top
    have hs : ((σ ++ τ) ++ [some (.ref q)])[ρ1.length]? = some (some (.ref q)) := by rw [← hl]; exact List.getElem?_concat_length
    have hq : q' = q := by
      rw [hs] at h1
      cases h1
      rfl
    subst hq
    obtain ⟨r2, s2, h6⟩ := r1.freeze top hs h2 h3 h4 h5
    have r3 := r2.drop
    rw [List.set_append_right _ _ (Nat.le_refl _), take_app hl] at r3
    exact p _ _ H' (s.trans s2) r3 h6
/-- a name for a fresh object -/
def mAsgO (i : Nat) (m : Env → Out OD) : Env → Out Fl := fun ρ => (m ρ).bind fun o ρ1 => match ρ1[i]? with
  | some c => if c.isPar then .no else .ok .nx (ρ1.set i (.own o))
  | none => .no
theorem sim_asgO {t : TE} {m : Env → Out OD} {i : Nat} (h : SimF f W t m) : SimS f W (tAsg t (gName i)) (mAsgO i m) := by
  intro F H σ ρ E hn r p
  refine h F H σ [] ρ _ hn (by rw [List.append_nil]; exact r) ?_
  unfold mAsgO at p
  cases e : m ρ with
  | no => rw [e] at p; exact p
  | err x ρ1 =>
    rw [e] at p
    exact fun cls d F' H' s r1 hx => p cls d σ F' H' s hn (by rw [List.append_nil] at r1; exact r1) hx
  | ok o ρ1 =>
    rw [e] at p
    intro q F' H' s r1
    rw [List.append_nil] at r1
    have p' : PostS f W F E (match ρ1[i]? with
      | some c => if c.isPar then .no else .ok .nx (ρ1.set i (.own o))
      | none => .no) := p
    split at p'
    · rename_i c hc
      split at p'
      · exact p'.elim
      · exact p' _ F' H' s (by rw [List.length_set]; exact hn) (r1.move (List.getElem?_eq_some_iff.mp hc).1)
    · exact p'.elim
/-! ### what a name owns, changed -/
def Cell.olst : Cell → Option (List D)
  | .own (.lst l) => some l
  | .par (.lst l) => some l
  | _ => none
def Cell.odk : Cell → Option (List (Key × D))
  | .own (.dk l) => some l
  | .par (.dk l) => some l
  | _ => none
theorem olst_rel {F H : Hp} {σ : L2.St} {ρ : Env} {i : Nat} {c : Cell} {l : List D} (r : Rel f F H σ ρ) (e : ρ[i]? = some c) (o : c.olst = some l) : c.owned = true ∧ ∃ p vs, σ[i]? = some (some (.ref p)) ∧ H p = some (.lst vs) ∧ Reps f.G F vs l := by
  have h := r.cell i c e
  unfold Cell.olst at o
  split at o
  · cases o
    obtain ⟨p, ho, h1, h2, h3, h4, h5⟩ := h
    cases h4 with
    | lst h4 => exact ⟨rfl, p, _, h1, h2, h4⟩
  · cases o
    obtain ⟨p, ho, h1, h2, h3, h4, h5⟩ := h
    cases h4 with
    | lst h4 => exact ⟨rfl, p, _, h1, h2, h4⟩
  · cases o
theorem odk_rel {F H : Hp} {σ : L2.St} {ρ : Env} {i : Nat} {c : Cell} {l : List (Key × D)} (r : Rel f F H σ ρ) (e : ρ[i]? = some c) (o : c.odk = some l) : c.owned = true ∧ ∃ p vs, σ[i]? = some (some (.ref p)) ∧ H p = some (.dK vs) ∧ RepK f.G F vs l := by
  have h := r.cell i c e
  unfold Cell.odk at o
  split at o
  · cases o
    obtain ⟨p, ho, h1, h2, h3, h4, h5⟩ := h
    cases h4 with
    | dk h4 => exact ⟨rfl, p, _, h1, h2, h4⟩
  · cases o
    obtain ⟨p, ho, h1, h2, h3, h4, h5⟩ := h
    cases h4 with
    | dk h4 => exact ⟨rfl, p, _, h1, h2, h4⟩
  · cases o
/-- xs.append(e), xs a name -/
def mAppend (i : Nat) (m : Env → Out D) : Env → Out D := fun ρ => match ρ[i]?.bind Cell.olst with
  | none => .no
  | some _ => (m ρ).bind fun d ρ1 => match ρ1[i]? with
    | none => .no
    | some c => match c.olst with
      | none => .no
      | some l => if l.length < lim then .ok .non (ρ1.set i (c.put (.lst (l ++ [d])))) else .no
theorem sim_append {t : TE} {m : Env → Out D} {i : Nat} (hi : i < f.n) (h : SimE f W t m) : SimE f W (tBM f.G.K "list" rAppend (tVar i) (tCons t tNil)) (mAppend i m) := by
  intro F H σ τ ρ Q hn r p
  unfold mAppend at p
  split at p
  · exact p.elim
  · rename_i l0 e0
    obtain ⟨c0, e1, e2⟩ := Option.bind_eq_some_iff.mp e0
    obtain ⟨_, q, vs, h1, h2, h3⟩ := olst_rel r e1 e2
    refine ⟨.ref q, app_get (by omega) h1, .inl ⟨rfl, vs, SqL.of h2⟩, ?_⟩
    refine sim_bind h hn r p fun d ρ1 v F1 H1 s1 r1 g1 p1 => ?_
    split at p1
    · exact p1.elim
    · rename_i c e3
      split at p1
      · exact p1.elim
      · rename_i l e4
        split at p1
        · rename_i hl
          obtain ⟨oc, q', ws, k1, k2, k3⟩ := olst_rel r1 e3 e4
          have hq : q' = q := by
            rw [h1] at k1
            cases k1
            rfl
          subst hq
          refine ⟨q', ws, v, rfl, rfl, k2, sz_lt (by rw [k3.length]; exact hl), ?_⟩
          exact p1 _ F1 _ (Same.refl _) (r1.upd e3 oc k1 (.lst (k3.append (.cons g1 .nil)))) .non
        · exact p1.elim
/-- xs.pop() -/
def mPop (i : Nat) : Env → Out D := fun ρ => match ρ[i]? with
  | none => .no
  | some c => match c.olst with
    | none => .no
    | some l => match l[l.length - 1]? with
      | none => .no
      | some d => .ok d (ρ.set i (c.put (.lst l.dropLast)))
theorem Reps.dropLast {G : Cf} {F : Hp} {vs : List V} {ds : List D} (h : Reps G F vs ds) : Reps G F vs.dropLast ds.dropLast := by
  rw [List.dropLast_eq_take, List.dropLast_eq_take, h.length]
  exact h.take _
theorem sim_pop {i : Nat} (hi : i < f.n) : SimE f W (tBM0 f.G.K "list" rPop (tVar i)) (mPop i) := by
  intro F H σ τ ρ Q hn r p
  unfold mPop at p
  split at p
  · exact p.elim
  · rename_i c e1
    split at p
    · exact p.elim
    · rename_i l e2
      split at p
      · exact p.elim
      · rename_i d e3
        obtain ⟨oc, q, vs, h1, h2, h3⟩ := olst_rel r e1 e2
        obtain ⟨y, h4, h5⟩ := h3.get e3
        refine ⟨.ref q, app_get (by omega) h1, .inl ⟨rfl, vs, SqL.of h2⟩, q, vs, y, rfl, rfl, h2, by rw [h3.length]; exact h4, ?_⟩
        exact p y F _ (Same.refl _) (r.upd e1 oc h1 (.lst h3.dropLast)) h5
/-- xs.pop(k) -/
def mPopAt (i : Nat) (m : Env → Out D) : Env → Out D := fun ρ => match ρ[i]?.bind Cell.olst with
  | none => .no
  | some _ => (m ρ).bind fun x ρ1 => match ρ1[i]?, x with
    | some c, .int k => match c.olst with
      | none => .no
      | some l => if -(2 ^ 63) ≤ k ∧ k < 2 ^ 63 then match seqIndex? k l.length with
        | none => .no
        | some j => match l[j]? with
          | none => .no
          | some d => .ok d (ρ1.set i (c.put (.lst (l.eraseIdx j))))
        else .no
    | _, _ => .no
theorem sim_popAt {t : TE} {m : Env → Out D} {i : Nat} (hi : i < f.n) (h : SimE f W t m) : SimE f W (tBM f.G.K "list" rPopAt (tVar i) (tCons t tNil)) (mPopAt i m) := by
  intro F H σ τ ρ Q hn r p
  unfold mPopAt at p
  split at p
  · exact p.elim
  · rename_i l0 e0
    obtain ⟨c0, e1, e2⟩ := Option.bind_eq_some_iff.mp e0
    obtain ⟨_, q, vs, h1, h2, h3⟩ := olst_rel r e1 e2
    refine ⟨.ref q, app_get (by omega) h1, .inl ⟨rfl, vs, SqL.of h2⟩, ?_⟩
    refine sim_bind h hn r p fun d ρ1 v F1 H1 s1 r1 g1 p1 => ?_
    split at p1
    · rename_i c k e3
      split at p1
      · exact p1.elim
      · rename_i l e4
        split at p1
        · rename_i hl
          split at p1
          · exact p1.elim
          · rename_i j e5
            split at p1
            · exact p1.elim
            · rename_i d e6
              obtain ⟨oc, q', ws, k1, k2, k3⟩ := olst_rel r1 e3 e4
              have hq : q' = q := by
                rw [h1] at k1
                cases k1
                rfl
              subst hq
              cases g1
              obtain ⟨y, h4, h5⟩ := k3.get e6
              refine ⟨q', ws, k, j, y, rfl, rfl, k2, hl.1, hl.2, by rw [k3.length]; exact e5, h4, ?_⟩
              exact p1 y F1 _ (Same.refl _) (r1.upd e3 oc k1 (.lst (k3.eraseIdx j))) h5
        · exact p1.elim
    · exact p1.elim
/-- xs.extend(e) -/
def mExtend (i : Nat) (a : Env → Out (Sum D Nat)) : Env → Out D := fun ρ => match ρ[i]?.bind Cell.olst with
  | none => .no
  | some _ => (a ρ).bind fun x ρ1 => match ρ1[i]?, rsv x ρ1 with
    | some c, some (.lst z) => match c.olst with
      | none => .no
      | some l => if l.length + z.length ≤ lim then .ok .non (ρ1.set i (c.put (.lst (l ++ z)))) else .no
    | _, _ => .no
theorem sim_extend {t : TE} {a : Env → Out (Sum D Nat)} {i : Nat} (hi : i < f.n) (h : SimO f W t a) : SimE f W (tBM f.G.K "list" rExtend (tVar i) (tCons t tNil)) (mExtend i a) := by
  intro F H σ τ ρ Q hn r p
  unfold mExtend at p
  split at p
  · exact p.elim
  · rename_i l0 e0
    obtain ⟨c0, e1, e2⟩ := Option.bind_eq_some_iff.mp e0
    obtain ⟨_, q, vs, h1, h2, h3⟩ := olst_rel r e1 e2
    refine ⟨.ref q, app_get (by omega) h1, .inl ⟨rfl, vs, SqL.of h2⟩, ?_⟩
    refine sim_bind h hn r p fun x ρ1 v F1 H1 s1 r1 g1 p1 => ?_
    split at p1
    · rename_i c z e3 e5
      split at p1
      · exact p1.elim
      · rename_i l e4
        split at p1
        · rename_i hl
          obtain ⟨oc, q', ws, k1, k2, k3⟩ := olst_rel r1 e3 e4
          have hq : q' = q := by
            rw [h1] at k1
            cases k1
            rfl
          subst hq
          obtain ⟨b, zs, rfl, z1, z2⟩ := pk_lst r1.fh (opd_pk r1 g1 e5)
          refine ⟨q', b, ws, zs, rfl, rfl, k2, z1, lim_sz (by rw [k3.length, z2.length]; exact hl), ?_⟩
          exact p1 _ F1 _ (Same.refl _) (r1.upd e3 oc k1 (.lst (k3.append z2))) .non
        · exact p1.elim
    · exact p1.elim
/-- xs[k] = e -/
def mSetIx (i : Nat) (mv mk : Env → Out D) : Env → Out Fl := fun ρ => (mv ρ).bind fun d ρ1 => match ρ1[i]?.bind Cell.olst with
  | none => .no
  | some _ => (mk ρ1).bind fun x ρ2 => match ρ2[i]?, x with
    | some c, .int k => match c.olst with
      | none => .no
      | some l => match ixN l.length k with
        | none => .no
        | some j => .ok .nx (ρ2.set i (c.put (.lst (l.set j d))))
    | _, _ => .no
theorem sim_setIx {tv tk : TE} {mv mk : Env → Out D} {i : Nat} (hi : i < f.n) (hv : SimE f W tv mv) (hk : SimE f W tk mk) : SimS f W (tAsg tv (gSub (tVar i) tk rSetL)) (mSetIx i mv mk) := by
  intro F H σ ρ E hn r p
  refine sim_bindS hv hn r p fun d ρ1 v F1 H1 s1 r1 g1 p1 => ?_
  split at p1
  · exact p1.elim
  · rename_i l0 e0
    obtain ⟨c0, e1, e2⟩ := Option.bind_eq_some_iff.mp e0
    obtain ⟨_, q, vs, h1, h2, h3⟩ := olst_rel r1 e1 e2
    refine ⟨.ref q, h1, ?_⟩
    refine sim_bindS hk hn r1 p1 fun x ρ2 w F2 H2 s2 r2 g2 p2 => ?_
    split at p2
    · rename_i c k e3
      split at p2
      · exact p2.elim
      · rename_i l e4
        split at p2
        · exact p2.elim
        · rename_i j e5
          obtain ⟨oc, q', ws, k1, k2, k3⟩ := olst_rel r2 e3 e4
          have hq : q' = q := by
            rw [h1] at k1
            cases k1
            rfl
          subst hq
          cases g2
          refine ⟨q', ws, k, j, rfl, rfl, k2, by rw [k3.length]; exact e5, ?_⟩
          exact p2 σ F2 _ (Same.refl _) hn (r2.upd e3 oc k1 (.lst (k3.set j (g1.same s2))))
    · exact p2.elim
/-- d[k] = e -/
def putD {κ : Type} [DecidableEq κ] (l : List (κ × D)) (k : κ) (d : D) : List (κ × D) := if (l.any fun kv => decide (kv.1 = k)) = true then l.map (fun kv => if kv.1 = k then (kv.1, d) else kv) else l ++ [(k, d)]
theorem RepK.length {G : Cf} {F : Hp} : ∀ {vs : List (Key × V)} {ds : List (Key × D)}, RepK G F vs ds → vs.length = ds.length
  | _, _, .nil => rfl
  | _, _, .cons _ h => by rw [List.length_cons, List.length_cons, RepK.length h]
theorem RepK.any {G : Cf} {F : Hp} (k : Key) : ∀ {vs : List (Key × V)} {ds : List (Key × D)}, RepK G F vs ds → (vs.any fun kv => decide (kv.1 = k)) = ds.any fun kv => decide (kv.1 = k)
  | _, _, .nil => rfl
  | _, _, .cons _ h => by rw [List.any_cons, List.any_cons, RepK.any k h]
theorem RepK.append {G : Cf} {F : Hp} : ∀ {vs ws : List (Key × V)} {ds es : List (Key × D)}, RepK G F vs ds → RepK G F ws es → RepK G F (vs ++ ws) (ds ++ es)
  | _, _, _, _, .nil, h => h
  | _, _, _, _, .cons a h, k => .cons a (RepK.append h k)
theorem RepK.map {G : Cf} {F : Hp} {k : Key} {v : V} {d : D} (hv : Rep G F v d) : ∀ {vs : List (Key × V)} {ds : List (Key × D)}, RepK G F vs ds → RepK G F (vs.map fun kv => if kv.1 = k then (kv.1, v) else kv) (ds.map fun kv => if kv.1 = k then (kv.1, d) else kv)
  | _, _, .nil => .nil
  | _, _, .cons (k := k') (v := v') (d := d') a h => by
    rw [List.map_cons, List.map_cons]
    by_cases z : k' = k
    · simp only [z, if_true]
      exact .cons hv (RepK.map hv h)
    · simp only [z, if_false]
      exact .cons a (RepK.map hv h)
theorem RepK.put {G : Cf} {F : Hp} {k : Key} {v : V} {d : D} {vs : List (Key × V)} {ds : List (Key × D)} (h : RepK G F vs ds) (hv : Rep G F v d) : RepK G F (putK vs k v) (putD ds k d) := by
  unfold putK putD
  rw [h.any k]
  split
  · exact h.map hv
  · exact h.append (.cons hv .nil)
def mPut (i : Nat) (mk mv : Env → Out D) : Env → Out Fl := fun ρ => (mv ρ).bind fun d ρ1 => match ρ1[i]?.bind Cell.odk with
  | none => .no
  | some _ => (mk ρ1).bind fun x ρ2 => match ρ2[i]?, key x with
    | some c, some k => match c.odk with
      | none => .no
      | some l => if l.length < lim then .ok .nx (ρ2.set i (c.put (.dk (putD l k d)))) else .no
    | _, _ => .no
theorem sim_put {tv tk : TE} {mv mk : Env → Out D} {i : Nat} (hi : i < f.n) (hv : SimE f W tv mv) (hk : SimE f W tk mk) : SimS f W (sDPut (tVar i) tk tv) (mPut i mk mv) := by
  intro F H σ ρ E hn r p
  refine sim_bindS hv hn r p fun d ρ1 v F1 H1 s1 r1 g1 p1 => ?_
  split at p1
  · exact p1.elim
  · rename_i l0 e0
    obtain ⟨c0, e1, e2⟩ := Option.bind_eq_some_iff.mp e0
    obtain ⟨_, q, vs, h1, h2, h3⟩ := odk_rel r1 e1 e2
    refine ⟨.ref q, h1, ?_⟩
    refine sim_bindS hk hn r1 p1 fun x ρ2 w F2 H2 s2 r2 g2 p2 => ?_
    split at p2
    · rename_i c k e3 e6
      split at p2
      · exact p2.elim
      · rename_i l e4
        split at p2
        · rename_i hl
          obtain ⟨oc, q', ws, k1, k2, k3⟩ := odk_rel r2 e3 e4
          have hq : q' = q := by
            rw [h1] at k1
            cases k1
            rfl
          subst hq
          obtain rfl := rep_key (H := H2) (.inl g2) e6
          refine ⟨q', _, rfl, DPut.k k2 (sz_lt (by rw [k3.length]; exact hl)), ?_⟩
          exact p2 σ F2 _ (Same.refl _) hn (r2.upd e3 oc k1 (.dk (k3.put (g1.same s2))))
        · exact p2.elim
    · exact p2.elim
/-! ### loops -/
/-- what is walked: the items ds -/
def ItOk (G : Cf) (F : Hp) (J : It) (ds : List D) : Prop := ∀ i F1 H1, Same F F1 → Same F1 H1 →
  (∀ d, ds[i]? = some d → J.go i H1 ∧ ∀ x H2, J.yld i H1 x H2 → ∃ F2, Grow F1 H1 F2 H2 ∧ Rep G F2 x d) ∧ (ds.length ≤ i → J.stop i H1)
abbrev SimI (f : Fr) (W : WX) (t : TI) (m : Env → Out (List D)) : Prop := Sim f W (fun _ => ItOk f.G) t m
/-- a turn's end -/
def loopK (o : Out Fl) (k : Env → Out Fl) : Out Fl := match o with
  | .no => .no
  | .err x ρ => .err x ρ
  | .ok .nx ρ => k ρ
  | .ok .ct ρ => k ρ
  | .ok .bk ρ => .ok .nx ρ
  | .ok (.rt d) ρ => .ok (.rt d) ρ
def forL (mg : D → Env → Option Env) (mb : Env → Out Fl) : List D → Env → Out Fl
  | [], ρ => .ok .nx ρ
  | d :: ds, ρ => match mg d ρ with
    | none => .no
    | some ρ1 => loopK (mb ρ1) (forL mg mb ds)
def mFor (mi : Env → Out (List D)) (mg : D → Env → Option Env) (mb : Env → Out Fl) : Env → Out Fl := fun ρ => (mi ρ).bind (forL mg mb)
theorem sim_for {wi : TI} {g : TG} {tb : TS} {vs : List Nat} {mi : Env → Out (List D)} {mg : D → Env → Option Env} {mb : Env → Out Fl} (hi : SimI f W wi mi) (hg : SimG f vs g mg) (hb : SimS f W tb mb) : SimS f W (tFor wi g tb) (mFor mi mg mb) := by
  intro F H σ ρ E hn r p
  refine sim_bindS hi hn r p fun ds ρ1 J F1 H1 s1 r1 hJ p1 => ?_
  refine ⟨fun i m σ' H' => ∃ F' ρ', m = ds.length - i ∧ i ≤ ds.length ∧ Same F1 F' ∧ σ'.length = f.n ∧ Rel f F' H' σ' ρ' ∧ PostS f W F' E (forL mg mb (ds.drop i) ρ'), ⟨_, F1, ρ1, rfl, Nat.zero_le _, Same.refl _, hn, r1, by rw [List.drop_zero]; exact p1⟩, ?_⟩
  rintro i m σ2 H2 ⟨F2, ρ2, rfl, hi2, s2, n2, r2, p2⟩
  by_cases hlt : i < ds.length
  · right
    have hd : ds[i]? = some ds[i] := List.getElem?_eq_getElem hlt
    obtain ⟨go, yl⟩ := (hJ i F2 H2 s2 r2.fh).1 _ hd
    rw [List.drop_eq_getElem_cons hlt, forL] at p2
    cases e1 : mg ds[i] ρ2 with
    | none => rw [e1] at p2; exact p2.elim
    | some ρ3 =>
      rw [e1] at p2
      have p2 : PostS f W F2 E (loopK (mb ρ3) (forL mg mb (ds.drop (i + 1)))) := p2
      refine ⟨go, fun σ' H' => ∃ F' ρ', Same F1 F' ∧ σ'.length = f.n ∧ Rel f F' H' σ' ρ' ∧ PostS f W F' E (forL mg mb (ds.drop (i + 1)) ρ'), fun σ' H' ⟨F', ρ', a1, a2, a3, a4⟩ => ⟨ds.length - (i + 1), by omega, F', ρ', rfl, hlt, a1, a2, a3, a4⟩, fun x H3 hy => ?_⟩
      obtain ⟨F3, g3, h3⟩ := yl x H3 hy
      refine hg F3 H3 σ2 [] ρ2 x _ ρ3 _ n2 (by rw [List.append_nil]; exact r2.grow g3) h3 e1 fun σ4 n4 _ r4 => ?_
      rw [List.append_nil] at r4
      refine hb F3 H3 σ4 ρ3 _ n4 r4 ?_
      have s3 : Same F1 F3 := s2.trans g3.ff
      match h : mb ρ3 with
      | .no => rw [h] at p2; exact p2.elim
      | .err x ρ4 => rw [h] at p2; exact PostS.weak g3.ff p2
      | .ok .nx ρ4 =>
        rw [h] at p2
        exact fun σ5 F5 H5 s5 n5 r5 => ⟨F5, ρ4, s3.trans s5, n5, r5, PostS.weak (g3.ff.trans s5) p2⟩
      | .ok .ct ρ4 =>
        rw [h] at p2
        exact fun σ5 F5 H5 s5 n5 r5 => ⟨F5, ρ4, s3.trans s5, n5, r5, PostS.weak (g3.ff.trans s5) p2⟩
      | .ok .bk ρ4 =>
        rw [h] at p2
        exact PostS.weak g3.ff p2
      | .ok (.rt d) ρ4 =>
        rw [h] at p2
        exact PostS.weak g3.ff p2
  · left
    have e : i = ds.length := by omega
    subst e
    rw [List.drop_length, forL] at p2
    exact ⟨(hJ _ F2 H2 s2 r2.fh).2 (Nat.le_refl _), p2 σ2 F2 H2 (Same.refl _) n2 r2⟩
def whileL (mc : Env → Out Bool) (mb : Env → Out Fl) : Nat → Env → Out Fl
  | 0, _ => .no
  | n + 1, ρ => (mc ρ).bind fun b ρ1 => if b = true then loopK (mb ρ1) (whileL mc mb n) else .ok .nx ρ1
theorem sim_while {c : TT} {tb : TS} {mc : Env → Out Bool} {mb : Env → Out Fl} (n : Nat) (hc : SimT f W c mc) (hb : SimS f W tb mb) : SimS f W (tWhile c tb) (whileL mc mb n) := by
  intro F H σ ρ E hn r p
  refine ⟨fun m σ' H' => ∃ F' ρ', Same F F' ∧ σ'.length = f.n ∧ Rel f F' H' σ' ρ' ∧ PostS f W F' E (whileL mc mb m ρ'), ⟨n, F, ρ, Same.refl _, hn, r, p⟩, ?_⟩
  rintro m σ2 H2 ⟨F2, ρ2, s2, n2, r2, p2⟩
  cases m with
  | zero => exact p2.elim
  | succ m =>
    rw [whileL] at p2
    refine sim_bindS hc n2 r2 p2 fun x ρ3 v F3 H3 s3 r3 h3 p3 => ?_
    subst h3
    cases v with
    | false =>
      rw [if_neg (by decide)] at p3
      exact iteF (p3 σ2 F3 H3 (Same.refl _) n2 r3)
    | true =>
      rw [if_pos rfl] at p3
      refine iteT ⟨fun σ' H' => ∃ F' ρ', Same F F' ∧ σ'.length = f.n ∧ Rel f F' H' σ' ρ' ∧ PostS f W F' E (whileL mc mb m ρ'), fun σ' H' h => ⟨m, Nat.lt_succ_self m, h⟩, ?_⟩
      refine hb F3 H3 σ2 ρ3 _ n2 r3 ?_
      match h : mb ρ3 with
      | .no => rw [h] at p3; exact p3.elim
      | .err x ρ4 => rw [h] at p3; exact p3
      | .ok .nx ρ4 =>
        rw [h] at p3
        exact fun σ5 F5 H5 s5 n5 r5 => ⟨F5, ρ4, (s2.trans s3).trans s5, n5, r5, PostS.weak s5 p3⟩
      | .ok .ct ρ4 =>
        rw [h] at p3
        exact fun σ5 F5 H5 s5 n5 r5 => ⟨F5, ρ4, (s2.trans s3).trans s5, n5, r5, PostS.weak s5 p3⟩
      | .ok .bk ρ4 =>
        rw [h] at p3
        exact p3
      | .ok (.rt d) ρ4 =>
        rw [h] at p3
        exact p3
/-! ### what is walked -/
def iAny (K : PySem.W.Frag) (t : TE) : TI := fun σ H R => t σ H fun x H1 => (∃ a, x = .ref a ∧ (∃ xs, SqL K H1 a xs) ∧ R (Itl K a) H1) ∨ ((∃ a, x = .ref a ∧ (∃ xs, SqT K H1 a xs) ∧ R (Itt K a) H1) ∨ ∃ z, x = .str z ∧ R (Its z) H1)
theorem sq_eq {G : Cf} {F : Hp} {H1 : Hp} {K : PySem.W.Frag} {a : Addr} {xs : List V} (h : F a = some (.lst xs)) (s : Same F H1) : SqL K H1 a xs := SqL.of (s _ _ h)
def strL (z : Str) : List D := z.cps.toList.map fun c => .str ⟨#[c]⟩
def iterD : D → Option (List D)
  | .lst l => some l
  | .tup l => some l
  | .str z => some (strL z)
  | _ => none
def rangeD (lo hi : Int) : List D := (List.range (hi - lo).toNat).map fun i => .int (lo + (i : Nat))
theorem itOk_range {G : Cf} {F : Hp} {lo : Int} {n : Nat} : ItOk G F (Itr lo n) ((List.range n).map fun i => .int (lo + (i : Nat))) := by
  intro i F1 H1 s1 s2
  refine ⟨fun d hd => ?_, fun h => ?_⟩
  · rw [List.getElem?_map] at hd
    obtain ⟨k, hk, rfl⟩ := Option.map_eq_some_iff.mp hd
    obtain ⟨h1, h2⟩ := List.getElem?_eq_some_iff.mp hk
    rw [List.getElem_range] at h2
    rw [List.length_range] at h1
    subst h2
    exact ⟨h1, fun x H2 hy => by
      obtain ⟨rfl, rfl⟩ := hy
      exact ⟨F1, Grow.refl s2, .int _⟩⟩
  · rw [List.length_map, List.length_range] at h
    exact h
end
end Mi
set_option Elab.async false
set_option linter.all false
set_option maxRecDepth 100000
set_option maxHeartbeats 4000000
namespace Mi
open PySem PySem.Spec PyProof.Rows L2 Wk
section
variable {f : Fr} {W : WX}
/-! ### what is walked: a list, a tuple, a text -/
def iU (K : PySem.W.Frag) (t : TE) : TI := fun σ H R => iList K t σ H R ∨ (iTup K t σ H R ∨ iStr t σ H R)
theorem pi_u {X : Cx} {K : PySem.W.Frag} {tg e : Expr} {t : TE} (hK : X.K = K) (he : PE X e t) : PI X tg e (iU K t) := by
  subst hK
  refine ⟨fun pins s σ H R I h => ?_⟩
  rcases h with h | h | h
  · exact (pi_list he).run pins s σ H R I h
  · exact (pi_tup he).run pins s σ H R I h
  · exact (pi_str he).run pins s σ H R I h
def walkD : D → Option (List D)
  | .lst l => some l
  | .fl l => some l
  | .tup l => some l
  | .ft l => some l
  | .str z => some (strL z)
  | _ => none
def mIter (m : Env → Out D) : Env → Out (List D) := fun ρ => (m ρ).bind fun d ρ1 => lift (walkD d) ρ1
theorem itOk_list {G : Cf} {F : Hp} {a : Addr} {vs : List V} {ds : List D} (h : SqL G.K F a vs) (hr : Reps G F vs ds) : ItOk G F (Itl G.K a) ds := by
  intro i F1 H1 s1 s2
  have hs : SqL G.K H1 a vs := (s1.trans s2).seq h
  refine ⟨fun d hd => ?_, fun hl => ⟨vs, hs, by rw [hr.length]; exact hl⟩⟩
  obtain ⟨v, h1, h2⟩ := hr.get hd
  refine ⟨⟨vs, v, hs, h1⟩, fun x H2 hy => ?_⟩
  obtain ⟨rfl, hy⟩ := hy
  have := hy vs hs
  rw [h1] at this
  cases this
  exact ⟨F1, Grow.refl s2, h2.same s1⟩
theorem itOk_tup {G : Cf} {F : Hp} {a : Addr} {vs : List V} {ds : List D} (h : SqT G.K F a vs) (hr : Reps G F vs ds) : ItOk G F (Itt G.K a) ds := by
  intro i F1 H1 s1 s2
  have hs : SqT G.K H1 a vs := same_seqT (s1.trans s2) h
  refine ⟨fun d hd => ?_, fun hl => ⟨vs, hs, by rw [hr.length]; exact hl⟩⟩
  obtain ⟨v, h1, h2⟩ := hr.get hd
  refine ⟨⟨vs, v, hs, h1⟩, fun x H2 hy => ?_⟩
  obtain ⟨rfl, hy⟩ := hy
  have := hy vs hs
  rw [h1] at this
  cases this
  exact ⟨F1, Grow.refl s2, h2.same s1⟩
theorem itOk_str {G : Cf} {F : Hp} {z : Str} : ItOk G F (Its z) (strL z) := by
  intro i F1 H1 s1 s2
  refine ⟨fun d hd => ?_, fun hl => ?_⟩
  · unfold strL at hd
    rw [List.getElem?_map] at hd
    obtain ⟨c, hc, rfl⟩ := Option.map_eq_some_iff.mp hd
    have hc' : z.cps[i]? = some c := by rw [← Array.getElem?_toList]; exact hc
    refine ⟨(Array.getElem?_eq_some_iff.mp hc').1, fun x H2 hy => ?_⟩
    obtain ⟨rfl, c', h1, rfl⟩ := hy
    rw [hc'] at h1
    cases h1
    exact ⟨F1, Grow.refl s2, .str _⟩
  · unfold strL at hl
    rw [List.length_map, Array.length_toList] at hl
    exact hl
theorem sim_iU {t : TE} {m : Env → Out D} (h : SimE f W t m) : SimI f W (iU f.G.K t) (mIter m) := by
  intro F H σ τ ρ Q hn r p
  unfold mIter at p
  have go : ∀ {c : V → Hp → Prop}, (∀ d ρ1, m ρ = .ok d ρ1 → ∀ v F1 H1, Same F F1 → Rel f F1 H1 (σ ++ τ) ρ1 → Rep f.G F1 v d → PostE f W F1 σ τ (fun _ => ItOk f.G) Q (lift (walkD d) ρ1) → c v H1) → t σ H c := fun {c} hk => by
    refine h F H σ τ ρ c hn r ?_
    cases e : m ρ with
    | no => rw [e] at p; exact p
    | err x ρ1 => rw [e] at p; exact p
    | ok d ρ1 =>
      rw [e] at p
      exact fun v F1 H1 s1 r1 h1 => hk d ρ1 e v F1 H1 s1 r1 h1 (PostE.weak s1 p)
  cases e : m ρ with
  | no => rw [e] at p; exact p.elim
  | err x ρ1 => exact .inl (go fun d ρ2 e2 => by rw [e] at e2; cases e2)
  | ok d ρ1 =>
    cases d with
    | lst l =>
      refine .inl (go fun d ρ2 e2 v F1 H1 s1 r1 h1 p1 => ?_)
      rw [e] at e2
      cases e2
      cases h1 with
      | lst g1 g2 => exact ⟨_, rfl, ⟨_, SqL.of (r1.fh _ _ g1)⟩, p1 _ F1 H1 (Same.refl _) r1 (itOk_list (SqL.of g1) g2)⟩
    | fl l =>
      refine .inl (go fun d ρ2 e2 v F1 H1 s1 r1 h1 p1 => ?_)
      rw [e] at e2
      cases e2
      cases h1 with
      | fl g1 g2 => exact ⟨_, rfl, ⟨_, r1.fh.seq g1⟩, p1 _ F1 H1 (Same.refl _) r1 (itOk_list g1 g2)⟩
    | tup l =>
      refine .inr (.inl (go fun d ρ2 e2 v F1 H1 s1 r1 h1 p1 => ?_))
      rw [e] at e2
      cases e2
      cases h1 with
      | tup g0 g1 g2 => exact ⟨_, rfl, ⟨_, same_seqT r1.fh (tup_sq g1)⟩, p1 _ F1 H1 (Same.refl _) r1 (itOk_tup (tup_sq g1) g2)⟩
    | ft l =>
      refine .inr (.inl (go fun d ρ2 e2 v F1 H1 s1 r1 h1 p1 => ?_))
      rw [e] at e2
      cases e2
      cases h1 with
      | ft g1 g2 => exact ⟨_, rfl, ⟨_, same_seqT r1.fh g1⟩, p1 _ F1 H1 (Same.refl _) r1 (itOk_tup g1 g2)⟩
    | str z =>
      refine .inr (.inr (go fun d ρ2 e2 v F1 H1 s1 r1 h1 p1 => ?_))
      rw [e] at e2
      cases e2
      cases h1
      exact ⟨_, rfl, p1 _ F1 H1 (Same.refl _) r1 itOk_str⟩
    | _ => rw [e] at p; exact p.elim
def rngD (lo : Int) (n : Nat) : List D := (List.range n).map fun i => .int (lo + (i : Nat))
def mRange1 (m : Env → Out D) : Env → Out (List D) := fun ρ => (m ρ).bind fun d ρ1 => match d with
  | .int j => if -(2 ^ 62) ≤ j ∧ j < 2 ^ 62 then .ok (rngD 0 j.toNat) ρ1 else .no
  | _ => .no
theorem sim_range1 {t : TE} {m : Env → Out D} (h : SimE f W t m) : SimI f W (iRng1 (tCons t tNil)) (mRange1 m) := by
  intro F H σ τ ρ Q hn r p
  refine sim_bind h hn r p fun d ρ1 v F1 H1 s1 r1 h1 p1 => ?_
  cases d with
  | int j =>
    cases h1
    have p1 : PostE f W F1 σ τ (fun _ => ItOk f.G) Q (if -(2 ^ 62) ≤ j ∧ j < 2 ^ 62 then .ok (rngD 0 j.toNat) ρ1 else .no) := p1
    split at p1
    · rename_i hj
      exact ⟨j, rfl, hj.1, hj.2, p1 _ F1 H1 (Same.refl _) r1 itOk_range⟩
    · exact p1.elim
  | _ => exact p1.elim
def mRange2 (m m2 : Env → Out D) : Env → Out (List D) := fun ρ => (m ρ).bind fun d ρ1 => (m2 ρ1).bind fun e ρ2 => match d, e with
  | .int i, .int j => if (-(2 ^ 62) ≤ i ∧ i < 2 ^ 62) ∧ (-(2 ^ 62) ≤ j ∧ j < 2 ^ 62) then .ok (rngD i (j - i).toNat) ρ2 else .no
  | _, _ => .no
theorem sim_range2 {t t2 : TE} {m m2 : Env → Out D} (h : SimE f W t m) (h2 : SimE f W t2 m2) : SimI f W (iRng2 (tCons t (tCons t2 tNil))) (mRange2 m m2) := by
  intro F H σ τ ρ Q hn r p
  refine sim_bind h hn r p fun d ρ1 v F1 H1 s1 r1 g1 p1 => ?_
  refine sim_bind h2 hn r1 p1 fun e ρ2 w F2 H2 s2 r2 g2 p2 => ?_
  split at p2
  · rename_i i j
    cases g1
    cases g2
    split at p2
    · rename_i hj
      exact ⟨i, j, rfl, ⟨hj.1.1, hj.1.2, hj.2.1, hj.2.2⟩, p2 _ F2 H2 (Same.refl _) r2 itOk_range⟩
    · exact p2.elim
  · exact p2.elim
/-! ### comprehensions -/
def W0 : WX := fun _ _ _ _ => False
def hide (ρ : Env) : List Nat → Env
  | [] => ρ
  | v :: vs => (hide ρ vs).set v .no
theorem Rel.kill {F H : Hp} {σ : L2.St} {ρ : Env} (i : Nat) (x : Option V) (r : Rel f F H σ ρ) : Rel f F H (σ.set i x) (ρ.set i .no) := by
  have get : ∀ {j : Nat} {c : Cell}, (ρ.set i .no)[j]? = some c → c = .no ∨ (j ≠ i ∧ ρ[j]? = some c) := fun {j c} e => by
    by_cases z : j = i
    · subst z
      have hl := (List.getElem?_eq_some_iff.mp e).1
      rw [List.length_set] at hl
      rw [List.getElem?_set_self hl] at e
      cases e
      exact .inl rfl
    · rw [List.getElem?_set_ne (Ne.symm z)] at e
      exact .inr ⟨z, e⟩
  refine ⟨r.fh, r.f0, r.out, by rw [List.length_set, List.length_set]; exact r.len, fun j c e => ?_, fun j k c c' p e1 e2 o1 o2 e3 e4 => ?_⟩
  · rcases get e with rfl | ⟨z, e⟩
    · trivial
    · rw [List.getElem?_set_ne (Ne.symm z)]
      exact r.cell j c e
  · rcases get e1 with rfl | ⟨z1, e1⟩
    · cases o1
    · rcases get e2 with rfl | ⟨z2, e2⟩
      · cases o2
      · rw [List.getElem?_set_ne (Ne.symm z1)] at e3
        rw [List.getElem?_set_ne (Ne.symm z2)] at e4
        exact r.sep j k c c' p e1 e2 o1 o2 e3 e4
theorem Rel.hide {F H : Hp} {σ τ : L2.St} {ρ : Env} (r : Rel f F H (σ ++ τ) ρ) : ∀ vs : List Nat, (∀ v ∈ vs, v < σ.length) → Rel f F H (wipe σ vs ++ τ) (hide ρ vs)
  | [], _ => r
  | v :: vs, h => by
    have ih := Rel.hide r vs fun u hu => h u (List.mem_cons_of_mem _ hu)
    unfold wipe Mi.hide
    rw [← set_app (by rw [wipe_length]; exact h v (by simp))]
    exact ih.kill v none
def plainAt (ρ : Env) (vs : List Nat) : Bool := vs.all fun v => match ρ[v]? with
  | some .no => true
  | some (.val _) => true
  | _ => false
def resto (ρ0 ρ : Env) : List Nat → Env
  | [] => ρ
  | v :: vs => match ρ0[v]? with
    | some c => (resto ρ0 ρ vs).set v c
    | none => resto ρ0 ρ vs
theorem resto_length {ρ0 ρ : Env} : ∀ vs : List Nat, (resto ρ0 ρ vs).length = ρ.length
  | [] => rfl
  | v :: vs => by
    unfold resto
    split
    · rw [List.length_set, resto_length vs]
    · exact resto_length vs
theorem resto_app {ρ0 ρ x : Env} : ∀ vs : List Nat, (∀ v ∈ vs, v < ρ.length) → resto ρ0 (ρ ++ x) vs = resto ρ0 ρ vs ++ x
  | [], _ => rfl
  | v :: vs, h => by
    have ih := resto_app (ρ0 := ρ0) (x := x) vs fun u hu => h u (List.mem_cons_of_mem _ hu)
    unfold resto
    split
    · rw [ih, List.set_append_left _ _ (by rw [resto_length]; exact h v (by simp))]
    · exact ih
theorem resto_get {ρ0 ρ : Env} {j : Nat} {c : Cell} : ∀ {vs : List Nat}, (∀ v ∈ vs, v < ρ0.length) → (resto ρ0 ρ vs)[j]? = some c → (j ∈ vs ∧ ρ0[j]? = some c) ∨ (j ∉ vs ∧ ρ[j]? = some c)
  | [], _, e => .inr ⟨by simp, e⟩
  | v :: vs, h, e => by
    unfold resto at e
    have hv := h v (by simp)
    rw [List.getElem?_eq_getElem hv] at e
    by_cases z : j = v
    · subst z
      have hl := (List.getElem?_eq_some_iff.mp e).1
      have hl' : j < (resto ρ0 ρ vs).length := by rw [List.length_set] at hl; exact hl
      have e' : ((resto ρ0 ρ vs).set j ρ0[j])[j]? = some c := e
      rw [List.getElem?_set_self hl'] at e'
      exact .inl ⟨by simp, by rw [List.getElem?_eq_getElem hv]; exact e'⟩
    · have e' : ((resto ρ0 ρ vs).set v ρ0[v])[j]? = some c := e
      rw [List.getElem?_set_ne (Ne.symm z)] at e'
      rcases resto_get (fun u hu => h u (List.mem_cons_of_mem _ hu)) e' with ⟨h1, h2⟩ | ⟨h1, h2⟩
      · exact .inl ⟨List.mem_cons_of_mem _ h1, h2⟩
      · exact .inr ⟨by simp [z, h1], h2⟩
theorem Rel.resto {F F1 H H1 : Hp} {σ σ2 τ τ2 : L2.St} {ρ0 ρ1 : Env} {vs : List Nat} (r0 : Rel f F H (σ ++ τ) ρ0) (r1 : Rel f F1 H1 (σ2 ++ τ2) ρ1) (s : Same F F1) (hl : σ2.length = σ.length) (hw : wipe σ2 vs = wipe σ vs) (hv : ∀ v ∈ vs, v < σ.length) (hp : plainAt ρ0 vs = true) :
    Rel f F1 H1 (σ ++ τ2) (resto ρ0 ρ1 vs) := by
  have hv0 : ∀ v ∈ vs, v < ρ0.length := fun v h => by
    have h1 := hv v h
    have h2 := r0.len
    rw [List.length_append] at h2
    omega
  have out : ∀ {j : Nat}, j ∉ vs → (σ ++ τ2)[j]? = (σ2 ++ τ2)[j]? := fun {j} h => by
    by_cases z : j < σ.length
    · rw [List.getElem?_append_left z, List.getElem?_append_left (by omega), ← wipe_out h, ← hw, wipe_out h]
    · rw [List.getElem?_append_right (by omega), List.getElem?_append_right (by omega), hl]
  have plain : ∀ {j : Nat} {c : Cell}, j ∈ vs → ρ0[j]? = some c → c = .no ∨ ∃ d, c = .val d := fun {j c} h e => by
    have h1 := List.all_eq_true.mp hp j h
    rw [e] at h1
    cases c with
    | no => exact .inl rfl
    | pin => cases h1
    | val d => exact .inr ⟨d, rfl⟩
    | own o => cases h1
    | par o => cases h1
  refine ⟨r1.fh, r1.f0, r1.out, ?_, fun j c e => ?_, fun j k c c' p e1 e2 o1 o2 e3 e4 => ?_⟩
  · rw [resto_length, ← r1.len, List.length_append, List.length_append, hl]
  · rcases resto_get hv0 e with ⟨h1, h2⟩ | ⟨h1, h2⟩
    · rcases plain h1 h2 with rfl | ⟨d, rfl⟩
      · trivial
      · obtain ⟨v, g1, g2⟩ := r0.cell j _ h2
        have hj := hv j h1
        rw [List.getElem?_append_left hj] at g1
        exact ⟨v, by rw [List.getElem?_append_left hj]; exact g1, g2.same s⟩
    · rw [out h1]
      exact r1.cell j c h2
  · have src : ∀ {l : Nat} {c : Cell}, (Mi.resto ρ0 ρ1 vs)[l]? = some c → c.owned = true → l ∉ vs ∧ ρ1[l]? = some c := fun {l c} h1 h2 => by
      rcases resto_get hv0 h1 with ⟨g1, g2⟩ | ⟨g1, g2⟩
      · rcases plain g1 g2 with rfl | ⟨d, rfl⟩ <;> cases h2
      · exact ⟨g1, g2⟩
    obtain ⟨n1, e1⟩ := src e1 o1
    obtain ⟨n2, e2⟩ := src e2 o2
    rw [out n1] at e3
    rw [out n2] at e4
    exact r1.sep j k c c' p e1 e2 o1 o2 e3 e4
theorem wipe_wipe {σ : L2.St} : ∀ vs : List Nat, wipe (wipe σ vs) vs = wipe σ vs := by
  have key : ∀ (ws vs : List Nat), (∀ w ∈ ws, w ∈ vs) → wipe (wipe σ vs) ws = wipe σ vs := fun ws vs => by
    induction ws with
    | nil => intro _; rfl
    | cons w ws ih =>
      intro h
      have e : wipe (wipe σ vs) (w :: ws) = (wipe (wipe σ vs) ws).set w none := rfl
      rw [e, ih fun u hu => h u (List.mem_cons_of_mem _ hu)]
      have hw := h w (by simp)
      clear ih h e
      induction vs with
      | nil => cases hw
      | cons v vs ih =>
        unfold wipe
        by_cases z : w = v
        · subst z
          rw [List.set_set]
        · rcases List.mem_cons.mp hw with y | y
          · exact absurd y z
          · rw [List.set_comm _ _ (Ne.symm z), ih y]
  exact fun vs => key vs vs fun _ h => h
def lcL (L : Nat) (vs : List Nat) (mg : D → Env → Option Env) (mt : Env → Out Bool) (me : Env → Out D) : List D → Env → Out Unit
  | [], ρ => .ok () ρ
  | d :: ds, ρ => match mg d (hide ρ vs) with
    | none => .no
    | some ρ1 => match mt ρ1 with
      | .ok true ρ2 => (match me ρ2 with
        | .ok y ρ3 => (match ρ3[L]? with
          | some (.own (.lst acc)) => if acc.length < lim then lcL L vs mg mt me ds (ρ3.set L (.own (.lst (acc ++ [y])))) else .no
          | _ => .no)
        | _ => .no)
      | .ok false ρ2 => lcL L vs mg mt me ds ρ2
      | _ => .no
def lcEnd (L : Nat) (vs : List Nat) (ρ0 : Env) : Out Unit → Out OD
  | .ok _ ρ2 => match ρ2[L]? with
    | some (.own o) => .ok o (resto ρ0 (ρ2.take L) vs)
    | _ => .no
  | _ => .no
def fLc (vs : List Nat) (mi : Env → Out (List D)) (mg : D → Env → Option Env) (mt : Env → Out Bool) (me : Env → Out D) : Env → Out OD := fun ρ => (mi ρ).bind fun ds ρ1 =>
  if plainAt ρ1 vs then lcEnd ρ1.length vs ρ1 (lcL ρ1.length vs mg mt me ds (ρ1 ++ [.own (.lst [])])) else .no
theorem sim_fLc {wi : TI} {g : TG} {tt : TT} {te : TE} {vs : List Nat} {mi : Env → Out (List D)} {mg : D → Env → Option Env} {mt : Env → Out Bool} {me : Env → Out D} (hvb : (vs.all fun v => Nat.blt v f.n) = true) (hi : SimI f W wi mi) (hg : SimG f vs g mg) (ht : SimT f W0 tt mt) (he : SimE f W0 te me) :
    SimF f W (tLc wi g tt te vs) (fLc vs mi mg mt me) := by
  intro F H σ τ ρ Q hn r p
  have hv : ∀ v ∈ vs, v < f.n := fun v h => Nat.le_of_ble_eq_true (List.all_eq_true.mp hvb v h)
  refine sim_bindF hi hn r p fun ds ρ1 J F1 H1 s1 r1 hJ p1 => ?_
  split at p1
  · rename_i hp
    intro D hD
    have hvσ : ∀ v ∈ vs, v < σ.length := fun v h => by rw [hn]; exact hv v h
    have hL : (σ ++ τ).length = ρ1.length := r1.len
    refine ⟨fun i m H' => ∃ F' ρ' σ', m = ds.length - i ∧ i ≤ ds.length ∧ Same F1 F' ∧ σ'.length = f.n ∧ wipe σ' vs = wipe σ vs ∧ Rel f F' H' (σ' ++ (τ ++ [some (.ref D)])) ρ' ∧ PostF f W F' σ τ Q (lcEnd ρ1.length vs ρ1 (lcL ρ1.length vs mg mt me (ds.drop i) ρ')),
      ⟨_, F1, ρ1 ++ [.own (.lst [])], σ, rfl, Nat.zero_le _, Same.refl _, hn, rfl, ?_, by rw [List.drop_zero]; exact p1⟩, ?_⟩
    · rw [← List.append_assoc]
      exact r1.push hD (.lst .nil)
    rintro i m H2 ⟨F2, ρ2, σ2, rfl, hi2, s2, n2, w2, r2, p2⟩
    have len2 : ρ2.length = ρ1.length + 1 := by
      have h1 := r2.len
      rw [List.length_append, List.length_append] at h1
      rw [List.length_append] at hL
      simp at h1
      omega
    have atL : ∀ σ' : L2.St, σ'.length = f.n → (σ' ++ (τ ++ [some (.ref D)]))[ρ1.length]? = some (some (.ref D)) := fun σ' h => by
      rw [← List.append_assoc]
      have h1 : ρ1.length = (σ' ++ τ).length := by rw [← hL, List.length_append, List.length_append, hn, h]
      rw [h1]
      exact List.getElem?_concat_length
    by_cases hlt : i < ds.length
    · right
      have hd : ds[i]? = some ds[i] := List.getElem?_eq_getElem hlt
      obtain ⟨go, yl⟩ := (hJ i F2 H2 s2 r2.fh).1 _ hd
      rw [List.drop_eq_getElem_cons hlt, lcL] at p2
      cases e1 : mg ds[i] (hide ρ2 vs) with
      | none => rw [e1] at p2; exact p2.elim
      | some ρ3 =>
        rw [e1] at p2
        refine ⟨go, fun H' => ∃ F' ρ' σ', Same F1 F' ∧ σ'.length = f.n ∧ wipe σ' vs = wipe σ vs ∧ Rel f F' H' (σ' ++ (τ ++ [some (.ref D)])) ρ' ∧ PostF f W F' σ τ Q (lcEnd ρ1.length vs ρ1 (lcL ρ1.length vs mg mt me (ds.drop (i + 1)) ρ')), fun H' ⟨F', ρ', σ', a1, a2, a3, a4, a5⟩ => ⟨ds.length - (i + 1), by omega, F', ρ', σ', rfl, hlt, a1, a2, a3, a4, a5⟩, fun x H3 hy => ?_⟩
        obtain ⟨F3, g3, h3⟩ := yl x H3 hy
        have rh := (r2.hide vs (fun v h => by rw [n2]; exact hv v h)).grow g3
        rw [w2] at rh
        refine hg F3 H3 (wipe σ vs) _ (hide ρ2 vs) x _ ρ3 _ (by rw [wipe_length]; exact hn) rh h3 e1 fun σ4 n4 w4 r4 => ?_
        rw [wipe_wipe] at w4
        refine ⟨w4, ?_⟩
        have p3 : PostF f W F3 σ τ Q (lcEnd ρ1.length vs ρ1 (match mt ρ3 with
          | .ok true ρ2 => (match me ρ2 with
            | .ok y ρ3 => (match ρ3[ρ1.length]? with
              | some (.own (.lst acc)) => if acc.length < lim then lcL ρ1.length vs mg mt me (ds.drop (i + 1)) (ρ3.set ρ1.length (.own (.lst (acc ++ [y])))) else .no
              | _ => .no)
            | _ => .no)
          | .ok false ρ2 => lcL ρ1.length vs mg mt me (ds.drop (i + 1)) ρ2
          | _ => .no)) := PostF.weak g3.ff p2
        refine ht F3 H3 σ4 _ ρ3 _ n4 r4 ?_
        match e2 : mt ρ3 with
        | .no => rw [e2] at p3; exact p3.elim
        | .err x ρ4 => rw [e2] at p3; exact p3.elim
        | .ok false ρ4 =>
          rw [e2] at p3
          intro b F5 H5 s5 r5 hb
          subst hb
          exact iteF ⟨F5, ρ4, σ4, (s2.trans g3.ff).trans s5, n4, w4, r5, PostF.weak s5 p3⟩
        | .ok true ρ4 =>
          rw [e2] at p3
          intro b F5 H5 s5 r5 hb
          subst hb
          refine iteT (he F5 H5 σ4 _ ρ4 _ n4 r5 ?_)
          match e3 : me ρ4 with
          | .no =>
            have p4 : PostF f W F3 σ τ Q (lcEnd ρ1.length vs ρ1 (match me ρ4 with
              | .ok y ρ3 => (match ρ3[ρ1.length]? with
                | some (.own (.lst acc)) => if acc.length < lim then lcL ρ1.length vs mg mt me (ds.drop (i + 1)) (ρ3.set ρ1.length (.own (.lst (acc ++ [y])))) else .no
                | _ => .no)
              | _ => .no)) := p3
            rw [e3] at p4; exact p4.elim
          | .err x ρ5 =>
            have p4 : PostF f W F3 σ τ Q (lcEnd ρ1.length vs ρ1 (match me ρ4 with
              | .ok y ρ3 => (match ρ3[ρ1.length]? with
                | some (.own (.lst acc)) => if acc.length < lim then lcL ρ1.length vs mg mt me (ds.drop (i + 1)) (ρ3.set ρ1.length (.own (.lst (acc ++ [y])))) else .no
                | _ => .no)
              | _ => .no)) := p3
            rw [e3] at p4; exact p4.elim
          | .ok y ρ5 =>
            have p4 : PostF f W F3 σ τ Q (lcEnd ρ1.length vs ρ1 (match me ρ4 with
              | .ok y ρ3 => (match ρ3[ρ1.length]? with
                | some (.own (.lst acc)) => if acc.length < lim then lcL ρ1.length vs mg mt me (ds.drop (i + 1)) (ρ3.set ρ1.length (.own (.lst (acc ++ [y])))) else .no
                | _ => .no)
              | _ => .no)) := p3
            rw [e3] at p4
            intro v F6 H6 s6 r6 h6
            have p5 : PostF f W F3 σ τ Q (lcEnd ρ1.length vs ρ1 (match ρ5[ρ1.length]? with
                | some (.own (.lst acc)) => if acc.length < lim then lcL ρ1.length vs mg mt me (ds.drop (i + 1)) (ρ5.set ρ1.length (.own (.lst (acc ++ [y])))) else .no
                | _ => .no)) := p4
            split at p5
            · rename_i acc e4
              split at p5
              · rename_i hl
                obtain ⟨oc, q, ws, k1, k2, k3⟩ := olst_rel r6 e4 rfl
                have hq : q = D := by
                  rw [atL σ4 n4] at k1
                  cases k1
                  rfl
                subst hq
                exact ⟨ws, k2, sz_lt (by rw [k3.length]; exact hl), F6, _, σ4, ((s2.trans g3.ff).trans s5).trans s6, n4, w4, r6.upd e4 oc k1 (.lst (k3.append (.cons h6 .nil))), PostF.weak (s5.trans s6) p5⟩
              · exact p5.elim
            · exact p5.elim
    · left
      have e : i = ds.length := by omega
      subst e
      rw [List.drop_length, lcL] at p2
      refine ⟨(hJ _ F2 H2 s2 r2.fh).2 (Nat.le_refl _), ?_⟩
      have p3 : PostF f W F2 σ τ Q (match ρ2[ρ1.length]? with
        | some (.own o) => .ok o (resto ρ1 (ρ2.take ρ1.length) vs)
        | _ => .no) := p2
      split at p3
      · rename_i o e4
        refine p3 D F2 H2 (Same.refl _) ?_
        have rr := Rel.resto r1 r2 s2 (n2.trans hn.symm) w2 hvσ hp
        have e5 : ρ2 = ρ2.take ρ1.length ++ [.own o] := by
          obtain ⟨h1, h2⟩ := List.getElem?_eq_some_iff.mp e4
          have h3 : ρ2 = ρ2.take ρ1.length ++ ρ2.drop ρ1.length := (List.take_append_drop _ _).symm
          have h4 : ρ2.drop ρ1.length = [.own o] := by
            rw [List.drop_eq_getElem_cons h1, h2, List.drop_of_length_le (by omega)]
          rw [h4] at h3
          exact h3
        rw [e5, resto_app vs (fun v h => by
          have h1 := hvσ v h
          rw [List.length_take]
          rw [List.length_append] at hL
          omega)] at rr
        rw [List.append_assoc]
        exact rr
      · exact p3.elim
  · exact p1.elim
def mYes : Env → Out Bool := fun ρ => .ok true ρ
theorem sim_yes : SimT f W tYes mYes := fun F H σ τ ρ Q hn r p => p true F H (Same.refl F) r rfl
end
end Mi
set_option Elab.async false
set_option linter.all false
set_option maxRecDepth 100000
set_option maxHeartbeats 4000000
namespace Mi
open PySem PySem.Spec PyProof.Rows L2 Wk
/-! ### a def's promise by its mirror -/
abbrev Fn := List Cell → Out D
def pars : List V → List Cell → List Addr
  | .ref p :: vs, .par _ :: cs => p :: pars vs cs
  | _ :: vs, _ :: cs => pars vs cs
  | _, _ => []
theorem mem_pars : ∀ {vs : List V} {cs : List Cell} {i : Nat} {p : Addr} {o : OD}, vs[i]? = some (.ref p) → cs[i]? = some (.par o) → p ∈ pars vs cs
  | [], _, _, _, _, e, _ => by simp at e
  | _ :: _, [], _, _, _, _, e => by simp at e
  | v :: vs, c :: cs, 0, p, o, e1, e2 => by
    simp at e1 e2
    subst e1 e2
    exact List.mem_cons_self ..
  | v :: vs, c :: cs, i + 1, p, o, e1, e2 => by
    have ih := mem_pars (vs := vs) (cs := cs) (i := i) (p := p) (o := o) (by simpa using e1) (by simpa using e2)
    unfold pars
    split
    · exact List.mem_cons_of_mem _ (by rename_i h1 h2; cases h1; cases h2; exact ih)
    · rename_i h1 h2; cases h1; cases h2; exact ih
    · rename_i h1 h2
      exact absurd rfl (h2 v vs c cs rfl)
theorem pars_mem : ∀ {vs : List V} {cs : List Cell} {p : Addr}, p ∈ pars vs cs → ∃ (i : Nat) (o : OD), vs[i]? = some (.ref p) ∧ cs[i]? = some (.par o)
  | [], cs, _, e => by cases cs <;> cases e
  | v :: _, [], _, e => by cases v <;> cases e
  | v :: vs, c :: cs, p, e => by
    have step : p ∈ pars vs cs → ∃ (i : Nat) (o : OD), (v :: vs)[i]? = some (.ref p) ∧ (c :: cs)[i]? = some (.par o) := fun h => by
      obtain ⟨i, o, h1, h2⟩ := pars_mem h
      exact ⟨i + 1, o, by simpa using h1, by simpa using h2⟩
    cases v with
    | ref q =>
      cases c with
      | par o =>
        have e' : p ∈ q :: pars vs cs := e
        rcases List.mem_cons.mp e' with z | z
        · subst z
          exact ⟨0, o, rfl, rfl⟩
        · exact step z
      | no => exact step e
      | pin => exact step e
      | val d => exact step e
      | own o => exact step e
    | _ => exact step e
def argC : Cell → Bool
  | .val _ => true
  | .par _ => true
  | _ => false
abbrev fr (G : Cf) (n : Nat) (vs : List V) (cs : List Cell) (F H : Hp) : Fr := ⟨G, n, vs, F, H, pars vs cs, .non⟩
def PostC (G : Cf) (vs : List V) (cs : List Cell) (F H : Hp) (Q : VK) (E : XK) : Out D → Prop
  | .no => False
  | .ok d cs' => ∀ v F' H', Rel (fr G 0 vs cs F H) F' H' (vs.map some) cs' → Rep G F' v d → Q v H'
  | .err x cs' => ∀ cls dd F' H', Rel (fr G 0 vs cs F H) F' H' (vs.map some) cs' → XRel G F' x cls dd → E cls dd H'
def SpM (G : Cf) (n : Nat) (fn : Fn) : Sp := fun vs H Q E => vs.length = n ∧ ∃ F cs, Rel (fr G 0 vs cs F H) F H (vs.map some) cs ∧ cs.all argC = true ∧ PostC G vs cs F H Q E (fn cs)
theorem Rel.at_n {G : Cf} {n m : Nat} {A : List V} {F0 H0 F H : Hp} {ex : List Addr} {pn : V} {σ : L2.St} {ρ : Env} (r : Rel ⟨G, n, A, F0, H0, ex, pn⟩ F H σ ρ) : Rel ⟨G, m, A, F0, H0, ex, pn⟩ F H σ ρ :=
  ⟨r.fh, r.f0, r.out, r.len, fun i c e => by
    have h := r.cell i c e
    cases c <;> exact h, r.sep⟩
/-! ### a def's body -/
def finC : List Cell → Env → Option (List Cell)
  | [], _ => some []
  | .par _ :: cs, .par o :: ρ => (finC cs ρ).map fun l => .par o :: l
  | .par _ :: _, _ => none
  | c :: cs, _ :: ρ => (finC cs ρ).map fun l => c :: l
  | _ :: _, [] => none
def fin (cs : List Cell) (ρ : Env) (k : List Cell → Out D) : Out D := match finC cs ρ with
  | some cs' => k cs'
  | none => .no
def mBody (nl : Nat) (ms : Env → Out Fl) : Fn := fun cs => match ms (cs ++ List.replicate nl .no) with
  | .no => .no
  | .err x ρ => fin cs ρ fun l => .err x l
  | .ok .nx ρ => fin cs ρ fun l => .ok .non l
  | .ok (.rt d) ρ => fin cs ρ fun l => .ok d l
  | .ok _ _ => .no
theorem finC_get : ∀ {cs : List Cell} {ρ : Env} {l : List Cell}, finC cs ρ = some l → l.length = cs.length ∧ ∀ (i : Nat) (c : Cell), l[i]? = some c → (∃ o o0, c = .par o ∧ cs[i]? = some (.par o0) ∧ ρ[i]? = some (.par o)) ∨ (cs[i]? = some c ∧ c.isPar = false)
  | [], _, l, e => by
    unfold finC at e
    cases e
    exact ⟨rfl, fun i c h => by simp at h⟩
  | c0 :: cs, [], l, e => by cases c0 <;> cases e
  | c0 :: cs, r0 :: ρ, l, e => by
    have go : ∀ {l' : List Cell} {c1 : Cell}, finC cs ρ = some l' → ((∃ o o0, c1 = .par o ∧ c0 = .par o0 ∧ r0 = .par o) ∨ (c0 = c1 ∧ c1.isPar = false)) →
        (c1 :: l').length = (c0 :: cs).length ∧ ∀ (i : Nat) (c : Cell), (c1 :: l')[i]? = some c → (∃ o o0, c = .par o ∧ (c0 :: cs)[i]? = some (.par o0) ∧ (r0 :: ρ)[i]? = some (.par o)) ∨ ((c0 :: cs)[i]? = some c ∧ c.isPar = false) := fun {l' c1} h1 h2 => by
      obtain ⟨g1, g2⟩ := finC_get h1
      refine ⟨by simp [g1], fun i c h => ?_⟩
      cases i with
      | zero =>
        simp at h
        subst h
        rcases h2 with ⟨o, o0, a, b, d⟩ | ⟨a, b⟩
        · exact .inl ⟨o, o0, a, by simp [b], by simp [d]⟩
        · exact .inr ⟨by simp [a], b⟩
      | succ i =>
        rcases g2 i c (by simpa using h) with ⟨o, o0, a, b, d⟩ | ⟨a, b⟩
        · exact .inl ⟨o, o0, a, by simpa using b, by simpa using d⟩
        · exact .inr ⟨by simpa using a, b⟩
    cases c0 with
    | par o0 =>
      cases r0 with
      | par o =>
        obtain ⟨l', e1, rfl⟩ := Option.map_eq_some_iff.mp (show (finC cs ρ).map (fun l => Cell.par o :: l) = some l from e)
        exact go e1 (.inl ⟨o, o0, rfl, rfl, rfl⟩)
      | _ => cases e
    | no =>
      obtain ⟨l', e1, rfl⟩ := Option.map_eq_some_iff.mp (show (finC cs ρ).map (fun l => Cell.no :: l) = some l from e)
      exact go e1 (.inr ⟨rfl, rfl⟩)
    | pin =>
      obtain ⟨l', e1, rfl⟩ := Option.map_eq_some_iff.mp (show (finC cs ρ).map (fun l => Cell.pin :: l) = some l from e)
      exact go e1 (.inr ⟨rfl, rfl⟩)
    | val d =>
      obtain ⟨l', e1, rfl⟩ := Option.map_eq_some_iff.mp (show (finC cs ρ).map (fun l => Cell.val d :: l) = some l from e)
      exact go e1 (.inr ⟨rfl, rfl⟩)
    | own o =>
      obtain ⟨l', e1, rfl⟩ := Option.map_eq_some_iff.mp (show (finC cs ρ).map (fun l => Cell.own o :: l) = some l from e)
      exact go e1 (.inr ⟨rfl, rfl⟩)
theorem fin_rel {G : Cf} {n : Nat} {vs : List V} {cs l : List Cell} {F H F' H' : Hp} {σ : L2.St} {ρ : Env} (r0 : Rel (fr G 0 vs cs F H) F H (vs.map some) cs) (ha : cs.all argC = true) (r : Rel (fr G n vs cs F H) F' H' σ ρ) (e : finC cs ρ = some l) : Rel (fr G 0 vs cs F H) F' H' (vs.map some) l := by
  obtain ⟨hl, hg⟩ := finC_get e
  have r' : Rel (fr G 0 vs cs F H) F' H' σ ρ := r.at_n
  have adr : ∀ {i : Nat} {p : Addr}, vs[i]? = some (.ref p) → (vs.map some)[i]? = some (some (V.ref p)) := fun {i p} h => by rw [List.getElem?_map, h]; rfl
  refine ⟨r.fh, r.f0, r.out, by rw [hl]; exact r0.len, fun i c h => ?_, fun i j c c' p e1 e2 o1 o2 e3 e4 => ?_⟩
  · rcases hg i c h with ⟨o, o0, rfl, h1, h2⟩ | ⟨h1, h2⟩
    · obtain ⟨p, ho, g1, g2, g3, g4, g5, g6⟩ := r'.cell i _ h2
      exact ⟨p, ho, adr g6, g2, g3, g4, g5, g6⟩
    · have hc := List.all_eq_true.mp ha c (List.mem_of_getElem? h1)
      cases c with
      | val d =>
        obtain ⟨v, g1, g2⟩ := r0.cell i _ h1
        exact ⟨v, g1, g2.same r.f0⟩
      | par o => cases h2
      | pin => cases hc
      | no => cases hc
      | own o => cases hc
  · have src : ∀ {i : Nat} {c : Cell}, l[i]? = some c → c.owned = true → (vs.map some)[i]? = some (some (.ref p)) → ∃ c' : Cell, ρ[i]? = some c' ∧ c'.owned = true ∧ σ[i]? = some (some (.ref p)) := fun {i c} h1 h2 h3 => by
      rcases hg i c h1 with ⟨o, o0, rfl, g1, g2⟩ | ⟨g1, g2⟩
      · obtain ⟨q, ho, k1, k2, k3, k4, k5, k6⟩ := r'.cell i _ g2
        rw [adr k6] at h3
        cases h3
        exact ⟨_, g2, rfl, k1⟩
      · have hc := List.all_eq_true.mp ha c (List.mem_of_getElem? g1)
        cases c with
        | val d => cases h2
        | par o => cases g2
        | pin => cases hc
        | no => cases hc
        | own o => cases hc
    obtain ⟨d1, a1, b1, k1⟩ := src e1 o1 e3
    obtain ⟨d2, a2, b2, k2⟩ := src e2 o2 e4
    exact r'.sep i j d1 d2 p a1 a2 b1 b2 k1 k2
theorem Rel.ext {f : Fr} {F H : Hp} {σ : L2.St} {ρ : Env} (r : Rel f F H σ ρ) (k : Nat) : Rel f F H (σ ++ List.replicate k none) (ρ ++ List.replicate k .no) := by
  have get : ∀ {j : Nat} {c : Cell}, (ρ ++ List.replicate k .no)[j]? = some c → (j < ρ.length ∧ ρ[j]? = some c) ∨ c = .no := fun {j c} e => by
    by_cases z : j < ρ.length
    · rw [List.getElem?_append_left z] at e
      exact .inl ⟨z, e⟩
    · rw [List.getElem?_append_right (by omega)] at e
      exact .inr (List.eq_of_mem_replicate (List.mem_of_getElem? e))
  refine ⟨r.fh, r.f0, r.out, by rw [List.length_append, List.length_append, r.len, List.length_replicate, List.length_replicate], fun j c e => ?_, fun i j c c' p e1 e2 o1 o2 e3 e4 => ?_⟩
  · rcases get e with ⟨z, e⟩ | rfl
    · rw [List.getElem?_append_left (by rw [r.len]; exact z)]
      exact r.cell j c e
    · trivial
  · rcases get e1 with ⟨z1, e1⟩ | rfl
    · rcases get e2 with ⟨z2, e2⟩ | rfl
      · rw [List.getElem?_append_left (by rw [r.len]; exact z1)] at e3
        rw [List.getElem?_append_left (by rw [r.len]; exact z2)] at e4
        exact r.sep i j c c' p e1 e2 o1 o2 e3 e4
      · cases o2
    · cases o1
section
variable {P : Program} {w : World} {K : PySem.W.Frag} {mg : Str → Option Value} {base : Heap}
/-- a def whose body goes by its mirror -/
theorem fn_ok {x qual : Str} {st : Stmt} {fa : Addr} {fd : FuncData} {N ps : List Str} {k nl : Nat} {G : Cf} {ms : Env → Out Fl} (Fn : Fun K x qual st fa fd) (S : FnScope N ps (defScope st)) (hN : N.length = ps.length + nl)
    (hbody : ∀ (cdv : Value) (A : Around) (outer : List PySem.Env) (s : Shared) (H : Hp) (E : XK) (A0 : List V) (F0 H0 : Hp) (ex : List Addr), Room k (A.deeper (envOfC qual (defScope st) s.heap.objs.size fa cdv)) → (A.deeper (envOfC qual (defScope st) s.heap.objs.size fa cdv)).guards = some [] →
      ∃ t, PSs (cxOf (L2.CX P w) P w K mg base N qual (defScope st) fa cdv A outer s H E) (defBody st) t ∧ SimS ⟨G, N.length, A0, F0, H0, ex, .non⟩ (fun cls d _ H => E cls d H) t ms) :
    FnG P w K mg base (L2.CX P w) (k + 1) fa fd ps (SpM G ps.length (mBody nl ms)) := by
  obtain ⟨oc, od, kV, doc, pm, an, cdv, ct, osl, rfl, lk, hcd⟩ := Fn.ex
  refine okG_any lk hcd S (fun vs H Q E h => h.1) fun A outer s H vs Q E hr hgd hsp => ?_
  obtain ⟨hlen, F, cs, r, ha, p⟩ := hsp
  obtain ⟨t, ht, hs⟩ := hbody cdv A outer s H E vs F H (pars vs cs) hr hgd
  refine ⟨t, ht, ?_⟩
  have hst : L2.start N vs = vs.map some ++ List.replicate nl none := by
    unfold L2.start
    rw [hN, hlen, Nat.add_sub_cancel_left]
  have r1 : Rel (fr G N.length vs cs F H) F H (L2.start N vs) (cs ++ List.replicate nl .no) := by
    rw [hst]
    exact (r.at_n (m := N.length)).ext nl
  refine hs F H _ _ _ (by rw [hst, List.length_append, List.length_map, List.length_replicate, hlen, hN]) r1 ?_
  unfold mBody at p
  match e : ms (cs ++ List.replicate nl .no) with
  | .no => rw [e] at p; exact p.elim
  | .err x ρ =>
    rw [e] at p ⊢
    intro cls d σ F' H' s' hn r2 hx
    have p2 : PostC G vs cs F H Q E (fin cs ρ fun l => .err x l) := p
    unfold fin at p2
    split at p2
    · rename_i l el
      exact p2 cls d F' H' (fin_rel r ha r2 el) hx
    · exact p2.elim
  | .ok .nx ρ =>
    rw [e] at p ⊢
    intro σ F' H' s' hn r2
    have p2 : PostC G vs cs F H Q E (fin cs ρ fun l => .ok .non l) := p
    unfold fin at p2
    split at p2
    · rename_i l el
      exact p2 _ F' H' (fin_rel r ha r2 el) .non
    · exact p2.elim
  | .ok (.rt d) ρ =>
    rw [e] at p ⊢
    intro v σ F' H' s' hn r2 hv
    have p2 : PostC G vs cs F H Q E (fin cs ρ fun l => .ok d l) := p
    unfold fin at p2
    split at p2
    · rename_i l el
      exact p2 v F' H' (fin_rel r ha r2 el) hv
    · exact p2.elim
  | .ok .bk ρ => rw [e] at p; exact p.elim
  | .ok .ct ρ => rw [e] at p; exact p.elim
end
/-! ### arguments -/
section
variable {f : Fr} {W : WX}
def PostA (f : Fr) (W : WX) (F : Hp) (σ τ : L2.St) (Q : List V → Hp → Prop) : Out (List (Sum D Nat)) → Prop
  | .no => False
  | .ok as ρ => ∀ vs τ' F' H', Same F F' → Rel f F' H' ((σ ++ τ) ++ τ') ρ → OpdsR f ((σ ++ τ) ++ τ') F' vs as → Q vs H'
  | .err x ρ => ∀ cls d F' H', Same F F' → Rel f F' H' (σ ++ τ) ρ → XRel f.G F' x cls d → W cls d σ H'
def SimAr (f : Fr) (W : WX) (t : TA) (m : Env → Out (List (Sum D Nat))) : Prop := ∀ F H σ τ ρ Q, σ.length = f.n → Rel f F H (σ ++ τ) ρ → PostA f W F σ τ Q (m ρ) → t σ H Q
theorem PostA.weak {F F1 : Hp} {σ τ : L2.St} {Q : List V → Hp → Prop} {o : Out (List (Sum D Nat))} (e : Same F F1) (h : PostA f W F σ τ Q o) : PostA f W F1 σ τ Q o := by
  cases o with
  | no => exact h
  | ok a ρ => exact fun b τ' F' H' e' => h b τ' F' H' (e.trans e')
  | err x ρ => exact fun c d F' H' e' => h c d F' H' (e.trans e')
def aNil : Env → Out (List (Sum D Nat)) := fun ρ => .ok [] ρ
theorem sim_aNil : SimAr f W tNil aNil := fun F H σ τ ρ Q hn r p => p [] [] F H (Same.refl F) (by rw [List.append_nil]; exact r) trivial
def aV (m : Env → Out D) (rest : Env → Out (List (Sum D Nat))) : Env → Out (List (Sum D Nat)) := fun ρ => (m ρ).bind fun d ρ1 => (rest ρ1).bind fun as ρ2 => .ok (.inl d :: as) ρ2
theorem sim_aV {t : TE} {u : TA} {m : Env → Out D} {rest : Env → Out (List (Sum D Nat))} (h : SimE f W t m) (hr : SimAr f W u rest) : SimAr f W (tCons t u) (aV m rest) := by
  intro F H σ τ ρ Q hn r p
  refine h F H σ τ ρ _ hn r ?_
  unfold aV at p
  cases e : m ρ with
  | no => rw [e] at p; exact p
  | err x ρ1 => rw [e] at p; exact p
  | ok d ρ1 =>
    rw [e] at p
    intro v F1 H1 s1 r1 h1
    refine hr F1 H1 σ τ ρ1 _ hn r1 ?_
    have p1 : PostA f W F σ τ Q ((rest ρ1).bind fun as ρ2 => .ok (.inl d :: as) ρ2) := p
    cases e1 : rest ρ1 with
    | no => rw [e1] at p1; exact p1
    | err x ρ2 => rw [e1] at p1; exact PostA.weak (o := .err x ρ2) s1 p1
    | ok as ρ2 =>
      rw [e1] at p1
      exact fun vs τ' F2 H2 s2 r2 h2 => p1 _ τ' F2 H2 (s1.trans s2) r2 ⟨Rep.same s2 h1, h2⟩
def aS (i : Nat) (rest : Env → Out (List (Sum D Nat))) : Env → Out (List (Sum D Nat)) := fun ρ => match ρ[i]?.bind content with
  | none => .no
  | some _ => (rest ρ).bind fun as ρ2 => .ok (.inr i :: as) ρ2
theorem sim_aS {u : TA} {i : Nat} {rest : Env → Out (List (Sum D Nat))} (hi : i < f.n) (hr : SimAr f W u rest) : SimAr f W (tCons (tVar i) u) (aS i rest) := by
  intro F H σ τ ρ Q hn r p
  unfold aS at p
  split at p
  · exact p.elim
  · rename_i d e
    obtain ⟨c, e1, e2⟩ := Option.bind_eq_some_iff.mp e
    have hc := r.cell i c e1
    have fin : ∀ v, (σ ++ τ)[i]? = some (some v) → (tCons (tVar i) u) σ H Q := fun v h1 => by
      refine ⟨v, app_get (by omega) h1, hr F H σ τ ρ _ hn r ?_⟩
      cases e3 : rest ρ with
      | no => rw [e3] at p; exact p
      | err x ρ2 => rw [e3] at p; exact p
      | ok as ρ2 =>
        rw [e3] at p
        refine fun vs τ' F2 H2 s2 r2 h2 => p _ τ' F2 H2 s2 r2 ⟨?_, h2⟩
        show ((σ ++ τ) ++ τ')[i]? = some (some v)
        rw [List.getElem?_append_left (List.getElem?_eq_some_iff.mp h1).1]
        exact h1
    cases c with
    | no => cases e2
    | pin => cases e2
    | val d' => obtain ⟨v, h1, _⟩ := hc; exact fin v h1
    | own o => obtain ⟨q, ho, h1, _⟩ := hc; exact fin _ h1
    | par o => obtain ⟨q, ho, h1, _⟩ := hc; exact fin _ h1
def aT (m : Env → Out OD) (rest : Env → Out (List (Sum D Nat))) : Env → Out (List (Sum D Nat)) := fun ρ => (m ρ).bind fun o ρ1 => match rest (ρ1 ++ [.own o]) with
  | .no => .no
  | .err x ρ2 => .err x (ρ2.take ρ1.length)
  | .ok as ρ2 => .ok (.inr ρ1.length :: as) ρ2
theorem sim_aT {t : TE} {u : TA} {m : Env → Out OD} {rest : Env → Out (List (Sum D Nat))} (h : SimF f W t m) (hr : SimAr f W u rest) : SimAr f W (tCons t u) (aT m rest) := by
  intro F H σ τ ρ Q hn r p
  refine h F H σ τ ρ _ hn r ?_
  unfold aT at p
  cases e : m ρ with
  | no => rw [e] at p; exact p
  | err x ρ1 => rw [e] at p; exact p
  | ok o ρ1 =>
    rw [e] at p
    intro q F1 H1 s1 r1
    have hl : (σ ++ τ).length = ρ1.length := by
      have := r1.len
      rw [List.length_append, List.length_append (as := ρ1)] at this
      simpa using this
    have r1' : Rel f F1 H1 (σ ++ (τ ++ [some (.ref q)])) (ρ1 ++ [.own o]) := by rw [← List.append_assoc]; exact r1
    refine hr F1 H1 σ (τ ++ [some (.ref q)]) _ _ hn r1' ?_
    have p1 : PostA f W F σ τ Q (match rest (ρ1 ++ [.own o]) with
      | .no => .no
      | .err x ρ2 => .err x (ρ2.take ρ1.length)
      | .ok as ρ2 => .ok (.inr ρ1.length :: as) ρ2) := p
    cases e1 : rest (ρ1 ++ [.own o]) with
    | no => rw [e1] at p1; exact p1
    | err x ρ2 =>
      rw [e1] at p1
      intro cls d F2 H2 s2 r2 hx
      rw [← List.append_assoc] at r2
      have r3 := r2.drop
      rw [hl] at r3
      exact p1 cls d F2 H2 (s1.trans s2) r3 hx
    | ok as ρ2 =>
      rw [e1] at p1
      intro vs τ' F2 H2 s2 r2 h2
      have e4 : (σ ++ (τ ++ [some (.ref q)])) ++ τ' = (σ ++ τ) ++ (some (.ref q) :: τ') := by simp
      rw [e4] at r2 h2
      refine p1 _ (some (.ref q) :: τ') F2 H2 (s1.trans s2) r2 ⟨?_, h2⟩
      show ((σ ++ τ) ++ (some (.ref q) :: τ'))[ρ1.length]? = some (some (.ref q))
      rw [← hl, List.getElem?_append_right (Nat.le_refl _), Nat.sub_self]
      rfl
/-! ### calls -/
def cellOf : Sum D Nat → Env → Option Cell
  | .inl d, _ => some (.val d)
  | .inr i, ρ => match ρ[i]? with
    | some (.own o) => some (.par o)
    | some (.par o) => some (.par o)
    | _ => none
def cellsOf : List (Sum D Nat) → Env → Option (List Cell)
  | [], _ => some []
  | a :: as, ρ => match cellOf a ρ, cellsOf as ρ with
    | some c, some cs => some (c :: cs)
    | _, _ => none
def apart : Sum D Nat → Sum D Nat → Bool
  | .inr i, .inr j => !decide (i = j)
  | _, _ => true
def aparts : List (Sum D Nat) → Bool
  | [] => true
  | a :: as => as.all (apart a) && aparts as
def back : List (Sum D Nat) → List Cell → Env → Env
  | .inr i :: as, .par o :: cs, ρ => back as cs (match ρ[i]? with
    | some c => ρ.set i (c.put o)
    | none => ρ)
  | _ :: as, _ :: cs, ρ => back as cs ρ
  | _, _, ρ => ρ
def samePars : List Cell → List Cell → Bool
  | [], [] => true
  | c :: cs, e :: es => (c.isPar == e.isPar) && samePars cs es
  | _, _ => false
def mCall (n : Nat) (fn : Fn) (ma : Env → Out (List (Sum D Nat))) : Env → Out D := fun ρ => match ma ρ with
  | .no => .no
  | .err x ρ1 => .err x ρ1
  | .ok as ρ1 => match cellsOf as ρ1 with
    | none => .no
    | some cs => if aparts as && decide (as.length = n) then match fn cs with
        | .no => .no
        | .ok d cs' => if samePars cs cs' then .ok d ((back as cs' ρ1).take ρ.length) else .no
        | .err x cs' => if samePars cs cs' then .err x ((back as cs' ρ1).take ρ.length) else .no
      else .no
theorem args_get {σ : L2.St} {F : Hp} {ρ : Env} : ∀ {vs : List V} {as : List (Sum D Nat)} {cs : List Cell}, OpdsR f σ F vs as → cellsOf as ρ = some cs → vs.length = as.length ∧ cs.length = as.length ∧
    ∀ (i : Nat) (c : Cell), cs[i]? = some c → ∃ v a, vs[i]? = some v ∧ as[i]? = some a ∧ OpdR f σ F v a ∧ cellOf a ρ = some c
  | [], [], cs, _, e => by
    unfold cellsOf at e
    cases e
    exact ⟨rfl, rfl, fun i c h => by simp at h⟩
  | v :: vs, a :: as, cs, h, e => by
    unfold cellsOf at e
    split at e
    · rename_i c cs' e1 e2
      cases e
      obtain ⟨h1, h2, h3⟩ := args_get h.2 e2
      refine ⟨by simp [h1], by simp [h2], fun i c' hc => ?_⟩
      cases i with
      | zero =>
        simp at hc
        subst hc
        exact ⟨v, a, rfl, rfl, h.1, e1⟩
      | succ i =>
        obtain ⟨v', a', k1, k2, k3, k4⟩ := h3 i c' (by simpa using hc)
        exact ⟨v', a', by simpa using k1, by simpa using k2, k3, k4⟩
    · cases e
  | [], _ :: _, _, h, _ => h.elim
  | _ :: _, [], _, h, _ => h.elim
theorem aparts_inj : ∀ {as : List (Sum D Nat)}, aparts as = true → ∀ {i k j : Nat}, as[i]? = some (.inr j) → as[k]? = some (.inr j) → i = k
  | [], _, _, _, _, e, _ => by simp at e
  | a :: as, h, i, k, j, e1, e2 => by
    unfold aparts at h
    rw [Bool.and_eq_true] at h
    have no : ∀ {m : Nat}, a = .inr j → as[m]? = some (.inr j) → False := fun {m} z e => by
      have := List.all_eq_true.mp h.1 _ (List.mem_of_getElem? e)
      rw [z] at this
      simp [apart] at this
    cases i with
    | zero =>
      cases k with
      | zero => rfl
      | succ k => exact (no (by simpa using e1) (by simpa using e2)).elim
    | succ i =>
      cases k with
      | zero => exact (no (by simpa using e2) (by simpa using e1)).elim
      | succ k => exact congrArg Nat.succ (aparts_inj h.2 (i := i) (k := k) (j := j) (by simpa using e1) (by simpa using e2))
theorem back_get : ∀ {as : List (Sum D Nat)} {cs : List Cell} {ρ : Env}, aparts as = true → (back as cs ρ).length = ρ.length ∧ ∀ (j : Nat) (c : Cell), (back as cs ρ)[j]? = some c →
    (∃ (i : Nat) (o : OD) (c0 : Cell), as[i]? = some (.inr j) ∧ cs[i]? = some (.par o) ∧ ρ[j]? = some c0 ∧ c = c0.put o) ∨ (ρ[j]? = some c ∧ ∀ (i : Nat) (o : OD), as[i]? = some (.inr j) → cs[i]? ≠ some (.par o))
  | [], _, ρ, _ => by
    unfold back
    exact ⟨rfl, fun j c h => .inr ⟨h, fun i o e => by simp at e⟩⟩
  | a :: as, [], ρ, _ => by
    have e : back (a :: as) [] ρ = ρ := by cases a <;> rfl
    rw [e]
    exact ⟨rfl, fun j c h => .inr ⟨h, fun i o _ z => by simp at z⟩⟩
  | a :: as, c0 :: cs, ρ, h => by
    have h' := h
    unfold aparts at h'
    rw [Bool.and_eq_true] at h'
    have plain : (∀ k o, ¬ (a = .inr k ∧ c0 = .par o)) → (back as cs ρ).length = ρ.length ∧ ∀ (j : Nat) (c : Cell), (back as cs ρ)[j]? = some c →
        (∃ (i : Nat) (o : OD) (c1 : Cell), (a :: as)[i]? = some (.inr j) ∧ (c0 :: cs)[i]? = some (.par o) ∧ ρ[j]? = some c1 ∧ c = c1.put o) ∨ (ρ[j]? = some c ∧ ∀ (i : Nat) (o : OD), (a :: as)[i]? = some (.inr j) → (c0 :: cs)[i]? ≠ some (.par o)) := fun hn => by
      obtain ⟨g1, g2⟩ := back_get (as := as) (cs := cs) (ρ := ρ) h'.2
      refine ⟨g1, fun j c hj => ?_⟩
      rcases g2 j c hj with ⟨i, o, c1, k1, k2, k3, k4⟩ | ⟨k1, k2⟩
      · exact .inl ⟨i + 1, o, c1, by simpa using k1, by simpa using k2, k3, k4⟩
      · refine .inr ⟨k1, fun i o e1 e2 => ?_⟩
        cases i with
        | zero => exact hn j o ⟨by simpa using e1, by simpa using e2⟩
        | succ i => exact k2 i o (by simpa using e1) (by simpa using e2)
    cases a with
    | inl d => exact plain fun k o z => by cases z.1
    | inr i0 =>
      cases c0 with
      | no => exact plain fun k o z => by cases z.2
      | pin => exact plain fun k o z => by cases z.2
      | val d => exact plain fun k o z => by cases z.2
      | own o' => exact plain fun k o z => by cases z.2
      | par o' =>
        have e : back (.inr i0 :: as) (.par o' :: cs) ρ = back as cs (match ρ[i0]? with
          | some c => ρ.set i0 (c.put o')
          | none => ρ) := rfl
        rw [e]
        cases e0 : ρ[i0]? with
        | none =>
          obtain ⟨g1, g2⟩ := back_get (as := as) (cs := cs) (ρ := ρ) h'.2
          refine ⟨g1, fun j c hj => ?_⟩
          rcases g2 j c hj with ⟨i, o, c1, k1, k2, k3, k4⟩ | ⟨k1, k2⟩
          · exact .inl ⟨i + 1, o, c1, by simpa using k1, by simpa using k2, k3, k4⟩
          · refine .inr ⟨k1, fun i o e1 e2 => ?_⟩
            cases i with
            | zero =>
              have : i0 = j := by simpa using e1
              rw [← this, e0] at k1
              cases k1
            | succ i => exact k2 i o (by simpa using e1) (by simpa using e2)
        | some c1 =>
          obtain ⟨g1, g2⟩ := back_get (as := as) (cs := cs) (ρ := ρ.set i0 (c1.put o')) h'.2
          have hi0 := (List.getElem?_eq_some_iff.mp e0).1
          refine ⟨by rw [g1, List.length_set], fun j c hj => ?_⟩
          by_cases z : j = i0
          · subst z
            rcases g2 j c hj with ⟨i, o, c2, k1, k2, k3, k4⟩ | ⟨k1, k2⟩
            · have := List.all_eq_true.mp h'.1 _ (List.mem_of_getElem? k1)
              simp [apart] at this
            · rw [List.getElem?_set_self hi0] at k1
              cases k1
              exact .inl ⟨0, o', c1, rfl, rfl, e0, rfl⟩
          · rcases g2 j c hj with ⟨i, o, c2, k1, k2, k3, k4⟩ | ⟨k1, k2⟩
            · rw [List.getElem?_set_ne (Ne.symm z)] at k3
              exact .inl ⟨i + 1, o, c2, by simpa using k1, by simpa using k2, k3, k4⟩
            · rw [List.getElem?_set_ne (Ne.symm z)] at k1
              refine .inr ⟨k1, fun i o e1 e2 => ?_⟩
              cases i with
              | zero => exact z (by simpa using (by simpa using e1 : i0 = j).symm)
              | succ i => exact k2 i o (by simpa using e1) (by simpa using e2)
theorem samePars_get : ∀ {cs es : List Cell} {i : Nat} {o : OD}, samePars cs es = true → cs[i]? = some (.par o) → ∃ o', es[i]? = some (.par o')
  | [], _, _, _, _, e => by simp at e
  | _ :: _, [], _, _, h, _ => by cases h
  | c :: cs, e :: es, 0, o, h, e1 => by
    unfold samePars at h
    rw [Bool.and_eq_true] at h
    have : c = .par o := by simpa using e1
    subst this
    cases e with
    | par o' => exact ⟨o', rfl⟩
    | _ => cases h.1
  | c :: cs, e :: es, i + 1, o, h, e1 => by
    unfold samePars at h
    rw [Bool.and_eq_true] at h
    obtain ⟨o', h1⟩ := samePars_get (i := i) (o := o) h.2 (by simpa using e1)
    exact ⟨o', by simpa using h1⟩
theorem put_owned {c : Cell} {o : OD} : (c.put o).owned = true := by cases c <;> rfl
/-- the callee's frame -/
theorem call_in {S : L2.St} {F H : Hp} {ρ : Env} {vs : List V} {as : List (Sum D Nat)} {cs : List Cell} (r : Rel f F H S ρ) (ho : OpdsR f S F vs as) (ec : cellsOf as ρ = some cs) (ap : aparts as = true) :
    Rel (fr f.G 0 vs cs F H) F H (vs.map some) cs ∧ cs.all argC = true := by
  obtain ⟨l1, l2, hg⟩ := args_get ho ec
  have slot : ∀ {i : Nat} {o : OD}, cs[i]? = some (.par o) → ∃ (j : Nat) (c : Cell) (p : Addr) (hh : HO), as[i]? = some (.inr j) ∧ ρ[j]? = some c ∧ c.owned = true ∧ vs[i]? = some (.ref p) ∧ S[j]? = some (some (.ref p)) ∧ H p = some hh ∧ F p = none ∧ RepO f.G F hh o := fun {i o} e => by
    obtain ⟨v, a, k1, k2, k3, k4⟩ := hg i _ e
    cases a with
    | inl d => cases k4
    | inr j =>
      have k4 : (match ρ[j]? with
        | some (.own o) => some (.par o)
        | some (.par o) => some (.par o)
        | _ => none) = some (Cell.par o) := k4
      split at k4
      · rename_i o' e'
        cases k4
        obtain ⟨p, hh, g1, g2, g3, g4, _⟩ := r.cell j _ e'
        have k3 : S[j]? = some (some v) := k3
        rw [k3] at g1
        cases g1
        exact ⟨j, _, p, hh, k2, e', rfl, k1, k3, g2, g3, g4⟩
      · rename_i o' e'
        cases k4
        obtain ⟨p, hh, g1, g2, g3, g4, _⟩ := r.cell j _ e'
        have k3 : S[j]? = some (some v) := k3
        rw [k3] at g1
        cases g1
        exact ⟨j, _, p, hh, k2, e', rfl, k1, k3, g2, g3, g4⟩
      · cases k4
  have kind : ∀ {i : Nat} {c : Cell}, cs[i]? = some c → (∃ d v, c = .val d ∧ vs[i]? = some v ∧ Rep f.G F v d) ∨ ∃ o, c = .par o := fun {i c} e => by
    obtain ⟨v, a, k1, k2, k3, k4⟩ := hg i _ e
    cases a with
    | inl d =>
      cases k4
      exact .inl ⟨d, v, rfl, k1, k3⟩
    | inr j =>
      have k4 : (match ρ[j]? with
        | some (.own o) => some (.par o)
        | some (.par o) => some (.par o)
        | _ => none) = some c := k4
      split at k4
      · cases k4; exact .inr ⟨_, rfl⟩
      · cases k4; exact .inr ⟨_, rfl⟩
      · cases k4
  refine ⟨⟨r.fh, Same.refl _, fun b _ _ => ⟨rfl, rfl⟩, by rw [List.length_map, l1, l2], fun i c e => ?_, fun i k c c' p e1 e2 o1 o2 e3 e4 => ?_⟩, List.all_eq_true.mpr fun c hc => ?_⟩
  · rcases kind e with ⟨d, v, rfl, k1, k2⟩ | ⟨o, rfl⟩
    · exact ⟨v, by rw [List.getElem?_map, k1]; rfl, k2⟩
    · obtain ⟨j, c, p, hh, g1, g2, g3, g4, g5, g6, g7, g8⟩ := slot e
      exact ⟨p, hh, by rw [List.getElem?_map, g4]; rfl, g6, g7, g8, mem_pars g4 e, g4⟩
  · have adr : ∀ {i : Nat} {c : Cell}, cs[i]? = some c → c.owned = true → (vs.map some)[i]? = some (some (.ref p)) → ∃ (j : Nat) (c0 : Cell), as[i]? = some (.inr j) ∧ ρ[j]? = some c0 ∧ c0.owned = true ∧ S[j]? = some (some (.ref p)) := fun {i c} h1 h2 h3 => by
      rcases kind h1 with ⟨d, v, rfl, k1, k2⟩ | ⟨o, rfl⟩
      · cases h2
      · obtain ⟨j, c, p', hh, g1, g2, g3, g4, g5, g6, g7, g8⟩ := slot h1
        rw [List.getElem?_map, g4] at h3
        cases h3
        exact ⟨j, c, g1, g2, g3, g5⟩
    obtain ⟨j1, d1, a1, b1, c1, s1⟩ := adr e1 o1 e3
    obtain ⟨j2, d2, a2, b2, c2, s2⟩ := adr e2 o2 e4
    have hj : j1 = j2 := r.sep j1 j2 d1 d2 p b1 b2 c1 c2 s1 s2
    subst hj
    exact aparts_inj ap a1 a2
  · obtain ⟨i, hi, e⟩ := List.mem_iff_getElem.mp hc
    rcases kind (show cs[i]? = some c by rw [List.getElem?_eq_getElem hi, e]) with ⟨d, v, rfl, _⟩ | ⟨o, rfl⟩
    · rfl
    · rfl
/-- behind the call -/
theorem call_out {S : L2.St} {F H F' H' : Hp} {ρ : Env} {vs : List V} {as : List (Sum D Nat)} {cs cs' : List Cell} (r : Rel f F H S ρ) (ho : OpdsR f S F vs as) (ec : cellsOf as ρ = some cs) (ap : aparts as = true) (sp : samePars cs cs' = true)
    (r' : Rel (fr f.G 0 vs cs F H) F' H' (vs.map some) cs') : Rel f F' H' S (back as cs' ρ) ∧ Same F F' := by
  obtain ⟨l1, l2, hg⟩ := args_get ho ec
  obtain ⟨bl, bg⟩ := back_get (cs := cs') (ρ := ρ) ap
  have sF : Same F F' := r'.f0
  -- an argument's slot
  have slot : ∀ {i j : Nat}, as[i]? = some (.inr j) → ∃ (o : OD) (c : Cell) (p : Addr), cs[i]? = some (.par o) ∧ ρ[j]? = some c ∧ c.owned = true ∧ vs[i]? = some (.ref p) ∧ S[j]? = some (some (.ref p)) := fun {i j} e => by
    have hi : i < cs.length := by rw [l2]; exact (List.getElem?_eq_some_iff.mp e).1
    have ec : cs[i]? = some cs[i] := List.getElem?_eq_getElem hi
    obtain ⟨v, a, k1, k2, k3, k4⟩ := hg i _ ec
    rw [e] at k2
    cases k2
    have k3 : S[j]? = some (some v) := k3
    have k4 : (match ρ[j]? with
        | some (.own o) => some (.par o)
        | some (.par o) => some (.par o)
        | _ => none) = some cs[i] := k4
    split at k4
    · rename_i o' e'
      have k4' := Option.some.inj k4
      obtain ⟨p, hh, g1, g2, g3, g4, _⟩ := r.cell j _ e'
      rw [k3] at g1
      cases g1
      exact ⟨o', _, p, by rw [ec, ← k4'], e', rfl, k1, k3⟩
    · rename_i o' e'
      have k4' := Option.some.inj k4
      obtain ⟨p, hh, g1, g2, g3, g4, _⟩ := r.cell j _ e'
      rw [k3] at g1
      cases g1
      exact ⟨o', _, p, by rw [ec, ← k4'], e', rfl, k1, k3⟩
    · cases k4
  have parOf : ∀ {p : Addr}, p ∈ pars vs cs → ∃ (j : Nat) (c : Cell), ρ[j]? = some c ∧ c.owned = true ∧ S[j]? = some (some (.ref p)) ∧ ∃ i : Nat, as[i]? = some (.inr j) := fun {p} h => by
    obtain ⟨i, o, h1, h2⟩ := pars_mem h
    obtain ⟨v, a, k1, k2, k3, k4⟩ := hg i _ h2
    cases a with
    | inl d => cases k4
    | inr j =>
      obtain ⟨o', c, p', g1, g2, g3, g4, g5⟩ := slot k2
      rw [h1] at g4
      cases g4
      exact ⟨j, c, g2, g3, g5, i, k2⟩
  have offx : ∀ {p : Addr}, p ∈ pars vs cs → f.H0 p = none ∨ p ∈ f.ex := fun {p} h => by
    obtain ⟨j, c, g1, g2, g3, _⟩ := parOf h
    have hc := r.cell j c g1
    cases c with
    | no => cases g2
    | pin => cases g2
    | val d => cases g2
    | own o =>
      obtain ⟨q, hh, k1, _, _, _, k5⟩ := hc
      rw [g3] at k1
      cases k1
      exact k5
    | par o =>
      obtain ⟨q, hh, k1, _, _, _, k5, _⟩ := hc
      rw [g3] at k1
      cases k1
      exact .inr k5
  have kept : ∀ {j : Nat} {c : Cell} {p : Addr} {hh : HO}, ρ[j]? = some c → c.owned = true → S[j]? = some (some (.ref p)) → H p = some hh → (∀ i : Nat, as[i]? ≠ some (.inr j)) → H' p = some hh ∧ F' p = F p := fun {j c p hh} e1 e2 e3 e4 e5 => by
    have hp : p ∉ pars vs cs := fun z => by
      obtain ⟨j', c', g1, g2, g3, i, g4⟩ := parOf z
      have := r.sep j j' c c' p e1 g1 e2 g2 e3 g3
      subst this
      exact e5 i g4
    obtain ⟨h1, h2⟩ := r'.out p (by show H p ≠ none; rw [e4]; simp) hp
    exact ⟨h1.trans e4, h2⟩
  have notin : ∀ {j : Nat}, (∀ (i : Nat) (o : OD), as[i]? = some (.inr j) → cs'[i]? ≠ some (.par o)) → ∀ i : Nat, as[i]? ≠ some (.inr j) := fun {j} h i e => by
    obtain ⟨o, c, p, g1, _⟩ := slot e
    obtain ⟨o', g2⟩ := samePars_get sp g1
    exact h i o' e g2
  refine ⟨⟨r'.fh, r.f0.trans sF, fun b hb he => ?_, by rw [bl]; exact r.len, fun j c e => ?_, fun j k c c' p e1 e2 o1 o2 e3 e4 => ?_⟩, sF⟩
  · obtain ⟨h1, h2⟩ := r.out b hb he
    have hp : b ∉ pars vs cs := fun z => (offx z).elim hb he
    obtain ⟨h3, h4⟩ := r'.out b (by show H b ≠ none; rw [h1]; exact hb) hp
    exact ⟨h3.trans h1, h4.trans h2⟩
  · rcases bg j c e with ⟨i, o, c0, k1, k2, k3, rfl⟩ | ⟨k1, k2⟩
    · obtain ⟨o0, c1, p, g1, g2, g3, g4, g5⟩ := slot k1
      rw [k3] at g2
      cases g2
      obtain ⟨q, hh, m1, m2, m3, m4, m5, m6⟩ := r'.cell i _ k2
      have hq : q = p := by
        have m6 : vs[i]? = some (.ref q) := m6
        rw [g4] at m6
        cases m6
        rfl
      subst hq
      have hc := r.cell j c0 k3
      cases c0 with
      | no => cases g3
      | pin => cases g3
      | val d => cases g3
      | own o1 =>
        obtain ⟨q', _, n1, _, _, _, n5⟩ := hc
        rw [g5] at n1
        cases n1
        exact ⟨q, hh, g5, m2, m3, m4, n5⟩
      | par o1 =>
        obtain ⟨q', _, n1, _, _, _, n5, n6⟩ := hc
        rw [g5] at n1
        cases n1
        exact ⟨q, hh, g5, m2, m3, m4, n5, n6⟩
    · have hno := notin k2
      have hc := r.cell j c k1
      cases c with
      | no => trivial
      | pin => exact hc
      | val d =>
        obtain ⟨v, h1, h2⟩ := hc
        exact ⟨v, h1, h2.same sF⟩
      | own o =>
        obtain ⟨p, hh, h1, h2, h3, h4, h5⟩ := hc
        obtain ⟨q1, q2⟩ := kept k1 rfl h1 h2 hno
        exact ⟨p, hh, h1, q1, by rw [q2]; exact h3, h4.same sF, h5⟩
      | par o =>
        obtain ⟨p, hh, h1, h2, h3, h4, h5⟩ := hc
        obtain ⟨q1, q2⟩ := kept k1 rfl h1 h2 hno
        exact ⟨p, hh, h1, q1, by rw [q2]; exact h3, h4.same sF, h5⟩
  · have src : ∀ {l : Nat} {c : Cell}, (back as cs' ρ)[l]? = some c → c.owned = true → ∃ c0 : Cell, ρ[l]? = some c0 ∧ c0.owned = true := fun {l c} h1 h2 => by
      rcases bg l c h1 with ⟨i, o, c0, k1, k2, k3, rfl⟩ | ⟨k1, k2⟩
      · obtain ⟨o0, c1, p, g1, g2, g3, _⟩ := slot k1
        rw [k3] at g2
        cases g2
        exact ⟨c0, k3, g3⟩
      · exact ⟨c, k1, h2⟩
    obtain ⟨d1, a1, b1⟩ := src e1 o1
    obtain ⟨d2, a2, b2⟩ := src e2 o2
    exact r.sep j k d1 d2 p a1 a2 b1 b2 e3 e4
theorem sim_callS {t : TA} {n : Nat} {fn : Fn} {ma : Env → Out (List (Sum D Nat))} (ha : SimAr f W t ma) : SimE f W (tCallS (SpM f.G n fn) (WE W) t) (mCall n fn ma) := by
  intro F H σ τ ρ Q hn r p
  refine ha F H σ τ ρ _ hn r ?_
  unfold mCall at p
  cases e : ma ρ with
  | no => rw [e] at p; exact p
  | err x ρ1 => rw [e] at p; exact p
  | ok as ρ1 =>
    rw [e] at p
    intro vs τ' F1 H1 s1 r1 ho
    have hl : (σ ++ τ).length = ρ.length := r.len
    have p1 : PostE f W F σ τ (fun _ => Rep f.G) Q (match cellsOf as ρ1 with
      | none => .no
      | some cs => if aparts as && decide (as.length = n) then match fn cs with
          | .no => .no
          | .ok d cs' => if samePars cs cs' then .ok d ((back as cs' ρ1).take ρ.length) else .no
          | .err x cs' => if samePars cs cs' then .err x ((back as cs' ρ1).take ρ.length) else .no
        else .no) := p
    split at p1
    · exact p1.elim
    · rename_i cs ec
      split at p1
      · rename_i hh
        rw [Bool.and_eq_true] at hh
        obtain ⟨r2, ha2⟩ := call_in r1 ho ec hh.1
        obtain ⟨l1, _⟩ := args_get ho ec
        refine ⟨by rw [l1]; exact of_decide_eq_true hh.2, F1, cs, r2, ha2, ?_⟩
        cases e2 : fn cs with
        | no => rw [e2] at p1; exact p1.elim
        | ok d cs' =>
          rw [e2] at p1
          have p2 : PostE f W F σ τ (fun _ => Rep f.G) Q (if samePars cs cs' then .ok d ((back as cs' ρ1).take ρ.length) else .no) := p1
          split at p2
          · rename_i hs
            intro v F2 H2 r3 hv
            obtain ⟨r4, s4⟩ := call_out r1 ho ec hh.1 hs r3
            have r5 := r4.drop
            rw [hl] at r5
            exact p2 v F2 H2 (s1.trans s4) r5 hv
          · exact p2.elim
        | err x cs' =>
          rw [e2] at p1
          have p2 : PostE f W F σ τ (fun _ => Rep f.G) Q (if samePars cs cs' then .err x ((back as cs' ρ1).take ρ.length) else .no) := p1
          split at p2
          · rename_i hs
            intro cls dd F2 H2 r3 hv
            obtain ⟨r4, s4⟩ := call_out r1 ho ec hh.1 hs r3
            have r5 := r4.drop
            rw [hl] at r5
            exact p2 cls dd F2 H2 (s1.trans s4) r5 hv
          · exact p2.elim
      · exact p1.elim
theorem sim_call0 {t : TA} {n : Nat} {fn : Fn} {ma : Env → Out (List (Sum D Nat))} (ha : SimAr f W0 t ma) : SimE f W0 (tCall (SpM f.G n fn) [] E0 t) (mCall n fn ma) := by
  have e : tCall (SpM f.G n fn) [] E0 t = tCallS (SpM f.G n fn) (WE W0) t := by
    funext σ H Q
    unfold tCall tCallS
    congr 1
    funext vs H1
    rw [List.append_nil]
    rfl
  rw [e]
  exact sim_callS ha
end
section
variable {X : Cx} {CX : CXT} {k : Nat} {fa : Addr} {fd : FuncData} {ps : List Str} {sp : Sp} {E : L2.St → XK} {x : Str} {p pos : Pos} {e : Expr} {es : List Expr} {t : TA}
theorem run_fnSG {pins : List (Addr × Obj)} {σ : L2.St} {H : Hp} {s : Shared} {Q : VK} {us : List Value} {vs : List V} (F : FnG X.prog X.w X.K X.mg X.base CX k fa fd ps sp) (hr : Room k X.A) (hgd : X.A.guards = some []) (hb : Binds X.K fd ps []) (hx : PassesAt CX X σ (E σ))
    (I : Inv X pins σ H s) (r : Vals vs us) (h : sp vs H Q (E σ)) : wpAny (model X.prog X.w) X.A (call (.ref fa) us) (EP X pins σ Q) X.xe s := by
  have hl : us.length = ps.length := by rw [← r.length]; exact F.len _ _ _ _ h
  have b := hb s us I.kIn (by rw [List.append_nil]; exact hl)
  rw [List.append_nil] at b
  refine wpAny_call (codeAny_mono (F.run X.A X.stack s H ⟨us, []⟩ us vs Q (E σ) hr hgd I.env0 b r h) fun r s' hq => ?_)
  cases r with
  | error e => exact hx pins H s e s' I hq
  | ok fl =>
    cases fl with
    | ret u => exact I.after hq
    | next => exact False.elim hq
    | brk => exact False.elim hq
    | cont => exact False.elim hq
/-- a call in a def's own row -/
theorem pe_callSG (F : FnG X.prog X.w X.K X.mg X.base CX k fa fd ps sp) (hr : Room k X.A) (hgd : X.A.guards = some []) (hg : Gl X x) (hm : X.mg x = some (.ref fa)) (hk : PySem.W.keepIn X.K (.ref fa) = true) (hb : Binds X.K fd ps []) (hx : ∀ σ, PassesAt CX X σ (E σ))
    (ha : PA X (e :: es) t) (hdb : (x == ("__debug__" : Str)) = false := by decide) (he : starEach (e :: es) X.env = (false, eval e X.env) :: starEach es X.env := by rfl) (hpl : (backTo pos (starEach es X.env)).any (·.1) = false := by rfl) :
    PE X (.Call (.Name x p) (e :: es) [] pos) (tCallS sp E t) := by
  refine ⟨fun pins s σ H Q I h => ?_⟩
  refine wpAny_Call_Name_kw (ld_glob I hg hm ?_ hdb)
  refine PySem.W.callWith_K (h₀ := X.base) I.ok.mod.kin hk (thn (ha.run pos pins s σ H _ I h) fun us s1 ⟨vs, H1, I1, r, q⟩ => ⟨I1.kIn, ?_⟩) he hpl
  exact run_fnSG F hr hgd hb (hx σ) I1 r q
end
end Mi
set_option Elab.async false
set_option linter.all false
set_option maxRecDepth 100000
set_option maxHeartbeats 4000000
namespace Mi
open PySem PySem.Spec PyProof.Rows L2 Wk
/-! ### built-in calls, by values -/
section
variable {G : Cf} {F H : Hp}
theorem pks1 {vs : List V} {d : D} (h : Pks G F H vs [d]) : ∃ v, vs = [v] ∧ Pk G F H v d := by
  match vs, h with
  | [v], h => exact ⟨v, rfl, h.1⟩
  | [], h => exact h.elim
  | _ :: _ :: _, h => exact h.2.elim
theorem pks2 {vs : List V} {d e : D} (h : Pks G F H vs [d, e]) : ∃ v w, vs = [v, w] ∧ Pk G F H v d ∧ Pk G F H w e := by
  match vs, h with
  | [v, w], h => exact ⟨v, w, rfl, h.1, h.2.1⟩
  | [], h => exact h.elim
  | [_], h => exact h.2.elim
  | _ :: _ :: _ :: _, h => exact h.2.2.elim
end
def rLenG (K : PySem.W.Frag) : List V → Hp → VK → Prop := fun xs H Q => ∃ x n, xs = [x] ∧ LenV K x H n ∧ Q (.int n) H
theorem call_lenG {X : Cx} {K : PySem.W.Frag} (hK : X.K = K) : CallR X (.builtin "len") (rLenG K) := by
  subst hK
  exact call_len
def dLen : List D → Option D
  | [.str z] => if z.length ≤ lim then some (.int z.length) else none
  | [.lst l] => some (.int l.length)
  | [.fl l] => some (.int l.length)
  | [.tup l] => some (.int l.length)
  | [.ft l] => some (.int l.length)
  | _ => none
theorem on_len {G : Cf} : OpN G (rLenG G.K) dLen := by
  intro F H vs ds d Q s hp e c
  unfold dLen at e
  split at e
  · obtain ⟨v, rfl, h⟩ := pks1 hp
    obtain rfl := pk_str h
    split at e
    · rename_i hl
      cases e
      exact ⟨_, _, rfl, ⟨lim_sz hl, rfl⟩, cont_id s c (.int _)⟩
    · cases e
  · obtain ⟨v, rfl, h⟩ := pks1 hp
    obtain ⟨p, vs, rfl, h1, h2⟩ := pk_lst s h
    cases e
    exact ⟨_, vs.length, rfl, .inl ⟨vs, SqL.of h1, rfl⟩, by rw [h2.length]; exact cont_id s c (.int _)⟩
  · obtain ⟨v, rfl, h⟩ := pks1 hp
    obtain ⟨p, vs, rfl, h1, h2⟩ := pk_fl s h
    cases e
    exact ⟨_, vs.length, rfl, .inl ⟨vs, h1, rfl⟩, by rw [h2.length]; exact cont_id s c (.int _)⟩
  · obtain ⟨v, rfl, h⟩ := pks1 hp
    obtain ⟨p, vs, rfl, h1, h2⟩ := pk_tup s h
    cases e
    exact ⟨_, vs.length, rfl, .inr ⟨vs, h1, rfl⟩, by rw [h2.length]; exact cont_id s c (.int _)⟩
  · obtain ⟨v, rfl, h⟩ := pks1 hp
    obtain ⟨p, vs, rfl, h1, h2⟩ := pk_ft s h
    cases e
    exact ⟨_, vs.length, rfl, .inr ⟨vs, h1, rfl⟩, by rw [h2.length]; exact cont_id s c (.int _)⟩
  · cases e
def rAbsG : List V → Hp → VK → Prop := fun xs H Q => ∃ i, xs = [.int i] ∧ Q (.int (if i < 0 then -i else i)) H
def rMaxG : List V → Hp → VK → Prop := fun xs H Q => ∃ i j, xs = [.int i, .int j] ∧ Q (.int (if j > i then j else i)) H
def rMinG : List V → Hp → VK → Prop := fun xs H Q => ∃ i j, xs = [.int i, .int j] ∧ Q (.int (if j < i then j else i)) H
theorem call_absG {X : Cx} : CallR X (.builtin "abs") rAbsG := call_abs
theorem call_maxG {X : Cx} (hc : X.calm = true) : CallR X (.builtin "max") rMaxG := call_max2 hc
theorem call_minG {X : Cx} (hc : X.calm = true) : CallR X (.builtin "min") rMinG := call_min2 hc
def dAbs : List D → Option D
  | [.int i] => some (.int (if i < 0 then -i else i))
  | _ => none
def dMax : List D → Option D
  | [.int i, .int j] => some (.int (if j > i then j else i))
  | _ => none
def dMin : List D → Option D
  | [.int i, .int j] => some (.int (if j < i then j else i))
  | _ => none
theorem on_abs {G : Cf} : OpN G rAbsG dAbs := by
  intro F H vs ds d Q s hp e c
  unfold dAbs at e
  split at e
  · obtain ⟨v, rfl, h⟩ := pks1 hp
    obtain rfl := pk_int h
    cases e
    exact ⟨_, rfl, cont_id s c (.int _)⟩
  · cases e
theorem on_max {G : Cf} : OpN G rMaxG dMax := by
  intro F H vs ds d Q s hp e c
  unfold dMax at e
  split at e
  · obtain ⟨v, w, rfl, h1, h2⟩ := pks2 hp
    obtain rfl := pk_int h1; obtain rfl := pk_int h2
    cases e
    exact ⟨_, _, rfl, cont_id s c (.int _)⟩
  · cases e
theorem on_min {G : Cf} : OpN G rMinG dMin := by
  intro F H vs ds d Q s hp e c
  unfold dMin at e
  split at e
  · obtain ⟨v, w, rfl, h1, h2⟩ := pks2 hp
    obtain rfl := pk_int h1; obtain rfl := pk_int h2
    cases e
    exact ⟨_, _, rfl, cont_id s c (.int _)⟩
  · cases e
/-- int(x): of an int, a bool, a text -/
def rIntG : List V → Hp → VK → Prop := fun xs H Q => ((∃ i, xs = [.int i] ∧ Q (.int i) H) ∨ ∃ k, xs = [.bl k] ∧ Q (.int (if k then 1 else 0)) H) ∨ ∃ a n, xs = [.str a] ∧ PySem.intText? a = some n ∧ a.length ≤ 640 ∧ Q (.int n) H
theorem call_intG {X : Cx} : CallR X (.type "int") rIntG := CallR.or call_int1 call_int_str
def dInt : List D → Option D
  | [.int i] => some (.int i)
  | [.bl b] => some (.int (if b then 1 else 0))
  | [.str a] => if a.length ≤ 640 then (PySem.intText? a).map .int else none
  | _ => none
theorem on_int {G : Cf} : OpN G rIntG dInt := by
  intro F H vs ds d Q s hp e c
  unfold dInt at e
  split at e
  · obtain ⟨v, rfl, h⟩ := pks1 hp
    obtain rfl := pk_int h
    cases e
    exact .inl (.inl ⟨_, rfl, cont_id s c (.int _)⟩)
  · obtain ⟨v, rfl, h⟩ := pks1 hp
    obtain rfl := pk_bl h
    cases e
    exact .inl (.inr ⟨_, rfl, cont_id s c (.int _)⟩)
  · obtain ⟨v, rfl, h⟩ := pks1 hp
    obtain rfl := pk_str h
    split at e
    · rename_i hl
      obtain ⟨n, e1, rfl⟩ := Option.map_eq_some_iff.mp e
      exact .inr ⟨_, n, rfl, e1, hl, cont_id s c (.int _)⟩
    · cases e
  · cases e
/-- str(x): of an int -/
def rStrG : List V → Hp → VK → Prop := fun xs H Q => ∃ i : Int, xs = [.int i] ∧ i.natAbs.log2 < 1920 ∧ Q (.str (toString i)) H
theorem call_strG {X : Cx} : CallR X (.type "str") rStrG := call_str_int
def istr (i : Int) : Str := Str.ofString (toString i)
def dStr : List D → Option D
  | [.int i] => if i.natAbs.log2 < 1920 then some (.str (istr i)) else none
  | _ => none
theorem on_str {G : Cf} : OpN G rStrG dStr := by
  intro F H vs ds d Q s hp e c
  unfold dStr at e
  split at e
  · obtain ⟨v, rfl, h⟩ := pks1 hp
    obtain rfl := pk_int h
    split at e
    · rename_i hl
      cases e
      exact ⟨_, rfl, hl, cont_id s c (.str _)⟩
    · cases e
  · cases e
/-- all(xs), any(xs): of a list of bools -/
def blOf : D → Option Bool
  | .bl b => some b
  | _ => none
def bls : List D → Option (List Bool)
  | [] => some []
  | d :: ds => match blOf d, bls ds with
    | some b, some bs => some (b :: bs)
    | _, _ => none
theorem reps_bls {G : Cf} {F : Hp} : ∀ {vs : List V} {ds : List D} {bs : List Bool}, Reps G F vs ds → bls ds = some bs → vs = bs.map V.bl
  | _, _, _, .nil, e => by cases e; rfl
  | _, _, _, .cons (d := d) (ds := ds) h a, e => by
    rw [bls] at e
    split at e
    · rename_i b bs' e1 e2
      cases e
      have := reps_bls a e2
      cases d with
      | bl b' =>
        cases e1
        cases h
        rw [this]
        rfl
      | _ => cases e1
    · cases e
theorem call_allG {X : Cx} {K : PySem.W.Frag} (hK : X.K = K) (hc : X.calm = true) : CallR X (.builtin "all") (rAll K) := by
  subst hK
  exact cr_all hc
theorem call_anyG {X : Cx} {K : PySem.W.Frag} (hK : X.K = K) (hc : X.calm = true) : CallR X (.builtin "any") (rAny K) := by
  subst hK
  exact cr_any hc
def dAll : List D → Option D
  | [.lst l] => (bls l).map fun bs => .bl (bs.all id)
  | _ => none
def dAny : List D → Option D
  | [.lst l] => (bls l).map fun bs => .bl (bs.any id)
  | _ => none
theorem on_all {G : Cf} : OpN G (rAll G.K) dAll := by
  intro F H vs ds d Q s hp e c
  unfold dAll at e
  split at e
  · obtain ⟨v, rfl, h⟩ := pks1 hp
    obtain ⟨p, vs, rfl, h1, h2⟩ := pk_lst s h
    obtain ⟨bs, e1, rfl⟩ := Option.map_eq_some_iff.mp e
    rw [reps_bls h2 e1] at h1
    exact ⟨_, bs, rfl, SqL.of h1, cont_id s c (.bl _)⟩
  · cases e
theorem on_any {G : Cf} : OpN G (rAny G.K) dAny := by
  intro F H vs ds d Q s hp e c
  unfold dAny at e
  split at e
  · obtain ⟨v, rfl, h⟩ := pks1 hp
    obtain ⟨p, vs, rfl, h1, h2⟩ := pk_lst s h
    obtain ⟨bs, e1, rfl⟩ := Option.map_eq_some_iff.mp e
    rw [reps_bls h2 e1] at h1
    exact ⟨_, bs, rfl, SqL.of h1, cont_id s c (.bl _)⟩
  · cases e
/-- tuple(xs) -/
def dTuple : List D → Option D
  | [.lst l] => some (.tup l)
  | [.fl l] => some (.tup l)
  | [.tup l] => some (.tup l)
  | _ => none
theorem on_tuple {G : Cf} : OpN G (rTupleF G.K) dTuple := by
  intro F H vs ds d Q s hp e c
  unfold dTuple at e
  split at e
  · obtain ⟨v, rfl, h⟩ := pks1 hp
    obtain ⟨p, vs, rfl, h1, h2⟩ := pk_lst s h
    cases e
    exact ⟨p, vs, rfl, .inl ⟨SqL.of h1, fun l o n g => cont_new s c n (rep_tup g s n h2)⟩⟩
  · obtain ⟨v, rfl, h⟩ := pks1 hp
    obtain ⟨p, vs, rfl, h1, h2⟩ := pk_fl s h
    cases e
    exact ⟨p, vs, rfl, .inl ⟨h1, fun l o n g => cont_new s c n (rep_tup g s n h2)⟩⟩
  · obtain ⟨v, rfl, h⟩ := pks1 hp
    have h' := h
    obtain ⟨p, vs, rfl, h1, h2⟩ := pk_tup s h
    cases e
    refine ⟨p, vs, rfl, .inr ⟨h1, ?_⟩⟩
    rcases h' with h' | ⟨_, _, o, _, _, _, ho⟩
    · exact cont_id s c h'
    · cases o <;> cases ho
  · cases e
/-! ### isinstance -/
inductive Ty where
  | int | bool | str | list | tuple | dict
def Ty.name : Ty → String
  | .int => "int"
  | .bool => "bool"
  | .str => "str"
  | .list => "list"
  | .tuple => "tuple"
  | .dict => "dict"
def tyD : D → Option String
  | .non => some "NoneType"
  | .bl _ => some "bool"
  | .int _ => some "int"
  | .str _ => some "str"
  | .lst _ => some "list"
  | .fl _ => some "list"
  | .tup _ => some "tuple"
  | .ft _ => some "tuple"
  | .pr _ => some "tuple"
  | .dk _ => some "dict"
  | .dt _ => some "dict"
  | .obj _ _ => none
theorem sqL_ty {K : PySem.W.Frag} {H : Hp} {a : Addr} {vs : List V} (h : SqL K H a vs) : TyX K H (.ref a) (.type "list") := by
  rcases h with (h | ⟨o, h⟩) | ⟨o, its, n, h1, h2, _⟩
  · exact .base (.lst h)
  · exact .base (.frz h)
  · exact .kList h1 h2
theorem sqT_ty {K : PySem.W.Frag} {H : Hp} {a : Addr} {vs : List V} (h : SqT K H a vs) : TyX K H (.ref a) (.type "tuple") := by
  rcases h with (h | ⟨o, h⟩) | ⟨o, its, n, h1, h2, _⟩
  · exact .base (.tup h)
  · exact .fTuple h
  · exact .kTuple h1 h2
theorem pk_ty {G : Cf} {F H : Hp} {v : V} {d : D} {t : String} (s : Same F H) (h : Pk G F H v d) (e : tyD d = some t) : TyX G.K H v (.type t) := by
  rcases h with h | ⟨p, ho, o, rfl, h1, h2, rfl⟩
  · cases h with
    | non => cases e; exact .base .non
    | bl b => cases e; exact .base (.bl b)
    | int i => cases e; exact .base (.int i)
    | str z => cases e; exact .base (.str z)
    | lst h1 _ => cases e; exact .base (.lst (s _ _ h1))
    | fl h1 _ => cases e; exact sqL_ty (s.seq h1)
    | tup _ h1 _ => cases e; exact sqT_ty (tup_sq (s _ _ h1))
    | ft h1 _ => cases e; exact sqT_ty (same_seqT s h1)
    | pr h1 _ => cases e; exact .base (.tup (s _ _ h1))
    | dk h1 _ => cases e; exact .base (.dK (s _ _ h1))
    | dt h1 _ => cases e; exact .base (.dT (s _ _ h1))
    | obj _ _ _ _ => cases e
  · cases h2 with
    | lst _ => cases e; exact .base (.lst h1)
    | dk _ => cases e; exact .base (.dK h1)
    | dt _ => cases e; exact .base (.dT h1)
def isiB (d : D) : Ty → Option Bool
  | .int => match d with
    | .int _ => some true
    | .bl _ => some true
    | .obj _ _ => none
    | _ => some false
  | .bool => match d with
    | .bl _ => some true
    | .obj _ _ => none
    | _ => some false
  | .str => match d with
    | .str _ => some true
    | .obj _ _ => none
    | _ => some false
  | .list => match d with
    | .lst _ => some true
    | .fl _ => some true
    | .obj _ _ => none
    | _ => some false
  | .tuple => match d with
    | .tup _ => some true
    | .ft _ => some true
    | .pr _ => some true
    | .obj _ _ => none
    | _ => some false
  | .dict => match d with
    | .dk _ => some true
    | .dt _ => some true
    | .obj _ _ => none
    | _ => some false
theorem isi_kit {d : D} {T : Ty} {b : Bool} (h : isiB d T = some b) : ∃ t, tyD d = some t ∧ kitB t T.name = some b := by
  cases T <;> cases d <;> first
    | (cases h; done)
    | (cases h; exact ⟨_, rfl, by decide +kernel⟩)
def mIsi (T : Ty) (a : Env → Out (Sum D Nat)) : Env → Out D := fun ρ => (a ρ).bind fun x ρ1 => match (rsv x ρ1).bind fun d => isiB d T with
  | some b => .ok (.bl b) ρ1
  | none => .no
def rIsiG (K : PySem.W.Frag) : List V → Hp → VK → Prop := rIsi K
theorem call_isiG {X : Cx} {K : PySem.W.Frag} (hK : X.K = K) : CallR X (.builtin "isinstance") (rIsiG K) := by
  subst hK
  exact call_isi
section
variable {f : Fr} {W : WX}
theorem sim_isi {t : TE} {a : Env → Out (Sum D Nat)} (T : Ty) (h : SimO f W t a) : SimE f W (tCB (rIsiG f.G.K) (tCons t (tCons (tC (.ty T.name)) tNil))) (mIsi T a) := by
  intro F H σ τ ρ Q hn r p
  refine sim_bind h hn r p fun x ρ1 v F1 H1 s1 r1 h1 p1 => ?_
  split at p1
  · rename_i b e
    obtain ⟨d, e1, e2⟩ := Option.bind_eq_some_iff.mp e
    obtain ⟨t', k1, k2⟩ := isi_kit e2
    exact ⟨v, _, _, _, b, rfl, .ty _, pk_ty r1.fh (opd_pk r1 h1 e1) k1, kit_ty k2, p1 _ F1 H1 (Same.refl _) r1 (.bl _)⟩
  · exact p1.elim
/-! ### text methods -/
def OpM (G : Cf) (r : V → List V → Hp → VK → Prop) (g : Str → D → Option D) : Prop := ∀ F H z y dy d Q, Same F H → Pk G F H y dy → g z dy = some d → Cont G F H d Q → r (.str z) [y] H Q
def mM1 (g : Str → D → Option D) (a : Env → Out D) (b : Env → Out (Sum D Nat)) : Env → Out D := fun ρ => (a ρ).bind fun x ρ1 => match x with
  | .str z => (b ρ1).bind fun y ρ2 => match rsv y ρ2 with
    | some dy => lift (g z dy) ρ2
    | none => .no
  | _ => .no
theorem sim_m1 {r : V → List V → Hp → VK → Prop} {g : Str → D → Option D} {ta tb : TE} {a : Env → Out D} {b : Env → Out (Sum D Nat)} (ho : OpM f.G r g) (ha : SimE f W ta a) (hb : SimO f W tb b) : SimE f W (tM1 r ta tb) (mM1 g a b) := by
  intro F H σ τ ρ Q hn rl p
  refine sim_bind ha hn rl p fun x ρ1 v F1 H1 s1 r1 h1 p1 => ?_
  cases x with
  | str z =>
    cases h1
    refine ⟨⟨z, rfl⟩, ?_⟩
    have p1 : PostE f W F1 σ τ (fun _ => Rep f.G) Q ((b ρ1).bind fun y ρ2 => match rsv y ρ2 with
      | some dy => lift (g z dy) ρ2
      | none => .no) := p1
    refine sim_bind hb hn r1 p1 fun y ρ2 w F2 H2 s2 r2 h2 p2 => ?_
    split at p2
    · rename_i dy e
      obtain ⟨d, e1, c⟩ := post_lift r2 p2
      exact ho F2 H2 z w dy d Q r2.fh (opd_pk r2 h2 e) e1 c
    · exact p2.elim
  | _ => exact p1.elim
end
def rStartsG : V → List V → Hp → VK → Prop := fun x xs H Q => ∃ a b, x = .str a ∧ xs = [.str b] ∧ Q (.bl (Txt.startswith a b)) H
theorem mt_startsG {X : Cx} : MtR X "str.startswith" rStartsG := mt_startswith
def dStarts (z : Str) : D → Option D
  | .str y => some (.bl (Txt.startswith z y))
  | _ => none
theorem om_starts {G : Cf} : OpM G rStartsG dStarts := by
  intro F H z y dy d Q s hy e c
  unfold dStarts at e
  split at e
  · obtain rfl := pk_str hy
    cases e
    exact ⟨_, _, rfl, rfl, cont_id s c (.bl _)⟩
  · cases e
def strOf : D → Option Str
  | .str z => some z
  | _ => none
def strsOf : List D → Option (List Str)
  | [] => some []
  | d :: ds => match strOf d, strsOf ds with
    | some b, some bs => some (b :: bs)
    | _, _ => none
theorem reps_strs {G : Cf} {F : Hp} : ∀ {vs : List V} {ds : List D} {bs : List Str}, Reps G F vs ds → strsOf ds = some bs → vs = bs.map V.str
  | _, _, _, .nil, e => by cases e; rfl
  | _, _, _, .cons (d := d) (ds := ds) h a, e => by
    rw [strsOf] at e
    split at e
    · rename_i b bs' e1 e2
      cases e
      have := reps_strs a e2
      cases d with
      | str b' =>
        cases e1
        cases h
        rw [this]
        rfl
      | _ => cases e1
    · cases e
theorem reps_of_strs {G : Cf} {F : Hp} : ∀ bs : List Str, Reps G F (bs.map V.str) (bs.map D.str)
  | [] => .nil
  | b :: bs => .cons (.str b) (reps_of_strs bs)
def rJoinG (K : PySem.W.Frag) : V → List V → Hp → VK → Prop := fun x xs H Q => ∃ a p, ∃ ys : List Str, x = .str a ∧ xs = [.ref p] ∧ (SqL K H p (ys.map V.str) ∨ SqT K H p (ys.map V.str)) ∧
    (ys.map (·.length)).sum + ys.length * a.length ≤ 16777216 ∧ Q (.str (Txt.join a ys)) H
theorem mt_joinG {X : Cx} {K : PySem.W.Frag} (hK : X.K = K) : MtR X "str.join" (rJoinG K) := by
  subst hK
  exact mt_join
def dJoin (z : Str) (d : D) : Option D := ((dSeq d).bind strsOf).bind fun ys => if (ys.map (·.length)).sum + ys.length * z.length ≤ 1000000 then some (.str (Txt.join z ys)) else none
theorem om_join {G : Cf} : OpM G (rJoinG G.K) dJoin := by
  intro F H z y dy d Q s hy e c
  obtain ⟨ys, e1, e2⟩ := Option.bind_eq_some_iff.mp e
  obtain ⟨l, e3, e4⟩ := Option.bind_eq_some_iff.mp e1
  split at e2
  · rename_i hl
    cases e2
    obtain ⟨p, vs, rfl, h1, h2⟩ := pk_seq s hy e3
    rw [reps_strs h2 e4] at h1
    exact ⟨z, p, ys, rfl, rfl, h1, Nat.le_trans hl (by decide), cont_id s c (.str _)⟩
  · cases e2
def rSplitG : V → List V → Hp → VK → Prop := fun x xs H Q => ∃ a b, x = .str a ∧ xs = [.str b] ∧ (b.length == 0) = false ∧ a.length + 2 ≤ sizeLine ∧ rNewStrs (Txt.split a b) H Q
theorem mt_splitG {X : Cx} : MtR X "str.split" rSplitG := mt_split
def dSplit (z : Str) : D → Option D
  | .str y => if (y.length == 0) = false ∧ z.length + 2 ≤ lim then some (.lst ((Txt.split z y).map D.str)) else none
  | _ => none
theorem om_split {G : Cf} : OpM G rSplitG dSplit := by
  intro F H z y dy d Q s hy e c
  unfold dSplit at e
  split at e
  · obtain rfl := pk_str hy
    split at e
    · rename_i hl
      cases e
      exact ⟨_, _, rfl, rfl, hl.1, lim_sz hl.2, fun p n => cont_new s c n (rep_lst s n (reps_of_strs _))⟩
    · cases e
  · cases e
/-! ### texts with parts -/
def fmtD : D → Option Str
  | .str y => if y.length ≤ lim then some y else none
  | .int i => if i.natAbs.log2 < 1920 then some (istr i) else none
  | _ => none
def mFmt (a : Env → Out D) : Env → Out D := fun ρ => (a ρ).bind fun x ρ1 => match fmtD x with
  | some y => .ok (.str y) ρ1
  | none => .no
section
variable {f : Fr} {W : WX}
theorem sim_fmt {t : TE} {a : Env → Out D} (h : SimE f W t a) : SimE f W (tFmt t) (mFmt a) := by
  intro F H σ τ ρ Q hn r p
  refine sim_bind h hn r p fun x ρ1 v F1 H1 s1 r1 h1 p1 => ?_
  split at p1
  · rename_i y e
    unfold fmtD at e
    split at e
    · split at e
      · rename_i hl
        cases e
        cases h1
        exact .inl ⟨_, rfl, lim_sz hl, p1 _ F1 H1 (Same.refl _) r1 (.str _)⟩
      · cases e
    · split at e
      · rename_i hl
        cases e
        cases h1
        exact .inr ⟨_, rfl, hl, p1 _ F1 H1 (Same.refl _) r1 (.str _)⟩
      · cases e
    · cases e
  · exact p1.elim
abbrev SimJ (f : Fr) (W : WX) (ts : List TE) (acc : Str) (m : Env → Out Str) : Prop := Sim f W (fun _ _ b a => b = a) (tJs ts acc) m
def jNil (acc : Str) : Env → Out Str := fun ρ => .ok acc ρ
def jCons (a : Env → Out D) (rest : Str → Env → Out Str) (acc : Str) : Env → Out Str := fun ρ => (a ρ).bind fun x ρ1 => match x with
  | .str y => if (acc ++ y).length ≤ lim then rest (acc ++ y) ρ1 else .no
  | _ => .no
theorem sim_jNil : ∀ acc, SimJ f W [] acc (jNil acc) := fun acc F H σ τ ρ Q hn r p => p acc F H (Same.refl F) r rfl
theorem sim_jCons {t : TE} {ts : List TE} {a : Env → Out D} {rest : Str → Env → Out Str} (h : SimE f W t a) (hr : ∀ acc, SimJ f W ts acc (rest acc)) : ∀ acc, SimJ f W (t :: ts) acc (jCons a rest acc) := by
  intro acc F H σ τ ρ Q hn r p
  refine sim_bind h hn r p fun x ρ1 v F1 H1 s1 r1 h1 p1 => ?_
  cases x with
  | str y =>
    cases h1
    have p1 : PostE f W F1 σ τ (fun _ _ b a => b = a) Q (if (acc ++ y).length ≤ lim then rest (acc ++ y) ρ1 else .no) := p1
    split at p1
    · rename_i hl
      exact ⟨y, rfl, lim_sz hl, hr _ F1 H1 σ τ ρ1 Q hn r1 p1⟩
    · exact p1.elim
  | _ => exact p1.elim
def mJoined (rest : Str → Env → Out Str) : Env → Out D := fun ρ => (rest Str.empty ρ).bind fun y ρ1 => .ok (.str y) ρ1
theorem sim_joined {ts : List TE} {rest : Str → Env → Out Str} (h : ∀ acc, SimJ f W ts acc (rest acc)) : SimE f W (fun σ H Q => tJs ts Str.empty σ H fun out H1 => Q (.str out) H1) (mJoined rest) := by
  intro F H σ τ ρ Q hn r p
  refine sim_bind (h Str.empty) hn r p fun x ρ1 v F1 H1 s1 r1 h1 p1 => ?_
  subst h1
  exact p1 _ F1 H1 (Same.refl _) r1 (.str _)
end
end Mi
set_option Elab.async false
set_option linter.all false
set_option maxRecDepth 100000
set_option maxHeartbeats 4000000
namespace Mi
open PySem PySem.Spec PyProof.Rows L2 Wk
/-! ### what is not reached -/
section
variable {X : Cx}
theorem pe_never {e : Expr} : PE X e (fun _ _ _ => False) := ⟨fun _ _ _ _ _ _ h => h.elim⟩
theorem pt_never {e : Expr} : PT X e (fun _ _ _ => False) := ⟨fun _ _ _ _ _ _ h => h.elim⟩
theorem ps_never {st : Stmt} : PS X st (fun _ _ _ => False) := ⟨fun _ _ _ _ _ _ h => h.elim⟩
theorem pi_never {tg e : Expr} : PI X tg e (fun _ _ _ => False) := ⟨fun _ _ _ _ _ _ h => h.elim⟩
end
theorem o2_div {G : Cf} : Op2 G rDivG dDiv := by
  intro F H x y dx dy d Q s hx hy e c
  unfold dDiv at e
  split at e
  · obtain rfl := pk_int hx; obtain rfl := pk_int hy
    split at e
    · rename_i hl
      cases e
      exact .inl ⟨_, _, rfl, rfl, ⟨hl.1, hl.2⟩, cont_id s c (.int _)⟩
    · split at e
      · rename_i hl
        cases e
        exact .inr ⟨_, _, rfl, rfl, hl, cont_id s c (.int _)⟩
      · cases e
  · cases e
section
variable {f : Fr} {W : WX}
/-! ### several names at once -/
/-- a temporary becomes a slot's -/
theorem Rel.take_in {F H : Hp} {σ τ : L2.St} {ρ : Env} {i j : Nat} {p : Addr} {o : OD} (r : Rel f F H (σ ++ τ) ρ) (hi : i < σ.length) (hj : σ.length ≤ j) (ej : ρ[j]? = some (.own o)) (es : (σ ++ τ)[j]? = some (some (.ref p))) :
    Rel f F H (σ.set i (some (.ref p)) ++ τ) ((ρ.set j .no).set i (.own o)) := by
  have hl : (σ ++ τ).length = ρ.length := r.len
  have hlj := (List.getElem?_eq_some_iff.mp ej).1
  have hi' : i < ρ.length := by omega
  have hij : i ≠ j := by omega
  have get : ∀ {k : Nat} {c : Cell}, ((ρ.set j .no).set i (.own o))[k]? = some c → (k = i ∧ c = .own o) ∨ (k ≠ i ∧ (c = .no ∨ (k ≠ j ∧ ρ[k]? = some c))) := fun {k c} e => by
    by_cases z : k = i
    · subst z
      rw [List.getElem?_set_self (by rw [List.length_set]; exact hi')] at e
      cases e
      exact .inl ⟨rfl, rfl⟩
    · rw [List.getElem?_set_ne (Ne.symm z)] at e
      by_cases y : k = j
      · subst y
        rw [List.getElem?_set_self hlj] at e
        cases e
        exact .inr ⟨z, .inl rfl⟩
      · rw [List.getElem?_set_ne (Ne.symm y)] at e
        exact .inr ⟨z, .inr ⟨y, e⟩⟩
  have sg : ∀ {k : Nat}, k ≠ i → (σ.set i (some (.ref p)) ++ τ)[k]? = (σ ++ τ)[k]? := fun {k} h => by
    rw [← set_app hi, List.getElem?_set_ne (Ne.symm h)]
  have si : (σ.set i (some (.ref p)) ++ τ)[i]? = some (some (.ref p)) := by
    rw [← set_app hi, List.getElem?_set_self (by rw [hl]; exact hi')]
  refine ⟨r.fh, r.f0, r.out, by rw [← set_app hi, List.length_set, List.length_set, List.length_set]; exact hl, fun k c e => ?_, fun k l c c' q e1 e2 o1 o2 e3 e4 => ?_⟩
  · rcases get e with ⟨rfl, rfl⟩ | ⟨h1, rfl | ⟨h2, h3⟩⟩
    · obtain ⟨q, ho, g1, g2⟩ := r.cell j _ ej
      rw [es] at g1
      cases g1
      exact ⟨p, ho, si, g2⟩
    · trivial
    · have hc := r.cell k c h3
      rw [sg h1]
      cases c with
      | no => trivial
      | pin => exact hc
      | val d => exact hc
      | own o' => exact hc
      | par o' => exact hc
  · have src : ∀ {k : Nat} {c : Cell}, ((ρ.set j .no).set i (.own o))[k]? = some c → c.owned = true → (σ.set i (some (.ref p)) ++ τ)[k]? = some (some (.ref q)) → ∃ k', ρ[k']? = some c ∧ (σ ++ τ)[k']? = some (some (.ref q)) ∧ ((k = i ∧ k' = j) ∨ (k ≠ i ∧ k' = k ∧ k ≠ j)) := fun {k c} h1 h2 h3 => by
      rcases get h1 with ⟨rfl, rfl⟩ | ⟨g1, rfl | ⟨g2, g3⟩⟩
      · rw [si] at h3
        cases h3
        exact ⟨j, ej, es, .inl ⟨rfl, rfl⟩⟩
      · cases h2
      · rw [sg g1] at h3
        exact ⟨k, g3, h3, .inr ⟨g1, rfl, g2⟩⟩
    obtain ⟨k1, a1, b1, w1⟩ := src e1 o1 e3
    obtain ⟨k2, a2, b2, w2⟩ := src e2 o2 e4
    have := r.sep k1 k2 c c' q a1 a2 o1 o2 b1 b2
    omega
def parSet (n : Nat) : List Nat → List (Sum D Nat) → Env → Option Env
  | [], [], ρ => some ρ
  | i :: is, .inl d :: as, ρ => (setv i d ρ).bind (parSet n is as)
  | i :: is, .inr j :: as, ρ => match ρ[i]?, ρ[j]? with
    | some c, some (.own o) => if c.isPar || decide (j < n) then none else parSet n is as ((ρ.set j .no).set i (.own o))
    | _, _ => none
  | _, _, _ => none
def parSt : List Nat → List V → L2.St → L2.St
  | i :: is, v :: vs, σ => parSt is vs (σ.set i (some v))
  | _, _, σ => σ
theorem parSt_length : ∀ (is : List Nat) (vs : List V) (σ : L2.St), (parSt is vs σ).length = σ.length
  | [], _, _ => by unfold parSt; rfl
  | _ :: _, [], _ => by unfold parSt; rfl
  | i :: is, v :: vs, σ => by
    unfold parSt
    rw [parSt_length, List.length_set]
theorem par_rel {F H : Hp} {τ : L2.St} : ∀ {is : List Nat} {vs : List V} {as : List (Sum D Nat)} {σ S : L2.St} {ρ ρ' : Env}, (∀ i ∈ is, i < f.n) → σ.length = f.n → Rel f F H (σ ++ τ) ρ → OpdsR f S F vs as → (∀ j, f.n ≤ j → S[j]? = (σ ++ τ)[j]?) → parSet f.n is as ρ = some ρ' →
    Rel f F H (parSt is vs σ ++ τ) ρ' ∧ vs.length = is.length
  | [], vs, as, σ, S, ρ, ρ', hi, hn, r, ho, hS, e => by
    cases as with
    | nil =>
      cases vs with
      | nil =>
        cases e
        exact ⟨r, rfl⟩
      | cons v vs => exact ho.elim
    | cons a as => cases a <;> cases e
  | i :: is, vs, as, σ, S, ρ, ρ', hi, hn, r, ho, hS, e => by
    cases as with
    | nil => cases e
    | cons a as =>
      cases vs with
      | nil => exact ho.elim
      | cons v vs =>
        have hii : i < σ.length := by rw [hn]; exact hi i (by simp)
        cases a with
        | inl d =>
          obtain ⟨ρ1, e1, e2⟩ := Option.bind_eq_some_iff.mp (show (setv i d ρ).bind (parSet f.n is as) = some ρ' from e)
          unfold setv at e1
          split at e1
          · rename_i c hc
            split at e1
            · cases e1
            · cases e1
              have r1 : Rel f F H (σ.set i (some v) ++ τ) (ρ.set i (.val d)) := by
                rw [← set_app hii]
                exact r.setc (List.getElem?_eq_some_iff.mp hc).1 ho.1
              obtain ⟨h1, h2⟩ := par_rel (is := is) (vs := vs) (as := as) (fun k hk => hi k (List.mem_cons_of_mem _ hk)) (by rw [List.length_set]; exact hn) r1 ho.2 (fun j hj => by
                rw [hS j hj, ← set_app hii, List.getElem?_set_ne (by omega)]) e2
              exact ⟨h1, by rw [List.length_cons, List.length_cons, h2]⟩
          · cases e1
        | inr j =>
          have e' : (match ρ[i]?, ρ[j]? with
            | some c, some (.own o) => if c.isPar || decide (j < f.n) then none else parSet f.n is as ((ρ.set j .no).set i (.own o))
            | _, _ => none) = some ρ' := e
          split at e'
          · rename_i c o hc hj
            split at e'
            · cases e'
            · rename_i hh
              have hjn : f.n ≤ j := by
                simp at hh
                exact hh.2
              have es : (σ ++ τ)[j]? = some (some v) := by rw [← hS j hjn]; exact ho.1
              obtain ⟨q, ho', g1, _⟩ := r.cell j _ hj
              rw [es] at g1
              cases g1
              have r1 := r.take_in hii (by rw [hn]; exact hjn) hj es
              obtain ⟨h1, h2⟩ := par_rel (is := is) (vs := vs) (as := as) (fun k hk => hi k (List.mem_cons_of_mem _ hk)) (by rw [List.length_set]; exact hn) r1 ho.2 (fun j hj => by
                rw [hS j hj, ← set_app hii, List.getElem?_set_ne (by omega)]) e'
              exact ⟨h1, by rw [List.length_cons, List.length_cons, h2]⟩
          · cases e'
def mPar (n : Nat) (is : List Nat) (ma : Env → Out (List (Sum D Nat))) : Env → Out Fl := fun ρ => match ma ρ with
  | .no => .no
  | .err x ρ1 => .err x ρ1
  | .ok as ρ1 => match parSet n is as ρ1 with
    | some ρ2 => .ok .nx (ρ2.take n)
    | none => .no
theorem sim_parL {ta : TA} {is : List Nat} {ma : Env → Out (List (Sum D Nat))} (hi : ∀ i ∈ is, i < f.n) (h : SimAr f W ta ma) {F H : Hp} {σ : L2.St} {ρ : Env} {E : Ends} {c : List V → Hp → Prop} (hn : σ.length = f.n) (r : Rel f F H σ ρ) (p : PostS f W F E (mPar f.n is ma ρ))
    (hk : ∀ vs H1, vs.length = is.length → E.nx (parSt is vs σ) H1 → c vs H1) : ta σ H c := by
  refine h F H σ [] ρ _ hn (by rw [List.append_nil]; exact r) ?_
  unfold mPar at p
  cases e : ma ρ with
  | no => rw [e] at p; exact p
  | err x ρ1 =>
    rw [e] at p
    exact fun cls d F' H' s r1 hx => p cls d σ F' H' s hn (by rw [List.append_nil] at r1; exact r1) hx
  | ok as ρ1 =>
    rw [e] at p
    intro vs τ' F1 H1 s1 r1 ho
    rw [List.append_nil] at r1 ho
    have p1 : PostS f W F E (match parSet f.n is as ρ1 with
      | some ρ2 => .ok .nx (ρ2.take f.n)
      | none => .no) := p
    split at p1
    · rename_i ρ2 e2
      obtain ⟨r2, hl⟩ := par_rel hi hn r1 ho (fun _ _ => rfl) e2
      have r3 := r2.drop
      rw [parSt_length, hn] at r3
      exact hk vs H1 hl (p1 _ F1 H1 s1 (by rw [parSt_length]; exact hn) r3)
    · exact p1.elim
theorem sim_par {ta : TA} {i j : Nat} {ma : Env → Out (List (Sum D Nat))} (hi : i < f.n) (hj : j < f.n) (h : SimAr f W ta ma) : SimS f W (tPar i j ta) (mPar f.n [i, j] ma) := by
  intro F H σ ρ E hn r p
  refine sim_parL (by intro k hk; rcases (by simpa using hk : k = i ∨ k = j) with rfl | rfl <;> assumption) h hn r p fun vs H1 hl q => ?_
  match vs, hl with
  | [v, w], _ => exact ⟨v, w, rfl, q⟩
theorem sim_par3 {ta : TA} {i j l : Nat} {ma : Env → Out (List (Sum D Nat))} (hi : i < f.n) (hj : j < f.n) (hl : l < f.n) (h : SimAr f W ta ma) : SimS f W (tPar3 i j l ta) (mPar f.n [i, j, l] ma) := by
  intro F H σ ρ E hn r p
  refine sim_parL (by intro k hk; rcases (by simpa using hk : k = i ∨ k = j ∨ k = l) with rfl | rfl | rfl <;> assumption) h hn r p fun vs H1 hl q => ?_
  match vs, hl with
  | [u, v, w], _ => exact ⟨u, v, w, rfl, q⟩
/-! ### x += e -/
def ipG (g : Int → Int → Int) : TIp := ipI g
def mAug (i : Nat) (g : Int → Int → Int) (m : Env → Out D) : Env → Out Fl := fun ρ => match ρ[i]? with
  | some (.val (.int x)) => (m ρ).bind fun d ρ1 => match d with
    | .int y => .ok .nx (ρ1.set i (.val (.int (g x y))))
    | _ => .no
  | _ => .no
theorem sim_aug {t : TE} {i : Nat} {g : Int → Int → Int} {m : Env → Out D} (hi : i < f.n) (h : SimE f W t m) : SimS f W (tAug i t (ipI g)) (mAug i g m) := by
  intro F H σ ρ E hn r p
  unfold mAug at p
  split at p
  · rename_i x e
    obtain ⟨v, h1, h2⟩ := r.cell i _ e
    cases h2
    refine ⟨_, h1, ?_⟩
    refine sim_bindS h hn r p fun d ρ1 w F1 H1 s1 r1 g1 p1 => ?_
    cases d with
    | int y =>
      cases g1
      refine ⟨x, y, rfl, rfl, p1 _ F1 H1 (Same.refl _) (by rw [List.length_set]; exact hn) (r1.setc ?_ (.int _))⟩
      have := r1.len
      omega
    | _ => exact p1.elim
  · exact p.elim
/-! ### raise -/
def sp_exc (C : Addr) (fn : Str) : Sp := fun vs H Q _ => ∃ (e : Addr) (v : V), vs = [.ref e, v] ∧ H e = some (exo e C none) ∧ ∀ d, H d = none → d ≠ e → Q .non (upd (upd H d (exd d [(fn, v)])) e (exo e C (some d)))
def sp_exc0 (C : Addr) : Sp := fun vs H Q _ => ∃ e : Addr, vs = [.ref e] ∧ H e = some (exo e C none) ∧ Q .non H
def mRaise (c : Nat) (m : Env → Out D) : Env → Out Fl := fun ρ => (m ρ).bind fun d ρ1 => .err ⟨c, [d]⟩ ρ1
def mRaise0 (c : Nat) : Env → Out Fl := fun ρ => .err ⟨c, []⟩ ρ
theorem heap_exc {H : Hp} {e d : Addr} {o1 o2 o3 o4 : HO} (he : H e = none) (hd : H d = none) (hne : d ≠ e) : upd (del (upd (upd (upd H e o1) d o2) e o3) e) d o4 = upd H d o4 := by
  funext b
  by_cases z : b = d
  · subst z
    rw [upd_same, upd_same]
  · rw [upd_ne z, upd_ne z]
    by_cases y : b = e
    · subst y
      rw [del_same, he]
    · rw [del_ne y, upd_ne y, upd_ne z, upd_ne y]
theorem sim_raise {t : TE} {c : Nat} {C : Addr} {fn : Str} {m : Env → Out D} (hC : f.G.xc c = C) (hf : f.G.xf c = [fn]) (h : SimE f W t m) : SimS f W (fun _ σ H => tMkO C (sp_exc C fn) [] (tCons t tNil) σ H fun cls d H' => W cls d σ H') (mRaise c m) := by
  intro F H σ ρ E hn r p
  refine sim_bindS h hn r p fun d ρ1 v F1 H1 s1 r1 g1 p1 => ?_
  refine ⟨by simp, fun a ha => ⟨a, v, rfl, upd_same, fun dd hd ne => ⟨rfl, dd, [(fn, v)], upd_same, by rw [upd_ne ne, upd_same], (Same.new ha).free hd, ?_⟩⟩⟩
  have hdd : H1 dd = none := (Same.new ha).free hd
  rw [heap_exc ha hdd ne]
  have gr := Grow.new (o := .xd [(fn, v)]) r1.fh hdd
  exact p1 _ _ σ _ _ gr.ff hn (r1.grow gr) ⟨by rw [← hC], .inr ⟨dd, [(fn, v)], rfl, upd_same, by rw [hf]; rfl, .cons (g1.same gr.ff) .nil⟩⟩
theorem del_upd {H : Hp} {a : Addr} {o : HO} (h : H a = none) : del (upd H a o) a = H := by
  funext b
  by_cases z : b = a
  · subst z
    rw [del_same, h]
  · rw [del_ne z, upd_ne z]
theorem sim_raise0 {c : Nat} {C : Addr} (hC : f.G.xc c = C) (hf : f.G.xf c = []) : SimS f W (fun _ σ H => Wk.tMkO0 C (sp_exc0 C) σ H fun cls d H' => W cls d σ H') (mRaise0 c) := by
  intro F H σ ρ E hn r p
  intro a ha
  refine ⟨a, rfl, upd_same, rfl, upd_same, ?_⟩
  rw [del_upd ha]
  exact p _ _ σ F H (Same.refl _) hn r ⟨by rw [← hC], .inl ⟨rfl, hf, rfl⟩⟩
/-! ### try .. except C as e -/
/-- the exception's field in the handler -/
def mXf (i : Nat) (x : Exn) : Env → Out D := fun ρ => match ρ[i]?, x.l with
  | some .pin, [d] => .ok d ρ
  | _, _ => .no
theorem sim_xf {i : Nat} {x : Exn} {a C : Addr} {cls : Value} {d : Option Addr} {fn : Str} (hi : i < f.n) (hp : f.pin = .ref a) (hx : XRel f.G f.F0 x cls d) (hC : f.G.xc x.c = C) (hf : f.G.xf x.c = [fn]) : SimE f W (tXf a cls d C fn (tVar i)) (mXf i x) := by
  intro F H σ τ ρ Q hn r p
  unfold mXf at p
  split at p
  · rename_i dd e1 e2
    have h1 := r.cell i _ e1
    obtain ⟨h2, h3⟩ := hx
    rcases h3 with ⟨h4, _⟩ | ⟨da, fs, h4, h5, h6, h7⟩
    · rw [e2] at h4
      cases h4
    · rw [e2] at h7
      cases h7 with
      | @cons k v d' vs ds k1 k2 =>
        cases k2
        rw [hf] at h6
        have hk : k = fn := by simpa using h6
        subst hk
        refine ⟨_, app_get (by omega) h1, hp, by rw [h2, hC], da, _, v, h4, r.fh _ _ (r.f0 _ _ h5), by simp [List.lookup], p v F H (Same.refl _) r (k1.same r.f0)⟩
  · exact p.elim
theorem Rel.enter {F H : Hp} {σ : L2.St} {ρ : Env} {i : Nat} {v : V} (r : Rel f F H σ ρ) (hi : i < σ.length) (np : ρ.all (fun c => match c with | .pin => false | _ => true) = true) : Rel { f with F0 := F, pin := v } F H (σ.set i (some v)) (ρ.set i .pin) := by
  have k := r.kill i (some v)
  refine ⟨r.fh, Same.refl _, fun b hb he => ⟨(r.out b hb he).1, rfl⟩, k.len.trans (by rw [List.length_set, List.length_set]), fun j c e => ?_, fun j l c c' p e1 e2 o1 o2 e3 e4 => ?_⟩
  · by_cases z : j = i
    · subst z
      rw [List.getElem?_set_self (by rw [← r.len]; exact hi)] at e
      cases e
      exact List.getElem?_set_self hi
    · rw [List.getElem?_set_ne (Ne.symm z)] at e
      have hc := r.cell j c e
      rw [List.getElem?_set_ne (Ne.symm z)]
      cases c with
      | pin =>
        have := List.all_eq_true.mp np _ (List.mem_of_getElem? e)
        cases this
      | no => trivial
      | val d => exact hc
      | own o => exact hc
      | par o => exact hc
  · have own : ∀ {l : Nat} {c : Cell}, (ρ.set i .pin)[l]? = some c → c.owned = true → l ≠ i ∧ ρ[l]? = some c := fun {l c} h1 h2 => by
      by_cases z : l = i
      · subst z
        rw [List.getElem?_set_self (by rw [← r.len]; exact hi)] at h1
        cases h1
        cases h2
      · rw [List.getElem?_set_ne (Ne.symm z)] at h1
        exact ⟨z, h1⟩
    obtain ⟨n1, e1⟩ := own e1 o1
    obtain ⟨n2, e2⟩ := own e2 o2
    rw [List.getElem?_set_ne (Ne.symm n1)] at e3
    rw [List.getElem?_set_ne (Ne.symm n2)] at e4
    exact r.sep j l c c' p e1 e2 o1 o2 e3 e4
def noPin (ρ : Env) : Bool := ρ.all fun c => match c with
  | .pin => false
  | _ => true
theorem Rel.leave {F F1 H1 : Hp} {σ : L2.St} {ρ : Env} {v : V} (s0 : Same f.F0 F) (h0 : ∀ b, f.H0 b ≠ none → b ∉ f.ex → F b = f.F0 b) (r : Rel { f with F0 := F, pin := v } F1 H1 σ ρ) (np : noPin ρ = true) : Rel f F1 H1 σ ρ := by
  refine ⟨r.fh, s0.trans r.f0, fun b hb he => ?_, r.len, fun j c e => ?_, r.sep⟩
  · obtain ⟨h1, h2⟩ := r.out b hb he
    exact ⟨h1, h2.trans (h0 b hb he)⟩
  · have hc := r.cell j c e
    cases c with
    | pin =>
      have := List.all_eq_true.mp np _ (List.mem_of_getElem? e)
      cases this
    | no => trivial
    | val d => exact hc
    | own o => exact hc
    | par o => exact hc
def tryK (i : Nat) : Out Fl → Out Fl
  | .no => .no
  | .err y ρ => if noPin ρ then .err y ρ else .no
  | .ok (.rt d) ρ => if noPin (ρ.set i .no) then .ok (.rt d) (ρ.set i .no) else .no
  | .ok fl ρ => if noPin (ρ.set i .no) then .ok fl (ρ.set i .no) else .no
def mTryC (nx c : Nat) (i : Nat) (mb : Env → Out Fl) (mh : Exn → Env → Out Fl) : Env → Out Fl := fun ρ => match mb ρ with
  | .err x ρ1 => if x.c = c then (if noPin ρ1 then tryK i (mh x (ρ1.set i .pin)) else .no) else if x.c < nx then .err x ρ1 else .no
  | .ok fl ρ1 => .ok fl ρ1
  | .no => .no
theorem sim_try {K : PySem.W.Frag} {tb : WX → TS} {ts : Addr → Value → Option Addr → TS} {nx c i : Nat} {C : Addr} {mb : Env → Out Fl} {mh : Exn → Env → Out Fl} (hi : i < f.n) (hC : f.G.xc c = C)
    (hex : ∀ k, k < nx → PySem.W.exmOne K (.ref (f.G.xc k)) (.ref C) = some (decide (k = c))) (hc : c < nx) (hb : ∀ W', SimS f W' (tb W') mb)
    (hh : ∀ (x : Exn) (a : Addr) (cls : Value) (d : Option Addr) (F0 : Hp), x.c = c → XRel f.G F0 x cls d → SimS { f with F0 := F0, pin := .ref a } W (ts a cls d) (mh x)) :
    SimS f W (fun D σ H => tb (wAs K (.ref C) i ts W D) D σ H) (mTryC nx c i mb mh) := by
  intro F H σ ρ E hn r p
  refine hb _ F H σ ρ E hn r ?_
  unfold mTryC at p
  match e : mb ρ with
  | .no => rw [e] at p; exact p
  | .ok .nx ρ1 => rw [e] at p; exact p
  | .ok (.rt d) ρ1 => rw [e] at p; exact p
  | .ok .bk ρ1 => rw [e] at p; exact p
  | .ok .ct ρ1 => rw [e] at p; exact p
  | .err x ρ1 =>
    rw [e] at p
    intro cls d σ1 F1 H1 s1 n1 r1 hx
    have hcls : cls = .ref (f.G.xc x.c) := hx.1
    have p1 : PostS f W F E (if x.c = c then (if noPin ρ1 then tryK i (mh x (ρ1.set i .pin)) else .no) else if x.c < nx then .err x ρ1 else .no) := p
    split at p1
    · rename_i hxc
      split at p1
      · rename_i hnp
        refine ⟨true, by rw [hcls, hex _ (by rw [hxc]; exact hc), decide_eq_true hxc], fun _ a ha => ?_, fun z => by cases z⟩
        have r2 : Rel { f with F0 := F1, pin := .ref a } F1 H1 (σ1.set i (some (.ref a))) (ρ1.set i .pin) := Rel.enter r1 (by rw [n1]; exact hi) hnp
        refine hh x a cls d F1 hxc hx F1 H1 _ _ _ (by show (σ1.set i _).length = f.n; rw [List.length_set]; exact n1) r2 ?_
        have s0 : Same f.F0 F1 := r1.f0
        have h0 : ∀ b, f.H0 b ≠ none → b ∉ f.ex → F1 b = f.F0 b := fun b hb he => (r1.out b hb he).2
        have back : ∀ {σ3 : L2.St} {F3 H3 : Hp} {ρ3 : Env}, Rel { f with F0 := F1, pin := .ref a } F3 H3 σ3 ρ3 → noPin (ρ3.set i .no) = true → Rel f F3 H3 (σ3.set i none) (ρ3.set i .no) := fun {σ3 F3 H3 ρ3} r3 h => Rel.leave s0 h0 (r3.kill i none) h
        match e2 : mh x (ρ1.set i .pin) with
        | .no => rw [e2] at p1; exact p1
        | .err y ρ2 =>
          rw [e2] at p1
          have p2 : PostS f W F E (if noPin ρ2 then .err y ρ2 else .no) := p1
          split at p2
          · rename_i h2
            exact fun cls' d' σ3 F3 H3 s3 n3 r3 hx3 => p2 cls' d' σ3 F3 H3 (s1.trans s3) n3 (Rel.leave s0 h0 r3 h2) hx3
          · exact p2.elim
        | .ok (.rt d3) ρ2 =>
          rw [e2] at p1
          have p2 : PostS f W F E (if noPin (ρ2.set i .no) then .ok (.rt d3) (ρ2.set i .no) else .no) := p1
          split at p2
          · rename_i h2
            exact fun v σ3 F3 H3 s3 n3 r3 hv => p2 v (σ3.set i none) F3 H3 (s1.trans s3) (by rw [List.length_set]; exact n3) (back r3 h2) hv
          · exact p2.elim
        | .ok .nx ρ2 =>
          rw [e2] at p1
          have p2 : PostS f W F E (if noPin (ρ2.set i .no) then .ok .nx (ρ2.set i .no) else .no) := p1
          split at p2
          · rename_i h2
            exact fun σ3 F3 H3 s3 n3 r3 => p2 (σ3.set i none) F3 H3 (s1.trans s3) (by rw [List.length_set]; exact n3) (back r3 h2)
          · exact p2.elim
        | .ok .bk ρ2 =>
          rw [e2] at p1
          have p2 : PostS f W F E (if noPin (ρ2.set i .no) then .ok .bk (ρ2.set i .no) else .no) := p1
          split at p2
          · rename_i h2
            exact fun σ3 F3 H3 s3 n3 r3 => p2 (σ3.set i none) F3 H3 (s1.trans s3) (by rw [List.length_set]; exact n3) (back r3 h2)
          · exact p2.elim
        | .ok .ct ρ2 =>
          rw [e2] at p1
          have p2 : PostS f W F E (if noPin (ρ2.set i .no) then .ok .ct (ρ2.set i .no) else .no) := p1
          split at p2
          · rename_i h2
            exact fun σ3 F3 H3 s3 n3 r3 => p2 (σ3.set i none) F3 H3 (s1.trans s3) (by rw [List.length_set]; exact n3) (back r3 h2)
          · exact p2.elim
      · exact p1.elim
    · rename_i hxc
      split at p1
      · rename_i hlt
        refine ⟨false, by rw [hcls, hex _ hlt, decide_eq_false hxc], (fun z => nomatch z), fun _ => p1 cls d σ1 F1 H1 s1 n1 r1 hx⟩
      · exact p1.elim
end
end Mi
set_option Elab.async false
set_option linter.all false
set_option maxRecDepth 100000
set_option maxHeartbeats 4000000
namespace Mi
open PySem PySem.Spec PyProof.Rows L2 Wk
/-! ### text times int -/
def repS (z : Str) (n : Nat) : Str := ⟨(List.replicate n z.cps).foldl (· ++ ·) #[]⟩
def rMulS : R2 := fun x y H Q => ∃ z n, x = .str z ∧ y = .int n ∧ -(2 ^ 63) ≤ n ∧ n < 2 ^ 63 ∧ z.length * n.toNat ≤ sizeLine ∧ Q (.str (repS z n.toNat)) H
theorem foldl_reps (z : Array CodePoint) : ∀ (n : Nat) (a : Array CodePoint), ((List.replicate n z).foldl (· ++ ·) a).size = a.size + z.size * n
  | 0, a => by simp
  | n + 1, a => by
    rw [List.replicate_succ, List.foldl_cons, foldl_reps z n, Array.size_append, Nat.mul_succ]
    omega
theorem op_mulS {X : Cx} : OpR X (binaryOp .Mult) rMulS := by
  intro pins s σ H x y v u Q I rx ry h
  obtain ⟨z, n, rfl, rfl, h1, h2, h3, q⟩ := h
  obtain ⟨t, rfl⟩ := rx
  obtain ⟨t', rfl⟩ := ry
  have hz : (repS z n.toNat).length = z.length * n.toNat := by
    show ((List.replicate n.toNat z.cps).foldl (· ++ ·) #[]).size = z.cps.size * n.toNat
    rw [foldl_reps]
    simp
  refine PySem.P.mul_str ?_ ?_ ?_ ?_
  · rw [decide_eq_false (by omega), decide_eq_false (by omega)]; rfl
  · intro a b c
    have hn : 1 ≤ n := by omega
    have k1 : z.length * n.toNat ≤ 2 ^ 24 := h3
    have k2 : z.length ≤ z.length * n.toNat := Nat.le_mul_of_pos_right _ (by omega)
    have k3 : ((z.length * n.toNat : Nat) : Int) = (z.length : Int) * n := by
      rw [Int.natCast_mul, Int.toNat_of_nonneg (by omega)]
    have k4 : (z.length : Int) * n ≤ 2 ^ 63 - 1 := by
      rw [← k3]
      omega
    have k5 : (z.length : Int) ≤ (2 ^ 63 - 1) / n := (Int.le_ediv_iff_mul_le (by omega)).mpr k4
    omega
  · intro a b
    show decide (z.length * n.toNat > sizeLine) = false
    exact decide_eq_false (by omega)
  · by_cases c1 : n < 1
    · rw [if_pos c1]
      have e : n.toNat = 0 := by omega
      rw [e] at q
      exact ⟨by decide, .str (repS z 0), H, I.tok _, ⟨_, rfl⟩, q⟩
    · rw [if_neg c1]
      by_cases c2 : (n == 1 || z.length == 0) = true
      · rw [if_pos c2]
        have e : repS z n.toNat = z := by
          rcases Bool.or_eq_true_iff.mp c2 with k | k
          · have : n = 1 := by simpa using k
            subst this
            unfold repS
            simp
          · have k0 : z.length = 0 := by simpa using k
            have : (repS z n.toNat).length = 0 := by rw [hz, k0, Nat.zero_mul]
            obtain ⟨c⟩ := z
            have e1 : c = #[] := Array.eq_empty_of_size_eq_zero k0
            have e2 : (repS ⟨c⟩ n.toNat).cps = #[] := Array.eq_empty_of_size_eq_zero this
            rw [e1] at e2 ⊢
            show (⟨(repS ⟨#[]⟩ n.toNat).cps⟩ : Str) = ⟨#[]⟩
            rw [e2]
        rw [e] at q
        exact ⟨.str z, H, I, ⟨_, rfl⟩, q⟩
      · rw [if_neg c2]
        exact ⟨by show (repS z n.toNat).length ≤ sizeLine; rw [hz]; exact h3, .str (repS z n.toNat), H, I.tok _, ⟨_, rfl⟩, q⟩
def rMulH : R2 := fun x y H Q => rMulG x y H Q ∨ rMulS x y H Q
theorem op_mulH {X : Cx} : OpR X (binaryOp .Mult) rMulH := OpR.or op_mulG op_mulS
def dMulH : D → D → Option D
  | .str z, .int n => if (-(2 ^ 63) ≤ n ∧ n < 2 ^ 63) ∧ z.length * n.toNat ≤ lim then some (.str (repS z n.toNat)) else none
  | a, b => dMul a b
theorem o2_mulH {G : Cf} : Op2 G rMulH dMulH := by
  intro F H x y dx dy d Q s hx hy e c
  unfold dMulH at e
  split at e
  · obtain rfl := pk_str hx; obtain rfl := pk_int hy
    split at e
    · rename_i hl
      cases e
      exact .inr ⟨_, _, rfl, rfl, hl.1.1, hl.1.2, lim_sz hl.2, cont_id s c (.str _)⟩
    · cases e
  · exact .inl (o2_mul F H x y _ _ d Q s hx hy e c)
/-! ### dict(x) -/
def rDictD : List V → Hp → VK → Prop := fun xs H Q => ∃ (a : Addr) (kvs : List (Key × V)), xs = [.ref a] ∧ Rd H a (.dK kvs) ∧ ∀ p, H p = none → Q (.ref p) (upd H p (.dK kvs))
def rDictP (K : PySem.W.Frag) : List V → Hp → VK → Prop := fun xs H Q => ∃ (a : Addr) (ps : List Addr) (kvs : List (Key × V)), xs = [.ref a] ∧ SqL K H a (ps.map V.ref) ∧ Paired (fun p kv => SqT K H p [kV kv.1, kv.2]) ps kvs ∧
    ∀ p, H p = none → Q (.ref p) (upd H p (.dK (mergeK [] kvs)))
def rDictG (K : PySem.W.Frag) : List V → Hp → VK → Prop := fun xs H Q => rDictT K xs H Q ∨ (rDictD xs H Q ∨ rDictP K xs H Q)
theorem call_dictG {X : Cx} {K : PySem.W.Frag} (hK : X.K = K) (hc : X.calm = true) : CallR X (.type "dict") (rDictG K) := by
  subst hK
  exact CallR.or (call_dictT rfl hc) (CallR.or call_dictD (call_dictP hc))
/-- pairs -/
def pairD : D → Option (Key × D)
  | .tup [k, v] => (key k).map fun k => (k, v)
  | .ft [k, v] => (key k).map fun k => (k, v)
  | _ => none
def pairsD : List D → Option (List (Key × D))
  | [] => some []
  | x :: xs => match pairD x, pairsD xs with
    | some p, some ps => some (p :: ps)
    | _, _ => none
def mergeD (kvs more : List (Key × D)) : List (Key × D) := more.foldl (fun acc kv => putD acc kv.1 kv.2) kvs
theorem RepK.merge {G : Cf} {F : Hp} : ∀ {more : List (Key × V)} {ms : List (Key × D)} {vs : List (Key × V)} {ds : List (Key × D)}, RepK G F more ms → RepK G F vs ds → RepK G F (mergeK vs more) (mergeD ds ms)
  | [], _, _, _, r, h => by cases r; exact h
  | (k0, _) :: more, _, _, _, r, h => by
    cases r with
    | cons a r =>
      have k := RepK.merge r (h.put (k := k0) a)
      exact k
theorem rep_pair {G : Cf} {F H : Hp} {v : V} {d : D} {k : Key} {e : D} (s : Same F H) (h : Rep G F v d) (p : pairD d = some (k, e)) : ∃ q u, v = .ref q ∧ SqT G.K H q [kV k, u] ∧ Rep G F u e := by
  have two : ∀ {vs : List V} {a b : D}, Reps G F vs [a, b] → ∃ x y, vs = [x, y] ∧ Rep G F x a ∧ Rep G F y b := fun {vs a b} r => by
    cases r with
    | cons r1 r =>
      cases r with
      | cons r2 r =>
        cases r
        exact ⟨_, _, rfl, r1, r2⟩
  unfold pairD at p
  split at p
  · obtain ⟨k', e1, e2⟩ := Option.map_eq_some_iff.mp p
    cases e2
    cases h with
    | tup g h1 h2 =>
      obtain ⟨x, y, rfl, r1, r2⟩ := two h2
      obtain rfl := rep_key (H := H) (.inl r1) e1
      exact ⟨_, y, rfl, tup_sq (s _ _ h1), r2⟩
  · obtain ⟨k', e1, e2⟩ := Option.map_eq_some_iff.mp p
    cases e2
    cases h with
    | ft h1 h2 =>
      obtain ⟨x, y, rfl, r1, r2⟩ := two h2
      obtain rfl := rep_key (H := H) (.inl r1) e1
      exact ⟨_, y, rfl, same_seqT s h1, r2⟩
  · cases p
theorem reps_pairs {G : Cf} {F H : Hp} (s : Same F H) : ∀ {vs : List V} {ds : List D} {ps : List (Key × D)}, Reps G F vs ds → pairsD ds = some ps → ∃ (qs : List Addr) (kvs : List (Key × V)), vs = qs.map V.ref ∧ Paired (fun p kv => SqT G.K H p [kV kv.1, kv.2]) qs kvs ∧ RepK G F kvs ps
  | _, _, _, .nil, e => by cases e; exact ⟨[], [], rfl, .nil, .nil⟩
  | _, _, _, .cons (d := d) (ds := ds) a r, e => by
    unfold pairsD at e
    split at e
    · rename_i p ps e1 e2
      cases e
      obtain ⟨k, w⟩ := p
      obtain ⟨q, u, rfl, h1, h2⟩ := rep_pair s a e1
      obtain ⟨qs, kvs, rfl, h3, h4⟩ := reps_pairs s r e2
      exact ⟨q :: qs, (k, u) :: kvs, rfl, .cons h1 h3, .cons h2 h4⟩
    · cases e
theorem refs_keyish (qs : List Addr) : keyish (qs.map V.ref) = false := by
  cases qs <;> rfl
section
variable {f : Fr} {W : WX}
def fDict (a : Env → Out (Sum D Nat)) : Env → Out OD := fun ρ => (a ρ).bind fun x ρ1 => match rsv x ρ1 with
  | some (.dk l) => .ok (.dk l) ρ1
  | some (.tup l) => (match pairsD l with
    | some ps => .ok (.dk (mergeD [] ps)) ρ1
    | none => .no)
  | some (.lst l) => (match pairsD l with
    | some ps => .ok (.dk (mergeD [] ps)) ρ1
    | none => .no)
  | _ => .no
theorem sim_fDict {t : TE} {a : Env → Out (Sum D Nat)} (h : SimO f W t a) : SimF f W (tCB (rDictG f.G.K) (tCons t tNil)) (fDict a) := by
  intro F H σ τ ρ Q hn r p
  refine sim_bindF h hn r p fun x ρ1 v F1 H1 s1 r1 h1 p1 => ?_
  split at p1
  · rename_i l e
    obtain ⟨q, vs, rfl, h2, h3⟩ := pk_dk r1.fh (opd_pk r1 h1 e)
    exact .inr (.inl ⟨q, vs, rfl, .inl h2, fun y n => p1 y F1 _ (Same.refl _) (r1.push n (.dk h3))⟩)
  · rename_i l e
    split at p1
    · rename_i ps e2
      have hp := opd_pk r1 h1 e
      rcases hp with hp | ⟨q, ho, o, _, _, _, e3⟩
      · cases hp with
        | tup g h2 h3 =>
          obtain ⟨qs, kvs, rfl, h4, h5⟩ := reps_pairs r1.fh h3 e2
          have h6 := r1.fh _ _ h2
          unfold tupHO at h6
          rw [refs_keyish] at h6
          exact .inl ⟨_, _, qs, kvs, rfl, g, h6, h4, fun y n => p1 y F1 _ (Same.refl _) (r1.push n (.dk (RepK.merge h5 .nil)))⟩
      · cases o <;> cases e3
    · exact p1.elim
  · rename_i l e
    split at p1
    · rename_i ps e2
      obtain ⟨q, vs, rfl, h2, h3⟩ := pk_lst r1.fh (opd_pk r1 h1 e)
      obtain ⟨qs, kvs, rfl, h4, h5⟩ := reps_pairs r1.fh h3 e2
      exact .inr (.inr ⟨q, qs, kvs, rfl, SqL.of h2, h4, fun y n => p1 y F1 _ (Same.refl _) (r1.push n (.dk (RepK.merge h5 .nil)))⟩)
    · exact p1.elim
  · exact p1.elim
/-- d.get(k, x) -/
def mGet2 (a : Env → Out (Sum D Nat)) (mk mx : Env → Out D) : Env → Out D := fun ρ => (a ρ).bind fun x ρ1 => match rsv x ρ1 with
  | some (.dk _) => (mk ρ1).bind fun k ρ2 => (mx ρ2).bind fun z ρ3 => match rsv x ρ3, key k with
    | some (.dk l), some k => .ok ((fget l k).getD z) ρ3
    | _, _ => .no
  | _ => .no
theorem sim_get2 {td ty tx : TE} {a : Env → Out (Sum D Nat)} {mk mx : Env → Out D} (h : SimO f W td a) (hk : SimE f W ty mk) (hx : SimE f W tx mx) : SimE f W (tDGet2 td ty tx) (mGet2 a mk mx) := by
  intro F H σ τ ρ Q hn r p
  refine sim_bind h hn r p fun x ρ1 v F1 H1 s1 r1 h1 p1 => ?_
  split at p1
  · rename_i l0 e0
    obtain ⟨q, vs, rfl, h2, h3⟩ := pk_dk r1.fh (opd_pk r1 h1 e0)
    refine ⟨q, rfl, .inl ⟨vs, .inl h2⟩, ?_⟩
    refine sim_bind hk hn r1 p1 fun k ρ2 y F2 H2 s2 r2 h4 p2 => ?_
    refine sim_bind hx hn r2 p2 fun z ρ3 w F3 H3 s3 r3 h5 p3 => ?_
    split at p3
    · rename_i l k' e3 e4
      obtain ⟨q', ws, e5, h6, h7⟩ := pk_dk r3.fh (opd_pk r3 (opd_same (s2.trans s3) h1) e3)
      cases e5
      obtain rfl := rep_key (H := H3) (.inl h4) e4
      refine ⟨valV ws k', DGet.k h6, ?_⟩
      have h8 := h7.get k'
      split at h8
      · rename_i d e6
        obtain ⟨u, e7, h9⟩ := h8
        rw [e7]
        rw [e6] at p3
        exact p3 _ F3 H3 (Same.refl _) r3 h9
      · rename_i e6
        rw [h8]
        rw [e6] at p3
        exact p3 _ F3 H3 (Same.refl _) r3 h5
    · exact p3.elim
  · exact p1.elim
/-- xs[::-1] -/
def dRev : D → Option (List D)
  | .lst l => some l.reverse
  | .fl l => some l.reverse
  | _ => none
def fRev (a : Env → Out (Sum D Nat)) : Env → Out OD := fun ρ => (a ρ).bind fun x ρ1 => match rsv x ρ1 with
  | some (.lst l) => .ok (.lst l.reverse) ρ1
  | _ => .no
theorem sim_fRev {t : TE} {a : Env → Out (Sum D Nat)} (h : SimO f W t a) : SimF f W (tRevL f.G.K t) (fRev a) := by
  intro F H σ τ ρ Q hn r p
  refine sim_bindF h hn r p fun x ρ1 v F1 H1 s1 r1 h1 p1 => ?_
  split at p1
  · rename_i l e
    obtain ⟨q, vs, rfl, h2, h3⟩ := pk_lst r1.fh (opd_pk r1 h1 e)
    exact ⟨q, vs, rfl, SqL.of h2, fun y n => p1 y F1 _ (Same.refl _) (r1.push n (.lst h3.reverse))⟩
  · exact p1.elim
theorem pe_revG {X : Cx} {K : PySem.W.Frag} {e : Expr} {te : TE} {k : Nat} {p1 p2 p3 pos : Pos} (hK : X.K = K) (he : PE X e te) : PE X (.Subscript e (.Slice none none (some (.UnaryOp .USub (.Constant (.int 1) k p1) p2)) p3) pos) (tRevL K te) := by
  subst hK
  exact pe_revL he
/-! ### zip -/
def zipD : List D → List D → List D
  | x :: xs, y :: ys => .pr [x, y] :: zipD xs ys
  | _, _ => []
theorem zipD_get : ∀ (xs ys : List D) (i : Nat) (d : D), (zipD xs ys)[i]? = some d → ∃ x y, xs[i]? = some x ∧ ys[i]? = some y ∧ d = .pr [x, y]
  | [], _, _, _, h => by simp [zipD] at h
  | _ :: _, [], _, _, h => by simp [zipD] at h
  | x :: xs, y :: ys, 0, d, h => by
    simp only [zipD, List.getElem?_cons_zero, Option.some.injEq] at h
    exact ⟨x, y, rfl, rfl, h.symm⟩
  | x :: xs, y :: ys, i + 1, d, h => by
    simp only [zipD, List.getElem?_cons_succ] at h ⊢
    exact zipD_get xs ys i d h
theorem zipD_len : ∀ (xs ys : List D) (i : Nat), (zipD xs ys).length ≤ i → xs.length ≤ i ∨ ys.length ≤ i
  | [], _, _, _ => .inl (Nat.zero_le _)
  | _ :: _, [], _, _ => .inr (Nat.zero_le _)
  | x :: xs, y :: ys, 0, h => by simp [zipD] at h
  | x :: xs, y :: ys, i + 1, h => by
    simp only [zipD, List.length_cons, Nat.add_le_add_iff_right] at h ⊢
    exact zipD_len xs ys i h
def tupsD : D → Option (List D)
  | .tup l => some l
  | .ft l => some l
  | _ => none
def lstsD : D → Option (List D)
  | .lst l => some l
  | .fl l => some l
  | _ => none
def mZip (a b : Env → Out D) : Env → Out (List D) := fun ρ => (a ρ).bind fun x ρ1 => (b ρ1).bind fun y ρ2 => match tupsD x, tupsD y with
  | some l, some m => .ok (zipD l m) ρ2
  | _, _ => match lstsD x, lstsD y with
    | some l, some m => .ok (zipD l m) ρ2
    | _, _ => .no
theorem rep_tups {G : Cf} {F : Hp} {v : V} {d : D} {l : List D} (h : Rep G F v d) (e : tupsD d = some l) : ∃ a vs, v = .ref a ∧ SqT G.K F a vs ∧ Reps G F vs l := by
  unfold tupsD at e
  split at e
  · cases e
    cases h with
    | tup g h1 h2 => exact ⟨_, _, rfl, tup_sq h1, h2⟩
  · cases e
    cases h with
    | ft h1 h2 => exact ⟨_, _, rfl, h1, h2⟩
  · cases e
theorem rep_lsts {G : Cf} {F : Hp} {v : V} {d : D} {l : List D} (h : Rep G F v d) (e : lstsD d = some l) : ∃ a vs, v = .ref a ∧ SqL G.K F a vs ∧ Reps G F vs l := by
  unfold lstsD at e
  split at e
  · cases e
    cases h with
    | lst h1 h2 => exact ⟨_, _, rfl, SqL.of h1, h2⟩
  · cases e
    cases h with
    | fl h1 h2 => exact ⟨_, _, rfl, h1, h2⟩
  · cases e
theorem itOk_zipT {G : Cf} {F : Hp} {a b : Addr} {vs ws : List V} {ds es : List D} (ha : SqT G.K F a vs) (hb : SqT G.K F b ws) (ra : Reps G F vs ds) (rb : Reps G F ws es) : ItOk G F (RZ.ItzT G.K a b) (zipD ds es) := by
  intro i F1 H1 s1 s2
  have ka : SqT G.K H1 a vs := same_seqT (s1.trans s2) ha
  have kb : SqT G.K H1 b ws := same_seqT (s1.trans s2) hb
  refine ⟨fun d hd => ?_, fun hl => ⟨vs, ws, ka, kb, by rw [ra.length, rb.length]; exact zipD_len ds es i hl⟩⟩
  obtain ⟨x, y, e1, e2, rfl⟩ := zipD_get ds es i d hd
  obtain ⟨v, g1, g2⟩ := ra.get e1
  obtain ⟨u, k1, k2⟩ := rb.get e2
  refine ⟨⟨vs, ws, v, u, ka, kb, g1, k1⟩, fun z H2 hy => ?_⟩
  obtain ⟨T, x', y', rfl, n, rfl, hx, hy⟩ := hy
  have e3 := hx vs ka
  rw [g1] at e3
  cases e3
  have e4 := hy ws kb
  rw [k1] at e4
  cases e4
  have gr := Grow.new (o := .tup [v, u]) s2 n
  exact ⟨_, gr, .pr upd_same (.cons (g2.same (s1.trans gr.ff)) (.cons (k2.same (s1.trans gr.ff)) .nil))⟩
theorem itOk_zipL {G : Cf} {F : Hp} {a b : Addr} {vs ws : List V} {ds es : List D} (ha : SqL G.K F a vs) (hb : SqL G.K F b ws) (ra : Reps G F vs ds) (rb : Reps G F ws es) : ItOk G F (Itz G.K a b) (zipD ds es) := by
  intro i F1 H1 s1 s2
  have ka : SqL G.K H1 a vs := (s1.trans s2).seq ha
  have kb : SqL G.K H1 b ws := (s1.trans s2).seq hb
  refine ⟨fun d hd => ?_, fun hl => ⟨vs, ws, ka, kb, by rw [ra.length, rb.length]; exact zipD_len ds es i hl⟩⟩
  obtain ⟨x, y, e1, e2, rfl⟩ := zipD_get ds es i d hd
  obtain ⟨v, g1, g2⟩ := ra.get e1
  obtain ⟨u, k1, k2⟩ := rb.get e2
  refine ⟨⟨vs, ws, v, u, ka, kb, g1, k1⟩, fun z H2 hy => ?_⟩
  obtain ⟨T, x', y', rfl, n, rfl, hx, hy⟩ := hy
  have e3 := hx vs ka
  rw [g1] at e3
  cases e3
  have e4 := hy ws kb
  rw [k1] at e4
  cases e4
  have gr := Grow.new (o := .tup [v, u]) s2 n
  exact ⟨_, gr, .pr upd_same (.cons (g2.same (s1.trans gr.ff)) (.cons (k2.same (s1.trans gr.ff)) .nil))⟩
theorem pi_zipG {X : Cx} {K : PySem.W.Frag} {e e2 : Expr} {ta : TA} {p pos tpos : Pos} {elts : List Expr} {kk : Nat} (hK : X.K = K) (hg : Gl X "zip") (hm : X.mg "zip" = none) (ha : PA X [e, e2] ta)
    (hs : starEach [e, e2] X.env = (false, eval e X.env) :: starEach [e2] X.env := by rfl) (hpl : (backTo pos (starEach [e2] X.env)).any (·.1) = false := by rfl) :
    PI X (.Tuple elts kk tpos) (.Call (.Name "zip" p) [e, e2] [] pos) (RZ.iZipA K ta) := by
  subst hK
  exact RZ.pi_zipA hg hm ha hs hpl
theorem sim_zip {ta tb : TE} {a b : Env → Out D} (ha : SimE f W ta a) (hb : SimE f W tb b) : SimI f W (RZ.iZipA f.G.K (tCons ta (tCons tb tNil))) (mZip a b) := by
  intro F H σ τ ρ Q hn r p
  refine sim_bind ha hn r p fun x ρ1 v F1 H1 s1 r1 h1 p1 => ?_
  refine sim_bind hb hn r1 p1 fun y ρ2 w F2 H2 s2 r2 h2 p2 => ?_
  split at p2
  · rename_i l m e1 e2
    obtain ⟨a, vs, rfl, g1, g2⟩ := rep_tups (h1.same s2) e1
    obtain ⟨b, ws, rfl, k1, k2⟩ := rep_tups h2 e2
    exact ⟨a, b, vs, ws, rfl, .inr ⟨same_seqT r2.fh g1, same_seqT r2.fh k1, p2 _ F2 H2 (Same.refl _) r2 (itOk_zipT g1 k1 g2 k2)⟩⟩
  · split at p2
    · rename_i l m e1 e2
      obtain ⟨a, vs, rfl, g1, g2⟩ := rep_lsts (h1.same s2) e1
      obtain ⟨b, ws, rfl, k1, k2⟩ := rep_lsts h2 e2
      exact ⟨a, b, vs, ws, rfl, .inl ⟨r2.fh.seq g1, r2.fh.seq k1, p2 _ F2 H2 (Same.refl _) r2 (itOk_zipL g1 k1 g2 k2)⟩⟩
    · exact p2.elim
end
/-! ### sorted(d), d a dict of text keys -/
def leS (a b : Str) : Bool := !decide (b.cps.toList < a.cps.toList)
theorem leS_iff {a b : Str} : leS a b = true ↔ a.cps.toList ≤ b.cps.toList := by
  unfold leS
  rw [Bool.not_eq_true', decide_eq_false_iff_not]
  exact List.not_lt
theorem leS_trans (a b c : Str) (h1 : leS a b = true) (h2 : leS b c = true) : leS a c = true := leS_iff.mpr (List.le_trans (leS_iff.mp h1) (leS_iff.mp h2))
theorem leS_total (a b : Str) : (leS a b || leS b a) = true := by
  rw [Bool.or_eq_true, leS_iff, leS_iff]
  exact List.le_total _ _
theorem leS_anti {a b : Str} (h1 : leS a b = true) (h2 : leS b a = true) : a = b := by
  have e := List.le_antisymm (leS_iff.mp h1) (leS_iff.mp h2)
  obtain ⟨⟨a⟩⟩ := a
  obtain ⟨⟨b⟩⟩ := b
  cases e
  rfl
def insS (x : Str) : List Str → List Str
  | [] => [x]
  | y :: r => if leS x y then x :: y :: r else y :: insS x r
def sortS : List Str → List Str
  | [] => []
  | x :: r => insS x (sortS r)
theorem insS_perm (x : Str) : ∀ l : List Str, (insS x l).Perm (x :: l)
  | [] => .refl _
  | y :: r => by
    unfold insS
    split
    · exact .refl _
    · exact ((insS_perm x r).cons y).trans (.swap x y r)
theorem sortS_perm : ∀ l : List Str, (sortS l).Perm l
  | [] => .refl _
  | x :: r => (insS_perm x (sortS r)).trans ((sortS_perm r).cons x)
theorem insS_pw (x : Str) : ∀ l : List Str, l.Pairwise (fun a b => leS a b = true) → (insS x l).Pairwise (fun a b => leS a b = true)
  | [], _ => by simp [insS]
  | y :: r, h => by
    obtain ⟨h1, h2⟩ := List.pairwise_cons.mp h
    unfold insS
    split
    · rename_i e
      refine List.pairwise_cons.mpr ⟨fun z hz => ?_, h⟩
      rcases List.mem_cons.mp hz with rfl | hz
      · exact e
      · exact leS_trans _ _ _ e (h1 z hz)
    · rename_i e
      have yx : leS y x = true := by
        have := leS_total x y
        rw [Bool.or_eq_true] at this
        rcases this with q | q
        · exact absurd q e
        · exact q
      refine List.pairwise_cons.mpr ⟨fun z hz => ?_, insS_pw x r h2⟩
      rcases List.mem_cons.mp ((insS_perm x r).mem_iff.mp hz) with rfl | hz
      · exact yx
      · exact h1 z hz
theorem rising_pw : ∀ (x : Str) (r : List Str), risingS x r = true → (x :: r).Pairwise (fun a b => leS a b = true)
  | x, [], _ => by simp
  | x, y :: r, h => by
    unfold risingS at h
    rw [Bool.and_eq_true] at h
    have ih := rising_pw y r h.2
    have hxy : leS x y = true := by
      have := h.1
      rw [ltCps_eq] at this
      exact this
    refine List.pairwise_cons.mpr ⟨fun z hz => ?_, ih⟩
    rcases List.mem_cons.mp hz with rfl | hz
    · exact hxy
    · exact leS_trans _ _ _ hxy (List.rel_of_pairwise_cons ih hz)
theorem sortedS_pw : ∀ {l : List Str}, sortedS l = true → l.Pairwise (fun a b => leS a b = true)
  | [], _ => .nil
  | x :: r, h => rising_pw x r h
theorem sortS_pw : ∀ l : List Str, (sortS l).Pairwise (fun a b => leS a b = true)
  | [] => .nil
  | x :: r => insS_pw x _ (sortS_pw r)
theorem sortS_uniq {ys ks : List Str} (h1 : ys.Perm ks) (h2 : sortedS ys = true) : ys = sortS ks :=
  List.Perm.eq_of_pairwise (le := fun a b => leS a b = true) (fun _ _ _ _ => leS_anti) (sortedS_pw h2) (sortS_pw ks) (h1.trans (sortS_perm ks).symm)
def strKeys : List (Key × D) → Option (List Str)
  | [] => some []
  | (.inr z, _) :: r => (strKeys r).map (z :: ·)
  | (.inl _, _) :: _ => none
def rSortedD : List V → Hp → VK → Prop := fun xs H Q => ∃ (a : Addr) (kvs : List (Key × V)) (ks : List Str), xs = [.ref a] ∧ Rd H a (.dK kvs) ∧ kvs.map (·.1) = ks.map Sum.inr ∧ ks.length < 64 ∧
    ∀ ys p, ys.Perm ks → sortedS ys = true → H p = none → Q (.ref p) (upd H p (.lst (ys.map V.str)))
theorem call_sortedG {X : Cx} (hc : X.calm = true) : CallR X (.builtin "sorted") rSortedD := call_sortedD hc
theorem strKeys_rep {G : Cf} {F : Hp} : ∀ {vs : List (Key × V)} {ds : List (Key × D)} {ks : List Str}, RepK G F vs ds → strKeys ds = some ks → vs.map (·.1) = ks.map Sum.inr
  | _, _, _, .nil, e => by cases e; rfl
  | _, _, _, .cons (k := k) a h, e => by
    cases k with
    | inl i => cases e
    | inr z =>
      obtain ⟨ks, e1, rfl⟩ := Option.map_eq_some_iff.mp e
      rw [List.map_cons, List.map_cons, strKeys_rep h e1]
theorem reps_ofStrs {G : Cf} {F : Hp} : ∀ l : List Str, Reps G F (l.map V.str) (l.map D.str)
  | [] => .nil
  | z :: l => .cons (.str z) (reps_ofStrs l)
section
variable {f : Fr} {W : WX}
def fSorted (a : Env → Out (Sum D Nat)) : Env → Out OD := fun ρ => (a ρ).bind fun x ρ1 => match rsv x ρ1 with
  | some (.dk l) => (match strKeys l with
    | some ks => if ks.length < 64 then .ok (.lst ((sortS ks).map D.str)) ρ1 else .no
    | none => .no)
  | _ => .no
theorem sim_fSorted {t : TE} {a : Env → Out (Sum D Nat)} (h : SimO f W t a) : SimF f W (tCB rSortedD (tCons t tNil)) (fSorted a) := by
  intro F H σ τ ρ Q hn r p
  refine sim_bindF h hn r p fun x ρ1 v F1 H1 s1 r1 h1 p1 => ?_
  split at p1
  · rename_i l e
    split at p1
    · rename_i ks e2
      split at p1
      · rename_i hl
        obtain ⟨q, vs, rfl, h2, h3⟩ := pk_dk r1.fh (opd_pk r1 h1 e)
        refine ⟨q, vs, ks, rfl, .inl h2, strKeys_rep h3 e2, hl, fun ys y hp hs n => ?_⟩
        rw [sortS_uniq hp hs]
        exact p1 y F1 _ (Same.refl _) (r1.push n (.lst (reps_ofStrs _)))
      · exact p1.elim
    · exact p1.elim
  · exact p1.elim
end
/-! ### dict comprehensions -/
section
variable {f : Fr} {W : WX}
def dcL (L : Nat) (vs : List Nat) (mg : D → Env → Option Env) (mt : Env → Out Bool) (mk me : Env → Out D) : List D → Env → Out Unit
  | [], ρ => .ok () ρ
  | d :: ds, ρ => match mg d (hide ρ vs) with
    | none => .no
    | some ρ1 => match mt ρ1 with
      | .ok true ρ2 => (match mk ρ2 with
        | .ok x ρ3 => (match me ρ3 with
          | .ok y ρ4 => (match ρ4[L]?, key x with
            | some (.own (.dk acc)), some k => if acc.length < lim then dcL L vs mg mt mk me ds (ρ4.set L (.own (.dk (putD acc k y)))) else .no
            | _, _ => .no)
          | _ => .no)
        | _ => .no)
      | .ok false ρ2 => dcL L vs mg mt mk me ds ρ2
      | _ => .no
def fDc (vs : List Nat) (mi : Env → Out (List D)) (mg : D → Env → Option Env) (mt : Env → Out Bool) (mk me : Env → Out D) : Env → Out OD := fun ρ => (mi ρ).bind fun ds ρ1 =>
  if plainAt ρ1 vs then lcEnd ρ1.length vs ρ1 (dcL ρ1.length vs mg mt mk me ds (ρ1 ++ [.own (.dk [])])) else .no
theorem sim_fDc {wi : TI} {g : TG} {tt : TT} {tk te : TE} {vs : List Nat} {mi : Env → Out (List D)} {mg : D → Env → Option Env} {mt : Env → Out Bool} {mk me : Env → Out D} (hvb : (vs.all fun v => Nat.blt v f.n) = true) (hi : SimI f W wi mi) (hg : SimG f vs g mg) (ht : SimT f W0 tt mt) (hk : SimE f W0 tk mk) (he : SimE f W0 te me) :
    SimF f W (tDc wi g tt tk te vs) (fDc vs mi mg mt mk me) := by
  intro F H σ τ ρ Q hn r p
  have hv : ∀ v ∈ vs, v < f.n := fun v h => Nat.le_of_ble_eq_true (List.all_eq_true.mp hvb v h)
  refine sim_bindF hi hn r p fun ds ρ1 J F1 H1 s1 r1 hJ p1 => ?_
  split at p1
  · rename_i hp
    intro D hD
    have hvσ : ∀ v ∈ vs, v < σ.length := fun v h => by rw [hn]; exact hv v h
    have hL : (σ ++ τ).length = ρ1.length := r1.len
    refine ⟨fun i m H' => ∃ F' ρ' σ', m = ds.length - i ∧ i ≤ ds.length ∧ Same F1 F' ∧ σ'.length = f.n ∧ wipe σ' vs = wipe σ vs ∧ Rel f F' H' (σ' ++ (τ ++ [some (.ref D)])) ρ' ∧ PostF f W F' σ τ Q (lcEnd ρ1.length vs ρ1 (dcL ρ1.length vs mg mt mk me (ds.drop i) ρ')),
      ⟨_, F1, ρ1 ++ [.own (.dk [])], σ, rfl, Nat.zero_le _, Same.refl _, hn, rfl, ?_, by rw [List.drop_zero]; exact p1⟩, ?_⟩
    · rw [← List.append_assoc]
      exact r1.push hD (.dk .nil)
    rintro i m H2 ⟨F2, ρ2, σ2, rfl, hi2, s2, n2, w2, r2, p2⟩
    have len2 : ρ2.length = ρ1.length + 1 := by
      have h1 := r2.len
      rw [List.length_append, List.length_append] at h1
      rw [List.length_append] at hL
      simp at h1
      omega
    have atL : ∀ σ' : L2.St, σ'.length = f.n → (σ' ++ (τ ++ [some (.ref D)]))[ρ1.length]? = some (some (.ref D)) := fun σ' h => by
      rw [← List.append_assoc]
      have h1 : ρ1.length = (σ' ++ τ).length := by rw [← hL, List.length_append, List.length_append, hn, h]
      rw [h1]
      exact List.getElem?_concat_length
    by_cases hlt : i < ds.length
    · right
      have hd : ds[i]? = some ds[i] := List.getElem?_eq_getElem hlt
      obtain ⟨go, yl⟩ := (hJ i F2 H2 s2 r2.fh).1 _ hd
      rw [List.drop_eq_getElem_cons hlt, dcL] at p2
      cases e1 : mg ds[i] (hide ρ2 vs) with
      | none => rw [e1] at p2; exact p2.elim
      | some ρ3 =>
        rw [e1] at p2
        refine ⟨go, fun H' => ∃ F' ρ' σ', Same F1 F' ∧ σ'.length = f.n ∧ wipe σ' vs = wipe σ vs ∧ Rel f F' H' (σ' ++ (τ ++ [some (.ref D)])) ρ' ∧ PostF f W F' σ τ Q (lcEnd ρ1.length vs ρ1 (dcL ρ1.length vs mg mt mk me (ds.drop (i + 1)) ρ')), fun H' ⟨F', ρ', σ', a1, a2, a3, a4, a5⟩ => ⟨ds.length - (i + 1), by omega, F', ρ', σ', rfl, hlt, a1, a2, a3, a4, a5⟩, fun x H3 hy => ?_⟩
        obtain ⟨F3, g3, h3⟩ := yl x H3 hy
        have rh := (r2.hide vs (fun v h => by rw [n2]; exact hv v h)).grow g3
        rw [w2] at rh
        refine hg F3 H3 (wipe σ vs) _ (hide ρ2 vs) x _ ρ3 _ (by rw [wipe_length]; exact hn) rh h3 e1 fun σ4 n4 w4 r4 => ?_
        rw [wipe_wipe] at w4
        refine ⟨w4, ?_⟩
        generalize hdd : ds.drop (i + 1) = dd at p2 ⊢
        have p3 := PostF.weak g3.ff p2
        refine ht F3 H3 σ4 _ ρ3 _ n4 r4 ?_
        cases e2 : mt ρ3 with
        | no => simp only [e2] at p3; exact p3.elim
        | err x ρ4 => simp only [e2] at p3; exact p3.elim
        | ok b ρ4 =>
          intro b' F5 H5 s5 r5 hb
          subst hb
          cases b' with
          | false =>
            simp only [e2] at p3
            exact iteF ⟨F5, ρ4, σ4, (s2.trans g3.ff).trans s5, n4, w4, r5, PostF.weak s5 p3⟩
          | true =>
            simp only [e2] at p3
            refine iteT (hk F5 H5 σ4 _ ρ4 _ n4 r5 ?_)
            cases e3 : mk ρ4 with
            | no => simp only [e3] at p3; exact p3.elim
            | err x ρ5 => simp only [e3] at p3; exact p3.elim
            | ok xk ρ5 =>
              simp only [e3] at p3
              intro kv F6 H6 s6 r6 h6
              refine he F6 H6 σ4 _ ρ5 _ n4 r6 ?_
              cases e4 : me ρ5 with
              | no => simp only [e4] at p3; exact p3.elim
              | err x ρ6 => simp only [e4] at p3; exact p3.elim
              | ok y ρ6 =>
                simp only [e4] at p3
                intro v F7 H7 s7 r7 h7
                split at p3
                · rename_i acc k e5 e6
                  split at p3
                  · rename_i hl
                    obtain ⟨oc, q, ws, k1, k2, k3⟩ := odk_rel r7 e5 rfl
                    have hq : q = D := by
                      rw [atL σ4 n4] at k1
                      cases k1
                      rfl
                    subst hq
                    obtain rfl := rep_key (H := H6) (.inl h6) e6
                    exact ⟨ws, k, rfl, k2, sz_lt (by rw [k3.length]; exact hl), F7, _, σ4, (((s2.trans g3.ff).trans s5).trans s6).trans s7, n4, w4, r7.upd e5 oc k1 (.dk (k3.put h7)), PostF.weak ((s5.trans s6).trans s7) p3⟩
                  · exact p3.elim
                · exact p3.elim
    · left
      have e : i = ds.length := by omega
      subst e
      rw [List.drop_length, dcL] at p2
      refine ⟨(hJ _ F2 H2 s2 r2.fh).2 (Nat.le_refl _), ?_⟩
      have p3 : PostF f W F2 σ τ Q (match ρ2[ρ1.length]? with
        | some (.own o) => .ok o (resto ρ1 (ρ2.take ρ1.length) vs)
        | _ => .no) := p2
      split at p3
      · rename_i o e4
        refine p3 D F2 H2 (Same.refl _) ?_
        have rr := Rel.resto r1 r2 s2 (n2.trans hn.symm) w2 hvσ hp
        have e5 : ρ2 = ρ2.take ρ1.length ++ [.own o] := by
          obtain ⟨h1, h2⟩ := List.getElem?_eq_some_iff.mp e4
          have h3 : ρ2 = ρ2.take ρ1.length ++ ρ2.drop ρ1.length := (List.take_append_drop _ _).symm
          have h4 : ρ2.drop ρ1.length = [.own o] := by
            rw [List.drop_eq_getElem_cons h1, h2, List.drop_of_length_le (by omega)]
          rw [h4] at h3
          exact h3
        rw [e5, resto_app vs (fun v h => by
          have h1 := hvσ v h
          rw [List.length_take]
          rw [List.length_append] at hL
          omega)] at rr
        rw [List.append_assoc]
        exact rr
      · exact p3.elim
  · exact p1.elim
end
end Mi
set_option Elab.async false
set_option linter.all false
set_option maxRecDepth 100000
set_option maxHeartbeats 4000000
namespace Mi
open PySem PySem.Spec PyProof.Rows L2 Wk
/-! ### == of dicts -/
theorem hw_of {k : Nat} {A : Around} (r : Room k A) : A.units + 65 < cLine := by have := r.un; omega
def lookD (es : List (Key × PyData)) (k : Key) : Option PyData := (es.find? fun kv => decide (kv.1 = k)).map (·.2)
def eqK (ds es : List (Key × PyData)) : Bool := ds.length == es.length && ds.all fun kd => match lookD es kd.1 with
  | none => false
  | some e => PyData.eqv kd.2 e
inductive DpK (K : PySem.W.Frag) (H : Hp) : List (Key × V) → List (Key × PyData) → Prop
  | nil : DpK K H [] []
  | cons {k : Key} {v : V} {d : PyData} {vs : List (Key × V)} {ds : List (Key × PyData)} : Dp K H v d → SeqAt.shaped d = true → DpK K H vs ds → DpK K H ((k, v) :: vs) ((k, d) :: ds)
theorem DpK.length {K : PySem.W.Frag} {H : Hp} : ∀ {vs : List (Key × V)} {ds : List (Key × PyData)}, DpK K H vs ds → vs.length = ds.length
  | _, _, .nil => rfl
  | _, _, .cons _ _ h => by rw [List.length_cons, List.length_cons, h.length]
theorem DpK.look {K : PySem.W.Frag} {H : Hp} (k : Key) : ∀ {vs : List (Key × V)} {ds : List (Key × PyData)}, DpK K H vs ds → match lookD ds k with
    | some d => ∃ v, valV vs k = some v ∧ Dp K H v d ∧ SeqAt.shaped d = true
    | none => valV vs k = none
  | _, _, .nil => rfl
  | _, _, .cons (k := k') a b h => by
    unfold lookD valV
    simp only [List.find?_cons]
    by_cases e : k' = k
    · simp only [e, decide_true, Option.map_some]
      exact ⟨_, rfl, a, b⟩
    · simp only [e, decide_false]
      exact DpK.look k h
theorem dpk_hits {X : Cx} {pins : List (Addr × Obj)} {σ : L2.St} {H : Hp} {s : Shared} {A : Around} (I : Inv X pins σ H s) (hu : A.units + 64 < cLine) {ls : List (Key × V)} {es : List (Key × PyData)} {vb : List (Key × Value)} (hb : DpK X.K H ls es) (rb : KV ls vb) :
    ∀ {ks : List (Key × V)} {ds : List (Key × PyData)} {va : List (Key × Value)}, DpK X.K H ks ds → KV ks va → PySem.W.KeqHits A s vb va (ds.all fun kd => match lookD es kd.1 with
      | none => false
      | some e => PyData.eqv kd.2 e) := by
  intro ks ds va h
  induction h generalizing va with
  | nil => intro ra; cases ra; exact .nil
  | @cons k v d vs ds a b h ih =>
    intro ra
    cases ra with
    | @cons p q ps qs h1 t =>
      obtain ⟨k', u⟩ := q
      obtain ⟨h1, h2⟩ := h1
      have h1' : k = k' := h1
      subst h1'
      rw [List.all_cons]
      have hl := hb.look k
      have rr : RelO (valV ls k) (valueAt vb k) := rb.val k
      cases e : lookD es k with
      | none =>
        rw [e] at hl
        have hl : valV ls k = none := hl
        rw [hl] at rr
        refine .miss ?_
        cases hv : valueAt vb k with
        | none => rfl
        | some y => rw [hv] at rr; exact rr.elim
      | some d' =>
        rw [e] at hl
        obtain ⟨w, e1, e2, e3⟩ := hl
        rw [e1] at rr
        obtain ⟨y, hy, ry⟩ := rr.some_of
        obtain ⟨as, r1⟩ := Dp.reads I d v u a h2
        obtain ⟨bs, r2⟩ := Dp.reads I d' w y e2 ry
        exact .hit hy (SeqAt.eqAt_reads d d' A s u y as bs r1 r2 (SeqAt.canLay_of_shaped b) (SeqAt.canLay_of_shaped e3) (SeqAt.room_of_shaped b hu)) (ih t)
def rDkEq (K : PySem.W.Frag) (neg : Bool) : R2 := fun x y H Q => ∃ a b ks ls ds es, x = .ref a ∧ y = .ref b ∧ H a = some (.dK ks) ∧ H b = some (.dK ls) ∧ DpK K H ks ds ∧ DpK K H ls es ∧ Q (.bl (if neg then !eqK ds es else eqK ds es)) H
theorem op_dkEq {X : Cx} (hu : X.A.units + 65 < cLine) : OpR X (compareOp .Eq) (rDkEq X.K false) := by
  intro pins s σ H x y v u Q I rx ry h
  obtain ⟨a, b, ks, ls, ds, es, rfl, rfl, ea, eb, h1, h2, q⟩ := h
  obtain rfl : v = Value.ref a := rx
  obtain rfl : u = Value.ref b := ry
  obtain ⟨_, ya, va, ra, da⟩ := (show ObjOk X.prog X.w H s.heap a (.dK ks) from I.hok a _ ea)
  obtain ⟨_, yb, vb, rb, db⟩ := (show ObjOk X.prog X.w H s.heap b (.dK ls) from I.hok b _ eb)
  refine PySem.W.keq_eq (knd := mixKind X.prog X.w) ya yb da db (by omega) (fun _ => dpk_hits I (A := X.A.in1) (by show X.A.units + 1 + 64 < cLine; omega) h2 rb h1 ra) ?_
  refine ⟨.bl (eqK ds es), H, I, ?_, q⟩
  unfold eqK
  rw [← ra.length, ← rb.length, h1.length, h2.length]
  rfl
theorem op_dkNe {X : Cx} (hu : X.A.units + 65 < cLine) : OpR X (compareOp .NotEq) (rDkEq X.K true) := by
  intro pins s σ H x y v u Q I rx ry h
  obtain ⟨a, b, ks, ls, ds, es, rfl, rfl, ea, eb, h1, h2, q⟩ := h
  obtain rfl : v = Value.ref a := rx
  obtain rfl : u = Value.ref b := ry
  obtain ⟨_, ya, va, ra, da⟩ := (show ObjOk X.prog X.w H s.heap a (.dK ks) from I.hok a _ ea)
  obtain ⟨_, yb, vb, rb, db⟩ := (show ObjOk X.prog X.w H s.heap b (.dK ls) from I.hok b _ eb)
  refine PySem.W.keq_ne (knd := mixKind X.prog X.w) ya yb da db (by omega) (fun _ => dpk_hits I (A := X.A.in1) (by show X.A.units + 1 + 64 < cLine; omega) h2 rb h1 ra) ?_
  refine ⟨.bl (!eqK ds es), H, I, ?_, q⟩
  unfold eqK
  rw [← ra.length, ← rb.length, h1.length, h2.length]
  rfl
def pyk : List (Key × D) → Option (List (Key × PyData))
  | [] => some []
  | (k, d) :: r => match py d, pyk r with
    | some x, some xs => if SeqAt.shaped x then some ((k, x) :: xs) else none
    | _, _ => none
theorem pyk_dp {G : Cf} {F H : Hp} (s : Same F H) : ∀ {vs : List (Key × V)} {ds : List (Key × D)} {xs : List (Key × PyData)}, RepK G F vs ds → pyk ds = some xs → DpK G.K H vs xs
  | _, _, _, .nil, e => by cases e; exact .nil
  | _, _, _, .cons a h, e => by
    unfold pyk at e
    split at e
    · rename_i x xs e1 e2
      split at e
      · rename_i e3
        cases e
        exact .cons (Pk.dp s (.inl a) e1) e3 (pyk_dp s h e2)
      · cases e
    · cases e
def rEqH (K : PySem.W.Frag) : R2 := fun x y H Q => rEqG K x y H Q ∨ rDkEq K false x y H Q
def rNeH (K : PySem.W.Frag) : R2 := fun x y H Q => rNeG K x y H Q ∨ rDkEq K true x y H Q
theorem op_eqH {X : Cx} {K : PySem.W.Frag} (hK : X.K = K) (hu' : X.A.units + 65 < cLine) : OpR X (compareOp .Eq) (rEqH K) := by
  subst hK
  exact OpR.or (op_eqG rfl (by omega)) (op_dkEq hu')
theorem op_neH {X : Cx} {K : PySem.W.Frag} (hK : X.K = K) (hu' : X.A.units + 65 < cLine) : OpR X (compareOp .NotEq) (rNeH K) := by
  subst hK
  exact OpR.or (op_neG rfl (by omega)) (op_dkNe hu')
def eqH (a b : D) : Option Bool := match a, b with
  | .dk l, .dk m => (match pyk l, pyk m with
    | some x, some y => some (eqK x y)
    | _, _ => none)
  | a, b => eqB a b
def dEqH (a b : D) : Option D := (eqH a b).map .bl
def dNeH (a b : D) : Option D := (eqH a b).map fun r => .bl (!r)
theorem eqH_core {G : Cf} {F H : Hp} {x y : V} {l m : List (Key × D)} {r : Bool} {neg : Bool} {Q : VK} (s : Same F H) (hx : Pk G F H x (.dk l)) (hy : Pk G F H y (.dk m)) (e : (match pyk l, pyk m with
    | some x, some y => some (eqK x y)
    | _, _ => none) = some r) (q : Q (.bl (if neg then !r else r)) H) : rDkEq G.K neg x y H Q := by
  split at e
  · rename_i a b e1 e2
    cases e
    obtain ⟨p, vs, rfl, h1, h2⟩ := pk_dk s hx
    obtain ⟨p', ws, rfl, h3, h4⟩ := pk_dk s hy
    exact ⟨p, p', vs, ws, a, b, rfl, rfl, h1, h3, pyk_dp s h2 e1, pyk_dp s h4 e2, q⟩
  · cases e
theorem o2_eqH {G : Cf} : Op2 G (rEqH G.K) dEqH := by
  intro F H x y dx dy d Q s hx hy e c
  unfold dEqH at e
  obtain ⟨r, e1, rfl⟩ := Option.map_eq_some_iff.mp e
  unfold eqH at e1
  split at e1
  · exact .inr (eqH_core (neg := false) s hx hy e1 (cont_id s c (.bl _)))
  · exact .inl (o2_eq F H x y _ _ _ Q s hx hy (by unfold dEq; rw [e1]; rfl) c)
theorem o2_neH {G : Cf} : Op2 G (rNeH G.K) dNeH := by
  intro F H x y dx dy d Q s hx hy e c
  unfold dNeH at e
  obtain ⟨r, e1, rfl⟩ := Option.map_eq_some_iff.mp e
  unfold eqH at e1
  split at e1
  · exact .inr (eqH_core (neg := true) s hx hy e1 (cont_id s c (.bl _)))
  · exact .inl (o2_ne F H x y _ _ _ Q s hx hy (by unfold dNe; rw [e1]; rfl) c)
end Mi
set_option Elab.async false
set_option linter.all false
set_option maxRecDepth 100000
set_option maxHeartbeats 4000000
namespace Mi
open PySem PySem.Spec PyProof.Rows L2 Wk
/-! ### the ends -/
theorem spm_no {G : Cf} {n : Nat} {vs : List V} {H : Hp} {Q : VK} {E : XK} (h : SpM G n (fun _ => .no) vs H Q E) : False := by
  obtain ⟨_, _, _, _, _, p⟩ := h
  exact p
theorem fn_vac {P : Program} {w : World} {K : PySem.W.Frag} {mg : Str → Option Value} {base : Heap} {CX : CXT} {k : Nat} {f : Addr} {fd : FuncData} {ps : List Str} {G : Cf} {n : Nat} {fn : Fn} (e : fn = fun _ => .no) : FnG P w K mg base CX k f fd ps (SpM G n fn) := by
  subst e
  exact ⟨fun _ _ _ _ h => (spm_no h).elim, fun _ _ _ _ _ _ _ _ _ _ _ _ _ _ h => (spm_no h).elim⟩
/-- the law's promise: of a script of at most 63 ints the answer is True -/
def sp_law (K : PySem.W.Frag) : Sp := fun vs H Q _ => ∃ (a : Addr) (ns : List Int), vs = [.ref a] ∧ SqL K H a (ns.map V.int) ∧ ns.length ≤ 63 ∧ ∀ H', Q (.bl true) H'
def scr (ns : List Int) : Cell := .val (.fl (ns.map D.int))
theorem reps_ints {G : Cf} {F : Hp} : ∀ ns : List Int, Reps G F (ns.map V.int) (ns.map D.int)
  | [] => .nil
  | n :: ns => .cons (.int n) (reps_ints ns)
theorem fn_law {P : Program} {w : World} {K : PySem.W.Frag} {mg : Str → Option Value} {base : Heap} {CX : CXT} {k : Nat} {f : Addr} {fd : FuncData} {x : Str} {G : Cf} {fn : Fn} (hK : G.K = K) (F : FnG P w K mg base CX k f fd [x] (SpM G 1 fn)) (h : ∀ ns : List Int, ns.length ≤ 63 → ∃ cs, fn [scr ns] = .ok (.bl true) cs) :
    FnG P w K mg base CX k f fd [x] (sp_law K) := by
  subst hK
  refine ⟨fun vs H Q E ⟨a, ns, e, _⟩ => by rw [e]; rfl, fun A outer s H args us vs Q E hr hg e0 hb hv ⟨a, ns, ev, hs, hl, hq⟩ => ?_⟩
  refine F.run A outer s H args us vs Q E hr hg e0 hb hv ?_
  subst ev
  obtain ⟨cs, ec⟩ := h ns hl
  refine ⟨rfl, H, [scr ns], ⟨Same.refl H, Same.refl H, fun b _ _ => ⟨rfl, rfl⟩, rfl, fun i c e => ?_, fun i j c e p e1 e2 o1 o2 => ?_⟩, rfl, ?_⟩
  · match i, e with
    | 0, e =>
      cases e
      exact ⟨_, rfl, .fl hs (reps_ints ns)⟩
    | i + 1, e => simp at e
  · match i, e1 with
    | 0, e1 =>
      cases e1
      cases o1
    | i + 1, e1 => simp at e1
  · rw [ec]
    intro v F' H' _ hr
    cases hr
    exact hq H'
theorem sp_law_end {K : PySem.W.Frag} {H : Hp} {a : Addr} {ns : List Int} (hl : ns.length ≤ 63) (hs : SqL K H a (ns.map V.int)) : sp_law K [.ref a] H (fun v _ => v = .bl true) fun _ _ _ => False := ⟨a, ns, rfl, hs, hl, fun _ => rfl⟩
theorem cx_end {P : Program} {w : World} {o : List PySem.Env} {H : Hp} {s : Shared} {e : Value} {s' : Shared} (h : L2.CX P w o H s (fun _ _ _ => False) e s') : False := by
  obtain ⟨_, _, _, _, _, _, _, _, _, _, _, _, k⟩ := h
  exact k
end Mi
set_option Elab.async false
set_option linter.all false
set_option maxRecDepth 100000
set_option maxHeartbeats 4000000
namespace Mi
open PySem PySem.Spec PyProof.Rows L2 Wk
/-! ### defs that give a new object, which the caller may change -/
section
variable {f : Fr} {W : WX}
theorem Rel.addOwn {F H : Hp} {σ : L2.St} {ρ : Env} {p : Addr} {ho : HO} {o : OD} (r : Rel f F H σ ρ) (h1 : H p = some ho) (h2 : F p = none) (h3 : RepO f.G F ho o) (h4 : f.H0 p = none ∨ p ∈ f.ex) (h5 : ∀ (i : Nat) (c : Cell), ρ[i]? = some c → c.owned = true → σ[i]? ≠ some (some (.ref p))) :
    Rel f F H (σ ++ [some (.ref p)]) (ρ ++ [.own o]) := by
  have lt : ∀ {l : Nat} {c : Cell}, (ρ ++ [.own o])[l]? = some c → (l < ρ.length ∧ ρ[l]? = some c) ∨ (l = ρ.length ∧ c = .own o) := fun {l c} h1 => by
    by_cases z : l < ρ.length
    · rw [List.getElem?_append_left z] at h1
      exact .inl ⟨z, h1⟩
    · have zl : l = ρ.length := by
        have := (List.getElem?_eq_some_iff.mp h1).1
        rw [List.length_append] at this
        simp at this
        omega
      subst zl
      rw [List.getElem?_concat_length] at h1
      cases h1
      exact .inr ⟨rfl, rfl⟩
  have lo : ∀ {l : Nat}, l < ρ.length → (σ ++ [some (.ref p)])[l]? = σ[l]? := fun {l} z => List.getElem?_append_left (by rw [r.len]; exact z)
  have hi : (σ ++ [some (V.ref p)])[ρ.length]? = some (some (.ref p)) := by rw [← r.len]; exact List.getElem?_concat_length
  refine ⟨r.fh, r.f0, r.out, by rw [List.length_append, List.length_append, r.len]; rfl, fun j c e => ?_, fun j k c c' q e1 e2 o1 o2 e3 e4 => ?_⟩
  · rcases lt e with ⟨z, e⟩ | ⟨rfl, rfl⟩
    · rw [lo z]
      exact r.cell j c e
    · rw [hi]
      exact ⟨p, ho, rfl, h1, h2, h3, h4⟩
  · rcases lt e1 with ⟨z1, e1⟩ | ⟨rfl, rfl⟩
    · rw [lo z1] at e3
      rcases lt e2 with ⟨z2, e2⟩ | ⟨rfl, rfl⟩
      · rw [lo z2] at e4
        exact r.sep j k c c' q e1 e2 o1 o2 e3 e4
      · rw [hi] at e4
        cases e4
        exact absurd e3 (h5 j c e1 o1)
    · rw [hi] at e3
      cases e3
      rcases lt e2 with ⟨z2, e2⟩ | ⟨rfl, rfl⟩
      · rw [lo z2] at e4
        exact absurd e4 (h5 k c' e2 o2)
      · rfl
end
abbrev FnF := List Cell → Out OD
def PostCF (G : Cf) (vs : List V) (cs : List Cell) (F H : Hp) (Q : VK) (E : XK) : Out OD → Prop
  | .no => False
  | .ok o cs' => ∀ p F' H', Rel (fr G 0 vs cs F H) F' H' (vs.map some ++ [some (.ref p)]) (cs' ++ [.own o]) → Q (.ref p) H'
  | .err x cs' => ∀ cls dd F' H', Rel (fr G 0 vs cs F H) F' H' (vs.map some) cs' → XRel G F' x cls dd → E cls dd H'
def SpMF (G : Cf) (n : Nat) (fn : FnF) : Sp := fun vs H Q E => vs.length = n ∧ ∃ F cs, Rel (fr G 0 vs cs F H) F H (vs.map some) cs ∧ cs.all argC = true ∧ PostCF G vs cs F H Q E (fn cs)
section
variable {f : Fr} {W : WX}
/-- statements that end by giving a new object -/
def PostSF (f : Fr) (W : WX) (F : Hp) (E : Ends) : Out OD → Prop
  | .no => False
  | .ok o ρ => ∀ p σ F' H', Same F F' → σ.length = f.n → Rel f F' H' (σ ++ [some (.ref p)]) (ρ ++ [.own o]) → E.rt (.ref p) H'
  | .err x ρ => ∀ cls d σ F' H', Same F F' → σ.length = f.n → Rel f F' H' σ ρ → XRel f.G F' x cls d → W cls d σ H'
def SimSF (f : Fr) (W : WX) (t : TS) (m : Env → Out OD) : Prop := ∀ F H σ ρ E, σ.length = f.n → Rel f F H σ ρ → PostSF f W F E (m ρ) → t E σ H
theorem PostSF.weak {F F1 : Hp} {E : Ends} {o : Out OD} (e : Same F F1) (h : PostSF f W F E o) : PostSF f W F1 E o := by
  cases o with
  | no => exact h
  | ok a ρ => exact fun p σ F' H' s => h p σ F' H' (e.trans s)
  | err x ρ => exact fun cls d σ F' H' s => h cls d σ F' H' (e.trans s)
theorem sim_retF {t : TE} {m : Env → Out OD} (h : SimF f W t m) : SimSF f W (tRet t) m := by
  intro F H σ ρ E hn r p
  refine h F H σ [] ρ _ hn (by rw [List.append_nil]; exact r) ?_
  cases e : m ρ with
  | no => rw [e] at p; exact p
  | ok o ρ1 =>
    rw [e] at p
    intro q F' H' s r1
    rw [List.append_nil] at r1
    exact p q σ F' H' s hn r1
  | err x ρ1 =>
    rw [e] at p
    intro cls d F' H' s r1 hx
    rw [List.append_nil] at r1
    exact p cls d σ F' H' s hn r1 hx
def mSeqF (a : Env → Out Fl) (b : Env → Out OD) : Env → Out OD := fun ρ => match a ρ with
  | .ok .nx ρ1 => b ρ1
  | .err x ρ1 => .err x ρ1
  | _ => .no
theorem sim_seqF {t u : TS} {a : Env → Out Fl} {b : Env → Out OD} (ha : SimS f W t a) (hb : SimSF f W u b) : SimSF f W (tSeq t u) (mSeqF a b) := by
  intro F H σ ρ E hn r p
  refine ha F H σ ρ _ hn r ?_
  unfold mSeqF at p
  match h : a ρ with
  | .no => rw [h] at p; exact p
  | .err x ρ1 => rw [h] at p; exact p
  | .ok .nx ρ1 =>
    rw [h] at p
    exact fun σ' F' H' s l r1 => hb F' H' σ' ρ1 E l r1 (PostSF.weak s p)
  | .ok (.rt d) ρ1 => rw [h] at p; exact p.elim
  | .ok .bk ρ1 => rw [h] at p; exact p.elim
  | .ok .ct ρ1 => rw [h] at p; exact p.elim
/-- a name's own object, given away -/
def fMove (i : Nat) : Env → Out OD := fun ρ => match ρ[i]? with
  | some (.own o) => .ok o (ρ.set i .no)
  | _ => .no
theorem sim_fMove {i : Nat} (hi : i < f.n) : SimF f W (tVar i) (fMove i) := by
  intro F H σ τ ρ Q hn r p
  unfold fMove at p
  split at p
  · rename_i o e
    obtain ⟨q, ho, h1, h2, h3, h4, h5⟩ := r.cell i _ e
    refine ⟨.ref q, app_get (by omega) h1, ?_⟩
    have r1 : Rel f F H (σ ++ τ) (ρ.set i .no) := by
      have k := r.kill i (some (.ref q))
      obtain ⟨hlt, he⟩ := List.getElem?_eq_some_iff.mp h1
      have e2 : (σ ++ τ).set i (some (.ref q)) = σ ++ τ := by rw [← he]; exact List.set_getElem_self hlt
      rw [e2] at k
      exact k
    refine p q F H (Same.refl _) (r1.addOwn h2 h3 h4 h5 fun j c ej oj es => ?_)
    by_cases z : j = i
    · subst z
      have hl := (List.getElem?_eq_some_iff.mp ej).1
      rw [List.length_set] at hl
      rw [List.getElem?_set_self hl] at ej
      cases ej
      cases oj
    · rw [List.getElem?_set_ne (Ne.symm z)] at ej
      exact z (r.sep j i c _ q ej e oj rfl es h1)
  · exact p.elim
end
def finF (cs : List Cell) (ρ : Env) (k : List Cell → Out OD) : Out OD := match finC cs ρ with
  | some cs' => k cs'
  | none => .no
def mBodyF (nl : Nat) (ms : Env → Out OD) : FnF := fun cs => match ms (cs ++ List.replicate nl .no) with
  | .no => .no
  | .err x ρ => finF cs ρ fun l => .err x l
  | .ok o ρ => finF cs ρ fun l => .ok o l
theorem fin_relF {G : Cf} {n : Nat} {vs : List V} {cs l : List Cell} {F H F' H' : Hp} {σ : L2.St} {ρ : Env} {p : Addr} {o : OD} (r0 : Rel (fr G 0 vs cs F H) F H (vs.map some) cs) (ha : cs.all argC = true) (r : Rel (fr G n vs cs F H) F' H' (σ ++ [some (.ref p)]) (ρ ++ [.own o])) (e : finC cs ρ = some l) :
    Rel (fr G 0 vs cs F H) F' H' (vs.map some ++ [some (.ref p)]) (l ++ [.own o]) := by
  have hl : σ.length = ρ.length := by
    have := r.len
    rw [List.length_append, List.length_append] at this
    simpa using this
  have rd : Rel (fr G n vs cs F H) F' H' σ ρ := by
    have := r.drop
    rw [take_app hl] at this
    exact this
  have rl := fin_rel r0 ha rd e
  have top : (ρ ++ [Cell.own o])[ρ.length]? = some (.own o) := List.getElem?_concat_length
  have tops : (σ ++ [some (V.ref p)])[ρ.length]? = some (some (.ref p)) := by rw [← hl]; exact List.getElem?_concat_length
  obtain ⟨q, ho, g1, g2, g3, g4, g5⟩ := r.cell _ _ top
  rw [tops] at g1
  cases g1
  obtain ⟨ll, hg⟩ := finC_get e
  refine rl.addOwn g2 g3 g4 g5 fun i c ei oi es => ?_
  rcases hg i c ei with ⟨o', o0, rfl, h1, h2⟩ | ⟨h1, h2⟩
  · obtain ⟨p', hh, k1, k2, k3, k4, k5, k6⟩ := rd.cell i _ h2
    have k6 : vs[i]? = some (.ref p') := k6
    rw [List.getElem?_map, k6] at es
    cases es
    have hi : i < ρ.length := (List.getElem?_eq_some_iff.mp h2).1
    have := r.sep i ρ.length (.par o') (.own o) p (by rw [List.getElem?_append_left hi]; exact h2) top rfl rfl (by rw [List.getElem?_append_left (by omega)]; exact k1) tops
    omega
  · have hc := List.all_eq_true.mp ha c (List.mem_of_getElem? h1)
    cases c with
    | val d => cases oi
    | par o => cases h2
    | pin => cases hc
    | no => cases hc
    | own o => cases hc
section
variable {P : Program} {w : World} {K : PySem.W.Frag} {mg : Str → Option Value} {base : Heap}
theorem fn_okF {x qual : Str} {st : Stmt} {fa : Addr} {fd : FuncData} {N ps : List Str} {k nl : Nat} {G : Cf} {ms : Env → Out OD} (Fn : Fun K x qual st fa fd) (S : FnScope N ps (defScope st)) (hN : N.length = ps.length + nl)
    (hbody : ∀ (cdv : Value) (A : Around) (outer : List PySem.Env) (s : Shared) (H : Hp) (E : XK) (A0 : List V) (F0 H0 : Hp) (ex : List Addr), Room k (A.deeper (envOfC qual (defScope st) s.heap.objs.size fa cdv)) → (A.deeper (envOfC qual (defScope st) s.heap.objs.size fa cdv)).guards = some [] →
      ∃ t, PSs (cxOf (L2.CX P w) P w K mg base N qual (defScope st) fa cdv A outer s H E) (defBody st) t ∧ SimSF ⟨G, N.length, A0, F0, H0, ex, .non⟩ (fun cls d _ H => E cls d H) t ms) :
    FnG P w K mg base (L2.CX P w) (k + 1) fa fd ps (SpMF G ps.length (mBodyF nl ms)) := by
  obtain ⟨oc, od, kV, doc, pm, an, cdv, ct, osl, rfl, lk, hcd⟩ := Fn.ex
  refine okG_any lk hcd S (fun vs H Q E h => h.1) fun A outer s H vs Q E hr hgd hsp => ?_
  obtain ⟨hlen, F, cs, r, ha, p⟩ := hsp
  obtain ⟨t, ht, hs⟩ := hbody cdv A outer s H E vs F H (pars vs cs) hr hgd
  refine ⟨t, ht, ?_⟩
  have hst : L2.start N vs = vs.map some ++ List.replicate nl none := by
    unfold L2.start
    rw [hN, hlen, Nat.add_sub_cancel_left]
  have r1 : Rel (fr G N.length vs cs F H) F H (L2.start N vs) (cs ++ List.replicate nl .no) := by
    rw [hst]
    exact (r.at_n (m := N.length)).ext nl
  refine hs F H _ _ _ (by rw [hst, List.length_append, List.length_map, List.length_replicate, hlen, hN]) r1 ?_
  unfold mBodyF at p
  cases e : ms (cs ++ List.replicate nl .no) with
  | no => rw [e] at p; exact p.elim
  | err x ρ =>
    rw [e] at p
    intro cls d σ F' H' s' hn r2 hx
    have p2 : PostCF G vs cs F H Q E (finF cs ρ fun l => .err x l) := p
    unfold finF at p2
    split at p2
    · rename_i l el
      exact p2 cls d F' H' (fin_rel r ha r2 el) hx
    · exact p2.elim
  | ok o ρ =>
    rw [e] at p
    intro q σ F' H' s' hn r2
    have p2 : PostCF G vs cs F H Q E (finF cs ρ fun l => .ok o l) := p
    unfold finF at p2
    split at p2
    · rename_i l el
      exact p2 q F' H' (fin_relF r ha r2 el)
    · exact p2.elim
theorem fn_vacF {CX : CXT} {k : Nat} {f : Addr} {fd : FuncData} {ps : List Str} {G : Cf} {n : Nat} {fn : FnF} (e : fn = fun _ => .no) : FnG P w K mg base CX k f fd ps (SpMF G n fn) := by
  subst e
  have no : ∀ {vs : List V} {H : Hp} {Q : VK} {E : XK}, SpMF G n (fun _ => .no) vs H Q E → False := fun h => by
    obtain ⟨_, _, _, _, _, p⟩ := h
    exact p
  exact ⟨fun _ _ _ _ h => (no h).elim, fun _ _ _ _ _ _ _ _ _ _ _ _ _ _ h => (no h).elim⟩
end
section
variable {f : Fr} {W : WX}
def fCall (n : Nat) (fn : FnF) (ma : Env → Out (List (Sum D Nat))) : Env → Out OD := fun ρ => match ma ρ with
  | .no => .no
  | .err x ρ1 => .err x ρ1
  | .ok as ρ1 => match cellsOf as ρ1 with
    | none => .no
    | some cs => if aparts as && decide (as.length = n) then match fn cs with
        | .no => .no
        | .ok d cs' => if samePars cs cs' then .ok d ((back as cs' ρ1).take ρ.length) else .no
        | .err x cs' => if samePars cs cs' then .err x ((back as cs' ρ1).take ρ.length) else .no
      else .no
theorem sim_fCall {t : TA} {n : Nat} {fn : FnF} {ma : Env → Out (List (Sum D Nat))} (ha : SimAr f W t ma) : SimF f W (tCallS (SpMF f.G n fn) (WE W) t) (fCall n fn ma) := by
  intro F H σ τ ρ Q hn r p
  refine ha F H σ τ ρ _ hn r ?_
  unfold fCall at p
  cases e : ma ρ with
  | no => rw [e] at p; exact p
  | err x ρ1 => rw [e] at p; exact p
  | ok as ρ1 =>
    rw [e] at p
    intro vs τ' F1 H1 s1 r1 ho
    have hl : (σ ++ τ).length = ρ.length := r.len
    have p1 : PostF f W F σ τ Q (match cellsOf as ρ1 with
      | none => .no
      | some cs => if aparts as && decide (as.length = n) then match fn cs with
          | .no => .no
          | .ok d cs' => if samePars cs cs' then .ok d ((back as cs' ρ1).take ρ.length) else .no
          | .err x cs' => if samePars cs cs' then .err x ((back as cs' ρ1).take ρ.length) else .no
        else .no) := p
    split at p1
    · exact p1.elim
    · rename_i cs ec
      split at p1
      · rename_i hh
        rw [Bool.and_eq_true] at hh
        obtain ⟨r2, ha2⟩ := call_in r1 ho ec hh.1
        obtain ⟨l1, l2, hg⟩ := args_get ho ec
        refine ⟨by rw [l1]; exact of_decide_eq_true hh.2, F1, cs, r2, ha2, ?_⟩
        cases e2 : fn cs with
        | no => rw [e2] at p1; exact p1.elim
        | ok o cs' =>
          rw [e2] at p1
          have p2 : PostF f W F σ τ Q (if samePars cs cs' then .ok o ((back as cs' ρ1).take ρ.length) else .no) := p1
          split at p2
          · rename_i hs
            intro q F2 H2 r3
            have len3 : (vs.map some).length = cs'.length := by
              have := r3.len
              rw [List.length_append, List.length_append] at this
              simpa using this
            have rd : Rel (fr f.G 0 vs cs F1 H1) F2 H2 (vs.map some) cs' := by
              have := r3.drop
              rw [take_app len3] at this
              exact this
            have top : (cs' ++ [Cell.own o])[cs'.length]? = some (.own o) := List.getElem?_concat_length
            have tops : (vs.map some ++ [some (V.ref q)])[cs'.length]? = some (some (.ref q)) := by rw [← len3]; exact List.getElem?_concat_length
            obtain ⟨q', hob, g1, g2, g3, g4, g5⟩ := r3.cell _ _ top
            rw [tops] at g1
            cases g1
            have fresh : H1 q = none := by
              rcases g5 with g5 | g5
              · exact g5
              · obtain ⟨i, o1, k1, k2⟩ := pars_mem g5
                obtain ⟨o2, k3⟩ := samePars_get hs k2
                have hi : i < cs'.length := (List.getElem?_eq_some_iff.mp k3).1
                have := r3.sep i cs'.length _ _ q (by rw [List.getElem?_append_left hi]; exact k3) top rfl rfl (by rw [List.getElem?_append_left (by omega), List.getElem?_map, k1]; rfl) tops
                omega
            obtain ⟨r4, s4⟩ := call_out r1 ho ec hh.1 hs rd
            have r5 := r4.drop
            rw [hl] at r5
            refine p2 q F2 H2 (s1.trans s4) (r5.addOwn g2 g3 g4 ?_ fun j c ej oj es => ?_)
            · by_cases hx : q ∈ f.ex
              · exact .inr hx
              · cases z : f.H0 q with
                | none => exact .inl rfl
                | some u =>
                  have := (r1.out q (by rw [z]; simp) hx).1
                  rw [fresh, z] at this
                  cases this
            · have ej' : (back as cs' ρ1)[j]? = some c := by
                have hj := (List.getElem?_eq_some_iff.mp ej).1
                rw [List.length_take] at hj
                rw [List.getElem?_take_of_lt (by omega)] at ej
                exact ej
              have es' : ((σ ++ τ) ++ τ')[j]? = some (some (.ref q)) := by
                rw [List.getElem?_append_left (List.getElem?_eq_some_iff.mp es).1]
                exact es
              have dead : ∀ {c0 : Cell}, ρ1[j]? = some c0 → c0.owned = true → False := fun {c0} k1 k2 => by
                have hc := r1.cell j c0 k1
                cases c0 with
                | no => cases k2
                | pin => cases k2
                | val d => cases k2
                | own o' =>
                  obtain ⟨q2, ho2, m1, m2, _⟩ := hc
                  rw [es'] at m1
                  cases m1
                  rw [fresh] at m2
                  cases m2
                | par o' =>
                  obtain ⟨q2, ho2, m1, m2, _⟩ := hc
                  rw [es'] at m1
                  cases m1
                  rw [fresh] at m2
                  cases m2
              obtain ⟨bl, bg⟩ := back_get (cs := cs') (ρ := ρ1) hh.1
              rcases bg j c ej' with ⟨i, o1, c0, k1, k2, k3, rfl⟩ | ⟨k1, k2⟩
              · have hi : i < cs.length := by rw [l2]; exact (List.getElem?_eq_some_iff.mp k1).1
                obtain ⟨v, a, m1, m2, m3, m4⟩ := hg i _ (List.getElem?_eq_getElem hi)
                rw [k1] at m2
                cases m2
                have m4 : (match ρ1[j]? with
                  | some (.own o) => some (.par o)
                  | some (.par o) => some (.par o)
                  | _ => none) = some cs[i] := m4
                split at m4
                · rename_i o' e'; exact dead e' rfl
                · rename_i o' e'; exact dead e' rfl
                · cases m4
              · exact dead k1 oj
          · exact p2.elim
        | err x cs' =>
          rw [e2] at p1
          have p2 : PostF f W F σ τ Q (if samePars cs cs' then .err x ((back as cs' ρ1).take ρ.length) else .no) := p1
          split at p2
          · rename_i hs
            intro cls dd F2 H2 r3 hv
            obtain ⟨r4, s4⟩ := call_out r1 ho ec hh.1 hs r3
            have r5 := r4.drop
            rw [hl] at r5
            exact p2 cls dd F2 H2 (s1.trans s4) r5 hv
          · exact p2.elim
      · exact p1.elim
end
end Mi
set_option Elab.async false
set_option linter.all false
set_option maxRecDepth 100000
set_option maxHeartbeats 4000000
namespace Mi
open PySem PySem.Spec PyProof.Rows L2 Wk
/-! ### comprehensions that change nothing else, evaluated -/
theorem hide_app {ρ x : Env} : ∀ vs : List Nat, (∀ v ∈ vs, v < ρ.length) → hide (ρ ++ x) vs = hide ρ vs ++ x := by
  have len : ∀ (ρ : Env) (vs : List Nat), (hide ρ vs).length = ρ.length := fun ρ vs => by
    induction vs with
    | nil => rfl
    | cons v vs ih => unfold hide; rw [List.length_set, ih]
  intro vs
  induction vs with
  | nil => intro _; rfl
  | cons v vs ih =>
    intro h
    unfold hide
    rw [ih fun u hu => h u (List.mem_cons_of_mem _ hu), List.set_append_left _ _ (by rw [len]; exact h v (by simp))]
theorem fLc_pure {vs : List Nat} {mi : Env → Out (List D)} {mg : D → Env → Option Env} {mt : Env → Out Bool} {me : Env → Out D} {ρ ρ1 : Env} {ds : List D} {p : D → Bool} {g : D → D} (E : D → Env)
    (hi : mi ρ = .ok ds ρ1) (hp : plainAt ρ1 vs = true) (hv : ∀ v ∈ vs, v < ρ1.length)
    (hE : ∀ d ∈ ds, (E d).length = ρ1.length ∧ hide (E d) vs = hide ρ1 vs ∧ resto ρ1 (E d) vs = ρ1) (h1 : resto ρ1 ρ1 vs = ρ1)
    (hg : ∀ d ∈ ds, ∀ c : Cell, mg d (hide ρ1 vs ++ [c]) = some (E d ++ [c]))
    (ht : ∀ d ∈ ds, ∀ c : Cell, mt (E d ++ [c]) = .ok (p d) (E d ++ [c]))
    (he : ∀ d ∈ ds, p d = true → ∀ c : Cell, me (E d ++ [c]) = .ok (g d) (E d ++ [c])) (hl : ds.length ≤ lim) :
    fLc vs mi mg mt me ρ = .ok (.lst ((ds.filter p).map g)) ρ1 := by
  have go : ∀ (ds' : List D) (acc : List D) (ρx : Env), (∀ d ∈ ds', d ∈ ds) → ρx.length = ρ1.length → hide ρx vs = hide ρ1 vs → resto ρ1 ρx vs = ρ1 → acc.length + ds'.length ≤ lim →
      ∃ ρy : Env, ρy.length = ρ1.length ∧ resto ρ1 ρy vs = ρ1 ∧ lcL ρ1.length vs mg mt me ds' (ρx ++ [.own (.lst acc)]) = .ok () (ρy ++ [.own (.lst (acc ++ (ds'.filter p).map g))]) := by
    intro ds'
    induction ds' with
    | nil =>
      intro acc ρx _ l1 l2 l3 _
      exact ⟨ρx, l1, l3, by simp [lcL]⟩
    | cons d ds' ih =>
      intro acc ρx hm l1 l2 l3 l4
      have hd := hm d (by simp)
      obtain ⟨e1, e2, e3⟩ := hE d hd
      rw [List.length_cons] at l4
      unfold lcL
      rw [hide_app vs (fun v h => by rw [l1]; exact hv v h), l2, hg d hd]
      simp only
      rw [ht d hd]
      cases q : p d with
      | false =>
        simp only
        obtain ⟨ρy, k1, k2, k3⟩ := ih acc (E d) (fun u hu => hm u (List.mem_cons_of_mem _ hu)) e1 e2 e3 (by omega)
        refine ⟨ρy, k1, k2, ?_⟩
        rw [k3, List.filter_cons_of_neg (by rw [q]; decide)]
      | true =>
        simp only
        rw [he d hd q]
        simp only
        have top : (E d ++ [Cell.own (.lst acc)])[ρ1.length]? = some (.own (.lst acc)) := by rw [← e1]; exact List.getElem?_concat_length
        rw [top]
        simp only
        rw [if_pos (by omega)]
        have st : (E d ++ [Cell.own (.lst acc)]).set ρ1.length (.own (.lst (acc ++ [g d]))) = E d ++ [.own (.lst (acc ++ [g d]))] := by
          rw [List.set_append_right _ _ (by omega), e1, Nat.sub_self]
          rfl
        rw [st]
        obtain ⟨ρy, k1, k2, k3⟩ := ih (acc ++ [g d]) (E d) (fun u hu => hm u (List.mem_cons_of_mem _ hu)) e1 e2 e3 (by rw [List.length_append]; simp only [List.length_cons, List.length_nil]; omega)
        refine ⟨ρy, k1, k2, ?_⟩
        rw [k3, List.filter_cons_of_pos q, List.map_cons, List.append_assoc]
        rfl
  unfold fLc
  rw [hi]
  show (if plainAt ρ1 vs then _ else _) = _
  rw [if_pos hp]
  obtain ⟨ρy, k1, k2, k3⟩ := go ds [] ρ1 (fun _ h => h) rfl rfl h1 (by simpa using hl)
  rw [k3]
  unfold lcEnd
  simp only
  have top : (ρy ++ [Cell.own (.lst ([] ++ (ds.filter p).map g))])[ρ1.length]? = some (.own (.lst ([] ++ (ds.filter p).map g))) := by rw [← k1]; exact List.getElem?_concat_length
  rw [top]
  simp only
  rw [take_app k1.symm, k2, List.nil_append]
theorem putD_len {κ : Type} [DecidableEq κ] (l : List (κ × D)) (k : κ) (d : D) : (putD l k d).length ≤ l.length + 1 := by
  unfold putD
  split
  · rw [List.length_map]; omega
  · rw [List.length_append]; simp
theorem fDc_pure {vs : List Nat} {mi : Env → Out (List D)} {mg : D → Env → Option Env} {mk me : Env → Out D} {ρ ρ1 : Env} {ds : List D} {kd : D → D} {kk : D → Key} {g : D → D} (E : D → Env)
    (hi : mi ρ = .ok ds ρ1) (hp : plainAt ρ1 vs = true) (hv : ∀ v ∈ vs, v < ρ1.length)
    (hE : ∀ d ∈ ds, (E d).length = ρ1.length ∧ hide (E d) vs = hide ρ1 vs ∧ resto ρ1 (E d) vs = ρ1) (h1 : resto ρ1 ρ1 vs = ρ1)
    (hg : ∀ d ∈ ds, ∀ c : Cell, mg d (hide ρ1 vs ++ [c]) = some (E d ++ [c]))
    (hk : ∀ d ∈ ds, ∀ c : Cell, mk (E d ++ [c]) = .ok (kd d) (E d ++ [c])) (hkk : ∀ d ∈ ds, key (kd d) = some (kk d))
    (he : ∀ d ∈ ds, ∀ c : Cell, me (E d ++ [c]) = .ok (g d) (E d ++ [c])) (hl : ds.length ≤ lim) :
    fDc vs mi mg mYes mk me ρ = .ok (.dk (ds.foldl (fun acc d => putD acc (kk d) (g d)) [])) ρ1 := by
  have go : ∀ (ds' : List D) (acc : List (Key × D)) (ρx : Env), (∀ d ∈ ds', d ∈ ds) → ρx.length = ρ1.length → hide ρx vs = hide ρ1 vs → resto ρ1 ρx vs = ρ1 → acc.length + ds'.length ≤ lim →
      ∃ ρy : Env, ρy.length = ρ1.length ∧ resto ρ1 ρy vs = ρ1 ∧ dcL ρ1.length vs mg mYes mk me ds' (ρx ++ [.own (.dk acc)]) = .ok () (ρy ++ [.own (.dk (ds'.foldl (fun acc d => putD acc (kk d) (g d)) acc))]) := by
    intro ds'
    induction ds' with
    | nil =>
      intro acc ρx _ l1 l2 l3 _
      exact ⟨ρx, l1, l3, by simp [dcL]⟩
    | cons d ds' ih =>
      intro acc ρx hm l1 l2 l3 l4
      have hd := hm d (by simp)
      obtain ⟨e1, e2, e3⟩ := hE d hd
      rw [List.length_cons] at l4
      unfold dcL
      rw [hide_app vs (fun v h => by rw [l1]; exact hv v h), l2, hg d hd]
      simp only [mYes]
      rw [hk d hd]
      simp only
      rw [he d hd]
      simp only
      have top : (E d ++ [Cell.own (.dk acc)])[ρ1.length]? = some (.own (.dk acc)) := by rw [← e1]; exact List.getElem?_concat_length
      rw [top, hkk d hd]
      simp only
      rw [if_pos (by omega)]
      have st : (E d ++ [Cell.own (.dk acc)]).set ρ1.length (.own (.dk (putD acc (kk d) (g d)))) = E d ++ [.own (.dk (putD acc (kk d) (g d)))] := by
        rw [List.set_append_right _ _ (by omega), e1, Nat.sub_self]
        rfl
      rw [st]
      have hpl := putD_len acc (kk d) (g d)
      exact ih (putD acc (kk d) (g d)) (E d) (fun u hu => hm u (List.mem_cons_of_mem _ hu)) e1 e2 e3 (by omega)
  unfold fDc
  rw [hi]
  show (if plainAt ρ1 vs then _ else _) = _
  rw [if_pos hp]
  obtain ⟨ρy, k1, k2, k3⟩ := go ds [] ρ1 (fun _ h => h) rfl rfl h1 (by simpa using hl)
  rw [k3]
  unfold lcEnd
  simp only
  have top : (ρy ++ [Cell.own (.dk (ds.foldl (fun acc d => putD acc (kk d) (g d)) []))])[ρ1.length]? = some (.own (.dk (ds.foldl (fun acc d => putD acc (kk d) (g d)) []))) := by rw [← k1]; exact List.getElem?_concat_length
  rw [top]
  simp only
  rw [take_app k1.symm, k2]
/-- a while whose turns are known -/
theorem whileL_run {mc : Env → Out Bool} {mb : Env → Out Fl} (st : Nat → Env) : ∀ (k i n : Nat), k < n → (∀ j, i ≤ j → j < i + k → mc (st j) = .ok true (st j) ∧ mb (st j) = .ok .nx (st (j + 1))) → mc (st (i + k)) = .ok false (st (i + k)) → whileL mc mb n (st i) = .ok .nx (st (i + k))
  | 0, i, n + 1, _, _, h2 => by
    unfold whileL
    rw [Nat.add_zero] at h2 ⊢
    rw [h2]
    rfl
  | k + 1, i, n + 1, hn, h1, h2 => by
    obtain ⟨a, b⟩ := h1 i (Nat.le_refl _) (by omega)
    unfold whileL
    rw [a]
    show loopK (mb (st i)) (whileL mc mb n) = _
    rw [b]
    show whileL mc mb n (st (i + 1)) = _
    have e : i + (k + 1) = (i + 1) + k := by omega
    rw [e] at h2 ⊢
    exact whileL_run st k (i + 1) n (by omega) (fun j l1 l2 => h1 j (by omega) (by omega)) h2
theorem forL_cons {mg : D → Env → Option Env} {mb : Env → Out Fl} {d : D} {ds : List D} {ρ ρ1 ρ2 : Env} (h1 : mg d ρ = some ρ1) (h2 : mb ρ1 = .ok .nx ρ2) : forL mg mb (d :: ds) ρ = forL mg mb ds ρ2 := by
  conv => lhs; unfold forL
  rw [h1]
  show loopK (mb ρ1) _ = _
  rw [h2]
  rfl
end Mi
set_option Elab.async false
set_option linter.all false
set_option maxRecDepth 100000
set_option maxHeartbeats 4000000
namespace Mi
open PySem PySem.Spec PyProof.Rows L2 Wk
/-! ### == of plain data, evaluated -/
mutual
/-- no dicts, no instances -/
def pl : D → Bool
  | .non => true
  | .bl _ => true
  | .int _ => true
  | .str z => PyData.strOk z
  | .lst l => pls l
  | .fl l => pls l
  | .tup l => pls l
  | .ft l => pls l
  | .pr l => pls l
  | .dk _ => false
  | .dt _ => false
  | .obj _ _ => false
def pls : List D → Bool
  | [] => true
  | d :: ds => pl d && pls ds
end
mutual
def dep : D → Nat
  | .lst l => deps l + 1
  | .fl l => deps l + 1
  | .tup l => deps l + 1
  | .ft l => deps l + 1
  | .pr l => deps l + 1
  | .non => 0
  | .bl _ => 0
  | .int _ => 0
  | .str _ => 0
  | .dk _ => 0
  | .dt _ => 0
  | .obj _ _ => 0
def deps : List D → Nat
  | [] => 0
  | d :: ds => max (dep d) (deps ds)
end
mutual
theorem py_pl : ∀ d : D, pl d = true → ∃ x, py d = some x ∧ x.canLay0 = true ∧ x.depth = dep d
  | .non, _ => ⟨_, by rw [py], by rw [PyData.canLay0], by rw [PyData.depth, dep]⟩
  | .bl b, _ => ⟨_, by rw [py], by rw [PyData.canLay0], by rw [PyData.depth, dep]⟩
  | .int i, _ => ⟨_, by rw [py], by rw [PyData.canLay0], by rw [PyData.depth, dep]⟩
  | .str z, h => ⟨_, by rw [py], by rw [PyData.canLay0]; rw [pl] at h; exact h, by rw [PyData.depth, dep]⟩
  | .lst l, h => by
    rw [pl] at h
    obtain ⟨xs, h1, h2, h3⟩ := pys_pl l h
    exact ⟨.list xs, by rw [py, h1]; rfl, by rw [PyData.canLay0]; exact h2, by rw [PyData.depth, dep, h3]⟩
  | .fl l, h => by
    rw [pl] at h
    obtain ⟨xs, h1, h2, h3⟩ := pys_pl l h
    exact ⟨.list xs, by rw [py, h1]; rfl, by rw [PyData.canLay0]; exact h2, by rw [PyData.depth, dep, h3]⟩
  | .tup l, h => by
    rw [pl] at h
    obtain ⟨xs, h1, h2, h3⟩ := pys_pl l h
    exact ⟨.tuple xs, by rw [py, h1]; rfl, by rw [PyData.canLay0]; exact h2, by rw [PyData.depth, dep, h3]⟩
  | .ft l, h => by
    rw [pl] at h
    obtain ⟨xs, h1, h2, h3⟩ := pys_pl l h
    exact ⟨.tuple xs, by rw [py, h1]; rfl, by rw [PyData.canLay0]; exact h2, by rw [PyData.depth, dep, h3]⟩
  | .pr l, h => by
    rw [pl] at h
    obtain ⟨xs, h1, h2, h3⟩ := pys_pl l h
    exact ⟨.tuple xs, by rw [py, h1]; rfl, by rw [PyData.canLay0]; exact h2, by rw [PyData.depth, dep, h3]⟩
  | .dk _, h => by rw [pl] at h; cases h
  | .dt _, h => by rw [pl] at h; cases h
  | .obj _ _, h => by rw [pl] at h; cases h
theorem pys_pl : ∀ l : List D, pls l = true → ∃ xs, pys l = some xs ∧ PyData.canLayAll0 xs = true ∧ PyData.depthAll xs = deps l
  | [], _ => ⟨[], by rw [pys], by rw [PyData.canLayAll0], by rw [PyData.depthAll, deps]⟩
  | d :: ds, h => by
    rw [pls, Bool.and_eq_true] at h
    obtain ⟨x, h1, h2, h3⟩ := py_pl d h.1
    obtain ⟨xs, g1, g2, g3⟩ := pys_pl ds h.2
    exact ⟨x :: xs, by rw [pys, h1, g1], by rw [PyData.canLayAll0, h2, g2]; rfl, by rw [PyData.depthAll, deps, h3, g3]⟩
end
theorem eqS_self : ∀ {a : D} {r : Bool}, eqS a a = some r → r = true := by
  intro a r h
  cases a <;> first
    | (cases h; exact decide_eq_true rfl)
    | (cases h; rfl)
    | (unfold eqS at h; simp at h; exact h.symm)
    | (unfold eqS at h; cases h)
theorem eqB_self {a : D} (h : pl a = true) (hd : dep a ≤ 64) : eqB a a = some true := by
  unfold eqB
  cases e : eqS a a with
  | some r => rw [eqS_self e]
  | none =>
    obtain ⟨x, h1, h2, h3⟩ := py_pl a h
    simp only [h1]
    have hs : SeqAt.shaped x = true := by
      unfold SeqAt.shaped
      rw [h2, h3, decide_eq_true hd]
      rfl
    rw [hs]
    simp only [Bool.and_self, if_true]
    rw [(by first | exact PySem.eqv_refl x h2 | exact PySem.PyData.eqv_refl x h2 | exact PySem.SeqAt.eqv_refl x h2 | exact P3.eqv_refl x h2 : PyData.eqv x x = true)]
theorem eqH_self {a : D} (h : pl a = true) (hd : dep a ≤ 64) : eqH a a = some true := by
  have e := eqB_self h hd
  cases a <;> first
    | exact e
    | (rw [pl] at h; cases h)
theorem eqB_nil {l : List D} (h : pls l = true) (hd : deps l ≤ 63) : eqB (.lst l) (.lst []) = some l.isEmpty := by
  unfold eqB
  have e : eqS (.lst l) (.lst []) = none := rfl
  rw [e]
  obtain ⟨xs, h1, h2, h3⟩ := pys_pl l h
  have p1 : py (.lst l) = some (.list xs) := by rw [py, h1]; rfl
  have p2 : py (.lst []) = some (.list []) := by rw [py, pys]; rfl
  have s1 : SeqAt.shaped (.list xs) = true := by
    unfold SeqAt.shaped
    rw [PyData.canLay0, PyData.depth, h2, h3, decide_eq_true (by omega)]
    rfl
  have s2 : SeqAt.shaped (.list []) = true := by decide
  simp only [p1, p2, s1, s2, Bool.and_self, if_true]
  cases l with
  | nil =>
    rw [pys] at h1
    cases h1
    rfl
  | cons d l =>
    rw [pys] at h1
    split at h1
    · cases h1
      rfl
    · cases h1
theorem deq_ii (a b : Int) : dEqH (.int a) (.int b) = some (.bl (decide (a = b))) := rfl
theorem deq_ss (a b : Str) : dEqH (.str a) (.str b) = some (.bl (decide (a = b))) := rfl
theorem deq_bb (a b : Bool) : dEqH (.bl a) (.bl b) = some (.bl (decide (a = b))) := rfl
theorem dne_ii (a b : Int) : dNeH (.int a) (.int b) = some (.bl (!decide (a = b))) := rfl
theorem dne_ss (a b : Str) : dNeH (.str a) (.str b) = some (.bl (!decide (a = b))) := rfl
theorem dne_bb (a b : Bool) : dNeH (.bl a) (.bl b) = some (.bl (!decide (a = b))) := rfl
theorem deq_nil {l : List D} (h : pls l = true) (hd : deps l ≤ 63) : dEqH (.lst l) (.lst []) = some (.bl l.isEmpty) := by
  have e := eqB_nil h hd
  show (eqB (.lst l) (.lst [])).map D.bl = _
  rw [e]
  rfl
theorem dne_nil {l : List D} (h : pls l = true) (hd : deps l ≤ 63) : dNeH (.lst l) (.lst []) = some (.bl !l.isEmpty) := by
  have e := eqB_nil h hd
  show (eqB (.lst l) (.lst [])).map (fun r => D.bl !r) = _
  rw [e]
  rfl
theorem deq_self {a : D} (h : pl a = true) (hd : dep a ≤ 64) : dEqH a a = some (.bl true) := by
  unfold dEqH
  rw [eqH_self h hd]
  rfl
theorem dne_self {a : D} (h : pl a = true) (hd : dep a ≤ 64) : dNeH a a = some (.bl false) := by
  unfold dNeH
  rw [eqH_self h hd]
  rfl
end Mi
set_option Elab.async false
set_option linter.all false
set_option maxRecDepth 100000
set_option maxHeartbeats 4000000
namespace Mea
open PySem L2 Wk Mi
def top (i : Nat) : Stmt := PySem.Challenge.pw_widestkind_k03_measures.main.body.getD i (.Pass ⟨0, 0, 0, 0⟩)
abbrev s_BadText_init : Stmt := inClass (top 2) 0
abbrev s_is_integer : Stmt := top 4
abbrev s_letters_of : Stmt := top 11
abbrev s_is_begun_word : Stmt := top 12
abbrev s_is_word : Stmt := top 13
abbrev s_is_kind_name : Stmt := top 14
abbrev s_is_factor : Stmt := top 16
abbrev s_is_power : Stmt := top 17
abbrev s_is_measure : Stmt := top 18
abbrev s_measure_of : Stmt := top 19
abbrev s_times : Stmt := top 20
abbrev s_power : Stmt := top 21
abbrev s_product : Stmt := top 22
abbrev s_measure_text : Stmt := top 23
abbrev s_is_begun : Stmt := top 24
abbrev s_last_one : Stmt := top 25
abbrev s_may_follow : Stmt := top 26
abbrev s_read_factor : Stmt := top 27
abbrev s_read_power : Stmt := top 28
abbrev s_read_measure : Stmt := top 29
abbrev s_fill_measure : Stmt := top 30
abbrev s_l_cell : Stmt := top 32
abbrev s_l_box : Stmt := top 33
abbrev s_l_take : Stmt := top 34
abbrev s_l_mixed : Stmt := top 35
abbrev s_l_word : Stmt := top 36
abbrev s_l_factor : Stmt := top 37
abbrev s_l_power : Stmt := top 38
abbrev s_l_measure : Stmt := top 39
abbrev s_l_of : Stmt := top 40
abbrev s_l_product : Stmt := top 41
abbrev s_l_shown : Stmt := top 42
abbrev s_l_is_word : Stmt := top 43
abbrev s_l_small : Stmt := top 44
abbrev s_l_is_factor : Stmt := top 45
abbrev s_l_next : Stmt := top 46
abbrev s_l_can_follow : Stmt := top 47
abbrev s_l_more : Stmt := top 48
abbrev s_l_begun : Stmt := top 49
abbrev s_l_goes_on : Stmt := top 50
abbrev s_l_power_end : Stmt := top 51
abbrev s_l_told : Stmt := top 52
abbrev s_l_spoiled : Stmt := top 53
abbrev s_l_texts_right : Stmt := top 54
abbrev s_l_odd_right : Stmt := top 55
abbrev s_law : Stmt := top 56
theorem sc_BadText_init : FnScope ["self", "at"] ["self", "at"] (defScope s_BadText_init) :=
  ⟨rfl, rfl, rfl, by decide +kernel, rfl, by decide +kernel, by decide +kernel⟩
theorem sc_is_integer : FnScope ["value"] ["value"] (defScope s_is_integer) :=
  ⟨rfl, rfl, rfl, by decide +kernel, rfl, by decide +kernel, by decide +kernel⟩
theorem sc_letters_of : FnScope ["text", "many"] ["text"] (defScope s_letters_of) :=
  ⟨rfl, rfl, rfl, by decide +kernel, rfl, by decide +kernel, by decide +kernel⟩
theorem sc_is_begun_word : FnScope ["text", "letters", "digits", "sign"] ["text"] (defScope s_is_begun_word) :=
  ⟨rfl, rfl, rfl, by decide +kernel, rfl, by decide +kernel, by decide +kernel⟩
theorem sc_is_word : FnScope ["value"] ["value"] (defScope s_is_word) :=
  ⟨rfl, rfl, rfl, by decide +kernel, rfl, by decide +kernel, by decide +kernel⟩
theorem sc_is_kind_name : FnScope ["value"] ["value"] (defScope s_is_kind_name) :=
  ⟨rfl, rfl, rfl, by decide +kernel, rfl, by decide +kernel, by decide +kernel⟩
theorem sc_is_factor : FnScope ["value"] ["value"] (defScope s_is_factor) :=
  ⟨rfl, rfl, rfl, by decide +kernel, rfl, by decide +kernel, by decide +kernel⟩
theorem sc_is_power : FnScope ["value"] ["value"] (defScope s_is_power) :=
  ⟨rfl, rfl, rfl, by decide +kernel, rfl, by decide +kernel, by decide +kernel⟩
theorem sc_is_measure : FnScope ["value", "item", "one", "other"] ["value"] (defScope s_is_measure) :=
  ⟨rfl, rfl, rfl, by decide +kernel, rfl, by decide +kernel, by decide +kernel⟩
theorem sc_measure_of : FnScope ["powers", "factor"] ["powers"] (defScope s_measure_of) :=
  ⟨rfl, rfl, rfl, by decide +kernel, rfl, by decide +kernel, by decide +kernel⟩
theorem sc_times : FnScope ["one", "other", "powers", "factor", "number"] ["one", "other"] (defScope s_times) :=
  ⟨rfl, rfl, rfl, by decide +kernel, rfl, by decide +kernel, by decide +kernel⟩
theorem sc_power : FnScope ["measure", "n", "factor", "number"] ["measure", "n"] (defScope s_power) :=
  ⟨rfl, rfl, rfl, by decide +kernel, rfl, by decide +kernel, by decide +kernel⟩
theorem sc_product : FnScope ["measures", "found", "measure"] ["measures"] (defScope s_product) :=
  ⟨rfl, rfl, rfl, by decide +kernel, rfl, by decide +kernel, by decide +kernel⟩
theorem sc_measure_text : FnScope ["measure", "factor", "number"] ["measure"] (defScope s_measure_text) :=
  ⟨rfl, rfl, rfl, by decide +kernel, rfl, by decide +kernel, by decide +kernel⟩
theorem sc_is_begun : FnScope ["text", "word"] ["text"] (defScope s_is_begun) :=
  ⟨rfl, rfl, rfl, by decide +kernel, rfl, by decide +kernel, by decide +kernel⟩
theorem sc_last_one : FnScope ["text", "quote", "letters", "digits"] ["text"] (defScope s_last_one) :=
  ⟨rfl, rfl, rfl, by decide +kernel, rfl, by decide +kernel, by decide +kernel⟩
theorem sc_may_follow : FnScope ["text", "last"] ["text", "last"] (defScope s_may_follow) :=
  ⟨rfl, rfl, rfl, by decide +kernel, rfl, by decide +kernel, by decide +kernel⟩
theorem sc_read_factor : FnScope ["text", "begin", "last", "end"] ["text", "begin", "last"] (defScope s_read_factor) :=
  ⟨rfl, rfl, rfl, by decide +kernel, rfl, by decide +kernel, by decide +kernel⟩
theorem sc_read_power : FnScope ["text", "begin", "end", "number"] ["text", "begin"] (defScope s_read_power) :=
  ⟨rfl, rfl, rfl, by decide +kernel, rfl, by decide +kernel, by decide +kernel⟩
theorem sc_read_measure : FnScope ["text", "found", "at", "last", "begin", "number"] ["text"] (defScope s_read_measure) :=
  ⟨rfl, rfl, rfl, by decide +kernel, rfl, by decide +kernel, by decide +kernel⟩
theorem sc_fill_measure : FnScope ["measure", "table", "factor", "n"] ["measure", "table"] (defScope s_fill_measure) :=
  ⟨rfl, rfl, rfl, by decide +kernel, rfl, by decide +kernel, by decide +kernel⟩
theorem sc_l_cell : FnScope ["_law_script", "_law_k"] ["_law_script", "_law_k"] (defScope s_l_cell) :=
  ⟨rfl, rfl, rfl, by decide +kernel, rfl, by decide +kernel, by decide +kernel⟩
theorem sc_l_box : FnScope ["_law_cell_here"] ["_law_cell_here"] (defScope s_l_box) :=
  ⟨rfl, rfl, rfl, by decide +kernel, rfl, by decide +kernel, by decide +kernel⟩
theorem sc_l_take : FnScope ["_law_box_here", "_law_many", "_law_digit", "_law_number"] ["_law_box_here", "_law_many"] (defScope s_l_take) :=
  ⟨rfl, rfl, rfl, by decide +kernel, rfl, by decide +kernel, by decide +kernel⟩
theorem sc_l_word : FnScope ["_law_box_here", "_law_some"] ["_law_box_here"] (defScope s_l_word) :=
  ⟨rfl, rfl, rfl, by decide +kernel, rfl, by decide +kernel, by decide +kernel⟩
theorem sc_l_factor : FnScope ["_law_box_here"] ["_law_box_here"] (defScope s_l_factor) :=
  ⟨rfl, rfl, rfl, by decide +kernel, rfl, by decide +kernel, by decide +kernel⟩
theorem sc_l_power : FnScope ["_law_box_here"] ["_law_box_here"] (defScope s_l_power) :=
  ⟨rfl, rfl, rfl, by decide +kernel, rfl, by decide +kernel, by decide +kernel⟩
theorem sc_l_measure : FnScope ["_law_box_here", "_law_most", "_law_found", "_law_turn"] ["_law_box_here", "_law_most"] (defScope s_l_measure) :=
  ⟨rfl, rfl, rfl, by decide +kernel, rfl, by decide +kernel, by decide +kernel⟩
theorem sc_l_of : FnScope ["_law_powers", "_law_factor_here"] ["_law_powers"] (defScope s_l_of) :=
  ⟨rfl, rfl, rfl, by decide +kernel, rfl, by decide +kernel, by decide +kernel⟩
theorem sc_l_product : FnScope ["_law_one", "_law_other", "_law_n", "_law_found", "_law_factor_here", "_law_number"] ["_law_one", "_law_other", "_law_n"] (defScope s_l_product) :=
  ⟨rfl, rfl, rfl, by decide +kernel, rfl, by decide +kernel, by decide +kernel⟩
theorem sc_l_shown : FnScope ["_law_measure_here", "_law_words", "_law_factor_here", "_law_number"] ["_law_measure_here"] (defScope s_l_shown) :=
  ⟨rfl, rfl, rfl, by decide +kernel, rfl, by decide +kernel, by decide +kernel⟩
theorem sc_l_is_word : FnScope ["_law_text", "_law_letters", "_law_k", "_law_rest", "_law_sign"] ["_law_text"] (defScope s_l_is_word) :=
  ⟨rfl, rfl, rfl, by decide +kernel, rfl, by decide +kernel, by decide +kernel⟩
theorem sc_l_small : FnScope ["_law_text", "_law_sign"] ["_law_text"] (defScope s_l_small) :=
  ⟨rfl, rfl, rfl, by decide +kernel, rfl, by decide +kernel, by decide +kernel⟩
theorem sc_l_is_factor : FnScope ["_law_text"] ["_law_text"] (defScope s_l_is_factor) :=
  ⟨rfl, rfl, rfl, by decide +kernel, rfl, by decide +kernel, by decide +kernel⟩
theorem sc_l_next : FnScope ["_law_text", "_law_word_here", "_law_digits", "_law_sign"] ["_law_text"] (defScope s_l_next) :=
  ⟨rfl, rfl, rfl, by decide +kernel, rfl, by decide +kernel, by decide +kernel⟩
theorem sc_l_can_follow : FnScope ["_law_text", "_law_last", "_law_sign", "_law_more_here"] ["_law_text", "_law_last"] (defScope s_l_can_follow) :=
  ⟨rfl, rfl, rfl, by decide +kernel, rfl, by decide +kernel, by decide +kernel⟩
theorem sc_l_more : FnScope ["_law_text", "_law_begin", "_law_spot", "_law_last"] ["_law_text", "_law_begin", "_law_spot", "_law_last"] (defScope s_l_more) :=
  ⟨rfl, rfl, rfl, by decide +kernel, rfl, by decide +kernel, by decide +kernel⟩
theorem sc_l_begun : FnScope ["_law_text", "_law_spot", "_law_last", "_law_turn", "_law_begin", "_law_good"] ["_law_text"] (defScope s_l_begun) :=
  ⟨rfl, rfl, rfl, by decide +kernel, rfl, by decide +kernel, by decide +kernel⟩
theorem sc_l_goes_on : FnScope ["_law_text", "_law_sign"] ["_law_text", "_law_sign"] (defScope s_l_goes_on) :=
  ⟨rfl, rfl, rfl, by decide +kernel, rfl, by decide +kernel, by decide +kernel⟩
theorem sc_l_power_end : FnScope ["_law_text", "_law_spot", "_law_begin"] ["_law_text", "_law_spot"] (defScope s_l_power_end) :=
  ⟨rfl, rfl, rfl, by decide +kernel, rfl, by decide +kernel, by decide +kernel⟩
theorem sc_l_told : FnScope ["_law_text", "e"] ["_law_text"] (defScope s_l_told) :=
  ⟨rfl, rfl, rfl, by decide +kernel, rfl, by decide +kernel, by decide +kernel⟩
theorem sc_l_spoiled : FnScope ["_law_box_here", "_law_text", "_law_k", "_law_odd", "_law_way", "_law_words", "_law_j"] ["_law_box_here", "_law_text"] (defScope s_l_spoiled) :=
  ⟨rfl, rfl, rfl, by decide +kernel, rfl, by decide +kernel, by decide +kernel⟩
theorem sc_l_texts_right : FnScope ["_law_box_here", "_law_measure_here", "_law_text", "_law_turn", "_law_heard", "_law_spot", "_law_good"] ["_law_box_here", "_law_measure_here"] (defScope s_l_texts_right) :=
  ⟨rfl, rfl, rfl, by decide +kernel, rfl, by decide +kernel, by decide +kernel⟩
theorem sc_l_odd_right : FnScope ["_law_box_here", "_law_measure_here", "_law_some", "_law_odd"] ["_law_box_here", "_law_measure_here"] (defScope s_l_odd_right) :=
  ⟨rfl, rfl, rfl, by decide +kernel, rfl, by decide +kernel, by decide +kernel⟩
theorem sc_law : FnScope ["_law_script", "_law_k", "_law_box_here", "_law_one", "_law_other", "_law_n", "_law_table", "_law_due", "_law_factor_here", "_law_number", "_law_keys", "_law_key", "_law_more_here", "_law_kept"] ["_law_script"] (defScope s_law) :=
  ⟨rfl, rfl, rfl, by decide +kernel, rfl, by decide +kernel, by decide +kernel⟩
structure Ad where
  CK : Addr
  C_BadText : Addr
  f_BadText_init : Addr
  d_BadText_init : FuncData
  f_is_integer : Addr
  d_is_integer : FuncData
  f_letters_of : Addr
  d_letters_of : FuncData
  f_is_begun_word : Addr
  d_is_begun_word : FuncData
  f_is_word : Addr
  d_is_word : FuncData
  f_is_kind_name : Addr
  d_is_kind_name : FuncData
  f_is_factor : Addr
  d_is_factor : FuncData
  f_is_power : Addr
  d_is_power : FuncData
  f_is_measure : Addr
  d_is_measure : FuncData
  f_measure_of : Addr
  d_measure_of : FuncData
  f_times : Addr
  d_times : FuncData
  f_power : Addr
  d_power : FuncData
  f_product : Addr
  d_product : FuncData
  f_measure_text : Addr
  d_measure_text : FuncData
  f_is_begun : Addr
  d_is_begun : FuncData
  f_last_one : Addr
  d_last_one : FuncData
  f_may_follow : Addr
  d_may_follow : FuncData
  f_read_factor : Addr
  d_read_factor : FuncData
  f_read_power : Addr
  d_read_power : FuncData
  f_read_measure : Addr
  d_read_measure : FuncData
  f_fill_measure : Addr
  d_fill_measure : FuncData
  f_l_cell : Addr
  d_l_cell : FuncData
  f_l_box : Addr
  d_l_box : FuncData
  f_l_take : Addr
  d_l_take : FuncData
  f_l_word : Addr
  d_l_word : FuncData
  f_l_factor : Addr
  d_l_factor : FuncData
  f_l_power : Addr
  d_l_power : FuncData
  f_l_measure : Addr
  d_l_measure : FuncData
  f_l_of : Addr
  d_l_of : FuncData
  f_l_product : Addr
  d_l_product : FuncData
  f_l_shown : Addr
  d_l_shown : FuncData
  f_l_is_word : Addr
  d_l_is_word : FuncData
  f_l_small : Addr
  d_l_small : FuncData
  f_l_is_factor : Addr
  d_l_is_factor : FuncData
  f_l_next : Addr
  d_l_next : FuncData
  f_l_can_follow : Addr
  d_l_can_follow : FuncData
  f_l_more : Addr
  d_l_more : FuncData
  f_l_begun : Addr
  d_l_begun : FuncData
  f_l_goes_on : Addr
  d_l_goes_on : FuncData
  f_l_power_end : Addr
  d_l_power_end : FuncData
  f_l_told : Addr
  d_l_told : FuncData
  f_l_spoiled : Addr
  d_l_spoiled : FuncData
  f_l_texts_right : Addr
  d_l_texts_right : FuncData
  f_l_odd_right : Addr
  d_l_odd_right : FuncData
  f_law : Addr
  d_law : FuncData
  t_LETTERS : Tok
  t_DIGITS : Tok
  t_MOST_LETTERS : Tok
  t_MOST_DIGITS : Tok
  t_OWN_WORDS : Addr
structure Txt (K : PySem.W.Frag) (mg : Str → Option Value) (a : Ad) : Prop where
  kb : Wk.KBase K mg a.CK
  e_BadText : Wk.ExcT K mg "BadText" a.C_BadText a.f_BadText_init
  F_BadText_init : Fun K "__init__" "BadText.__init__" s_BadText_init a.f_BadText_init a.d_BadText_init
  b_BadText_init : Binds K a.d_BadText_init ["self", "at"] []
  n_BadText_at : PySem.W.findIn K (.ref a.C_BadText) "at" = some none
  h_is_integer : Wk.FnT K mg "is_integer" s_is_integer a.f_is_integer a.d_is_integer
  b_is_integer : Binds K a.d_is_integer ["value"] []
  h_letters_of : Wk.FnT K mg "letters_of" s_letters_of a.f_letters_of a.d_letters_of
  b_letters_of : Binds K a.d_letters_of ["text"] []
  h_is_begun_word : Wk.FnT K mg "is_begun_word" s_is_begun_word a.f_is_begun_word a.d_is_begun_word
  b_is_begun_word : Binds K a.d_is_begun_word ["text"] []
  h_is_word : Wk.FnT K mg "is_word" s_is_word a.f_is_word a.d_is_word
  b_is_word : Binds K a.d_is_word ["value"] []
  h_is_kind_name : Wk.FnT K mg "is_kind_name" s_is_kind_name a.f_is_kind_name a.d_is_kind_name
  b_is_kind_name : Binds K a.d_is_kind_name ["value"] []
  h_is_factor : Wk.FnT K mg "is_factor" s_is_factor a.f_is_factor a.d_is_factor
  b_is_factor : Binds K a.d_is_factor ["value"] []
  h_is_power : Wk.FnT K mg "is_power" s_is_power a.f_is_power a.d_is_power
  b_is_power : Binds K a.d_is_power ["value"] []
  h_is_measure : Wk.FnT K mg "is_measure" s_is_measure a.f_is_measure a.d_is_measure
  b_is_measure : Binds K a.d_is_measure ["value"] []
  h_measure_of : Wk.FnT K mg "measure_of" s_measure_of a.f_measure_of a.d_measure_of
  b_measure_of : Binds K a.d_measure_of ["powers"] []
  h_times : Wk.FnT K mg "times" s_times a.f_times a.d_times
  b_times : Binds K a.d_times ["one", "other"] []
  h_power : Wk.FnT K mg "power" s_power a.f_power a.d_power
  b_power : Binds K a.d_power ["measure", "n"] []
  h_product : Wk.FnT K mg "product" s_product a.f_product a.d_product
  b_product : Binds K a.d_product ["measures"] []
  h_measure_text : Wk.FnT K mg "measure_text" s_measure_text a.f_measure_text a.d_measure_text
  b_measure_text : Binds K a.d_measure_text ["measure"] []
  h_is_begun : Wk.FnT K mg "is_begun" s_is_begun a.f_is_begun a.d_is_begun
  b_is_begun : Binds K a.d_is_begun ["text"] []
  h_last_one : Wk.FnT K mg "last_one" s_last_one a.f_last_one a.d_last_one
  b_last_one : Binds K a.d_last_one ["text"] []
  h_may_follow : Wk.FnT K mg "may_follow" s_may_follow a.f_may_follow a.d_may_follow
  b_may_follow : Binds K a.d_may_follow ["text", "last"] []
  h_read_factor : Wk.FnT K mg "read_factor" s_read_factor a.f_read_factor a.d_read_factor
  b_read_factor : Binds K a.d_read_factor ["text", "begin", "last"] []
  h_read_power : Wk.FnT K mg "read_power" s_read_power a.f_read_power a.d_read_power
  b_read_power : Binds K a.d_read_power ["text", "begin"] []
  h_read_measure : Wk.FnT K mg "read_measure" s_read_measure a.f_read_measure a.d_read_measure
  b_read_measure : Binds K a.d_read_measure ["text"] []
  h_fill_measure : Wk.FnT K mg "fill_measure" s_fill_measure a.f_fill_measure a.d_fill_measure
  b_fill_measure : Binds K a.d_fill_measure ["measure", "table"] []
  h_l_cell : Wk.FnT K mg "_law_cell" s_l_cell a.f_l_cell a.d_l_cell
  b_l_cell : Binds K a.d_l_cell ["_law_script", "_law_k"] []
  h_l_box : Wk.FnT K mg "_law_box" s_l_box a.f_l_box a.d_l_box
  b_l_box : Binds K a.d_l_box ["_law_cell_here"] []
  h_l_take : Wk.FnT K mg "_law_take" s_l_take a.f_l_take a.d_l_take
  b_l_take : Binds K a.d_l_take ["_law_box_here", "_law_many"] []
  h_l_word : Wk.FnT K mg "_law_word" s_l_word a.f_l_word a.d_l_word
  b_l_word : Binds K a.d_l_word ["_law_box_here"] []
  h_l_factor : Wk.FnT K mg "_law_factor" s_l_factor a.f_l_factor a.d_l_factor
  b_l_factor : Binds K a.d_l_factor ["_law_box_here"] []
  h_l_power : Wk.FnT K mg "_law_power" s_l_power a.f_l_power a.d_l_power
  b_l_power : Binds K a.d_l_power ["_law_box_here"] []
  h_l_measure : Wk.FnT K mg "_law_measure" s_l_measure a.f_l_measure a.d_l_measure
  b_l_measure : Binds K a.d_l_measure ["_law_box_here", "_law_most"] []
  h_l_of : Wk.FnT K mg "_law_of" s_l_of a.f_l_of a.d_l_of
  b_l_of : Binds K a.d_l_of ["_law_powers"] []
  h_l_product : Wk.FnT K mg "_law_product" s_l_product a.f_l_product a.d_l_product
  b_l_product : Binds K a.d_l_product ["_law_one", "_law_other", "_law_n"] []
  h_l_shown : Wk.FnT K mg "_law_shown" s_l_shown a.f_l_shown a.d_l_shown
  b_l_shown : Binds K a.d_l_shown ["_law_measure_here"] []
  h_l_is_word : Wk.FnT K mg "_law_is_word" s_l_is_word a.f_l_is_word a.d_l_is_word
  b_l_is_word : Binds K a.d_l_is_word ["_law_text"] []
  h_l_small : Wk.FnT K mg "_law_small" s_l_small a.f_l_small a.d_l_small
  b_l_small : Binds K a.d_l_small ["_law_text"] []
  h_l_is_factor : Wk.FnT K mg "_law_is_factor" s_l_is_factor a.f_l_is_factor a.d_l_is_factor
  b_l_is_factor : Binds K a.d_l_is_factor ["_law_text"] []
  h_l_next : Wk.FnT K mg "_law_next" s_l_next a.f_l_next a.d_l_next
  b_l_next : Binds K a.d_l_next ["_law_text"] []
  h_l_can_follow : Wk.FnT K mg "_law_can_follow" s_l_can_follow a.f_l_can_follow a.d_l_can_follow
  b_l_can_follow : Binds K a.d_l_can_follow ["_law_text", "_law_last"] []
  h_l_more : Wk.FnT K mg "_law_more" s_l_more a.f_l_more a.d_l_more
  b_l_more : Binds K a.d_l_more ["_law_text", "_law_begin", "_law_spot", "_law_last"] []
  h_l_begun : Wk.FnT K mg "_law_begun" s_l_begun a.f_l_begun a.d_l_begun
  b_l_begun : Binds K a.d_l_begun ["_law_text"] []
  h_l_goes_on : Wk.FnT K mg "_law_goes_on" s_l_goes_on a.f_l_goes_on a.d_l_goes_on
  b_l_goes_on : Binds K a.d_l_goes_on ["_law_text", "_law_sign"] []
  h_l_power_end : Wk.FnT K mg "_law_power_end" s_l_power_end a.f_l_power_end a.d_l_power_end
  b_l_power_end : Binds K a.d_l_power_end ["_law_text", "_law_spot"] []
  h_l_told : Wk.FnT K mg "_law_told" s_l_told a.f_l_told a.d_l_told
  b_l_told : Binds K a.d_l_told ["_law_text"] []
  h_l_spoiled : Wk.FnT K mg "_law_spoiled" s_l_spoiled a.f_l_spoiled a.d_l_spoiled
  b_l_spoiled : Binds K a.d_l_spoiled ["_law_box_here", "_law_text"] []
  h_l_texts_right : Wk.FnT K mg "_law_texts_right" s_l_texts_right a.f_l_texts_right a.d_l_texts_right
  b_l_texts_right : Binds K a.d_l_texts_right ["_law_box_here", "_law_measure_here"] []
  h_l_odd_right : Wk.FnT K mg "_law_odd_right" s_l_odd_right a.f_l_odd_right a.d_l_odd_right
  b_l_odd_right : Binds K a.d_l_odd_right ["_law_box_here", "_law_measure_here"] []
  h_law : Wk.FnT K mg "law" s_law a.f_law a.d_law
  g_LETTERS : mg "LETTERS" = some (.str "abcdefghijklmnopqrstuvwxyz" a.t_LETTERS)
  g_DIGITS : mg "DIGITS" = some (.str "0123456789" a.t_DIGITS)
  g_MOST_LETTERS : mg "MOST_LETTERS" = some (.int 6 a.t_MOST_LETTERS)
  g_MOST_DIGITS : mg "MOST_DIGITS" = some (.int 3 a.t_MOST_DIGITS)
  g_OWN_WORDS : mg "OWN_WORDS" = some (.ref a.t_OWN_WORDS)
  q_OWN_WORDS : ∀ H, SqT K H a.t_OWN_WORDS [V.str "fn", V.str "let", V.str "in", V.str "rec", V.str "match", V.str "with", V.str "fail", V.str "num"]
  z_abs : mg "abs" = none
  z_all : mg "all" = none
  z_bool : mg "bool" = none
  z_dict : mg "dict" = none
  z_int : mg "int" = none
  z_isinstance : mg "isinstance" = none
  z_len : mg "len" = none
  z_list : mg "list" = none
  z_max : mg "max" = none
  z_min : mg "min" = none
  z_range : mg "range" = none
  z_sorted : mg "sorted" = none
  z_str : mg "str" = none
  z_tuple : mg "tuple" = none
  z_zip : mg "zip" = none
abbrev cf (K : PySem.W.Frag) (a : Ad) : Cf := ⟨K, fun _ => 0, fun _ => [], fun c => match c with | 0 => a.C_BadText | _ => 0, fun c => match c with | 0 => ["at"] | _ => []⟩
section
variable {P : Program} {w : World} {K : PySem.W.Frag} {mg : Str → Option Value} {base : Heap} {a : Ad}
theorem ok_BadText_init (T : Txt K mg a) : FnOk P w K mg base CX0 1 a.f_BadText_init a.d_BadText_init ["self", "at"] (Mi.sp_exc a.C_BadText "at") := by
  refine T.F_BadText_init.ok sc_BadText_init (fun vs H Q E h => ?_) (fun cdv A outer s H vs Q E hr h => ?_)
  · obtain ⟨z, v, rfl, _⟩ := h
    rfl
  · obtain ⟨e, v, rfl, he, k⟩ := h
    refine ⟨_, (pss_cons (ps_expr (Wk.pe_kinit T.kb (pa_cons (pv 0) (pa_cons pe_str (pa_nil)))))
  (pss_one (ps_ost (pv 0) (pv 1)))), ?_⟩
    exact ⟨_, rfl, e, a.C_BadText, _, rfl, (by show 1 ≤ 1000; decide), T.e_BadText.o, he, _, rfl, _, rfl, e, a.C_BadText, rfl, T.e_BadText.o, T.n_BadText_at, .inl ⟨he, k⟩⟩
theorem x_BadText (T : Txt K mg a) : ∀ k, k < 1 → PySem.W.exmOne K (.ref ((cf K a).xc k)) (.ref a.C_BadText) = some (decide (k = 0)) := fun k hk => by
  obtain rfl : k = 0 := by omega
  exact T.e_BadText.te
theorem hr1 {n : Nat} {A : Around} (hr : Room (n + 2) A) : Room 2 A := hr.mono (by omega)
/-- the turns that a while may take -/
abbrev wf : Nat := 100000
def m_is_integer (c : Nat → Fn) (c' : Nat → FnF) : Mi.Env → Out Fl :=
  (mRet (mAndV (mIsi .int (oN 0)) (mNotV (mIsi .bool (oN 0)))))
def m_letters_of (c : Nat → Fn) (c' : Nat → FnF) : Mi.Env → Out Fl :=
  (mSeq (mAsg (mC (.int 0)) (setv 1))
  (mSeq (whileL (mAnd (mTest (mOp2 dLt (oN 1) (oE (mCB dLen (oCons (oN 0) oNil))))) (mTest (mOp2 dIn (oE (mOp2 dIx (oN 0) (oN 1))) (oE (mC (.str "abcdefghijklmnopqrstuvwxyz")))))) (mAug 1 (· + ·) (mC (.int 1))) wf)
  (mRet (mSl (oN 0) mNoPart (mPart (mVar 1))))))
def m_is_begun_word (c : Nat → Fn) (c' : Nat → FnF) : Mi.Env → Out Fl :=
  (mSeq (mAsg (mCall 1 (c 1) (aV (mVar 0) aNil)) (setv 1))
  (mSeq (mAsg (mSl (oN 0) (mPart (mCB dLen (oCons (oN 1) oNil))) mNoPart) (setv 2))
  (mSeq (mIf (mOr (mNot (mTest (mChain dLe dLe (mC (.int 1)) (mCB dLen (oCons (oN 1) oNil)) (mC (.int 6))))) (mTest (mOp2 dGt (oE (mCB dLen (oCons (oN 2) oNil))) (oE (mC (.int 3)))))) (mRet (mC (.bl false))) mNext)
  (mRet (mAndV (mCB dAll (oCons (oE (mFrz (fLc [3] (mIter (mVar 2)) (setv 3) mYes (mOp2 dIn (oN 3) (oE (mC (.str "0123456789"))))))) oNil)) (mNotV (mM1 dStarts (mVar 2) (oE (mC (.str "0"))))))))))
def m_is_word (c : Nat → Fn) (c' : Nat → FnF) : Mi.Env → Out Fl :=
  (mRet (mAndV (mIsi .str (oN 0)) (mAndV (mOp2 dNotIn (oN 0) (oE (mC (.ft [.str "fn", .str "let", .str "in", .str "rec", .str "match", .str "with", .str "fail", .str "num"])))) (mCall 1 (c 2) (aV (mVar 0) aNil)))))
def m_is_kind_name (c : Nat → Fn) (c' : Nat → FnF) : Mi.Env → Out Fl :=
  (mRet (mAndV (mIsi .str (oN 0)) (mAndV (mM1 dStarts (mVar 0) (oE (mC (.str "'")))) (mCall 1 (c 3) (aV (mSl (oN 0) (mPart (mC (.int 1))) mNoPart) aNil)))))
def m_is_factor (c : Nat → Fn) (c' : Nat → FnF) : Mi.Env → Out Fl :=
  (mRet (mOrV (mCall 1 (c 3) (aV (mVar 0) aNil)) (mCall 1 (c 4) (aV (mVar 0) aNil))))
def m_is_power (c : Nat → Fn) (c' : Nat → FnF) : Mi.Env → Out Fl :=
  (mSeq (mIf (mOr (mNot (mTru (oE (mIsi .tuple (oN 0))))) (mTest (mOp2 dNeH (oE (mCB dLen (oCons (oN 0) oNil))) (oE (mC (.int 2)))))) (mRet (mC (.bl false))) mNext)
  (mRet (mAndV (mCall 1 (c 5) (aV (mOp2 dIx (oN 0) (oE (mC (.int 0)))) aNil)) (mAndV (mCall 1 (c 0) (aV (mOp2 dIx (oN 0) (oE (mC (.int 1)))) aNil)) (mOp2 dNeH (oE (mOp2 dIx (oN 0) (oE (mC (.int 1))))) (oE (mC (.int 0))))))))
def m_is_measure (c : Nat → Fn) (c' : Nat → FnF) : Mi.Env → Out Fl :=
  (mSeq (mIf (mOr (mNot (mTru (oE (mIsi .tuple (oN 0))))) (mNot (mTru (oE (mCB dAll (oCons (oE (mFrz (fLc [1] (mIter (mVar 0)) (setv 1) mYes (mCall 1 (c 6) (aV (mVar 1) aNil))))) oNil)))))) (mRet (mC (.bl false))) mNext)
  (mRet (mCB dAll (oCons (oE (mFrz (fLc [2, 3] (mZip (mVar 0) (mSl (oN 0) (mPart (mC (.int 1))) mNoPart)) (gmTup 2 (gmCons (setv 2) (gmCons (setv 3) gmNil))) mYes (mOp2 dLt (oE (mOp2 dIx (oN 2) (oE (mC (.int 0))))) (oE (mOp2 dIx (oN 3) (oE (mC (.int 0))))))))) oNil))))
def m_measure_of (c : Nat → Fn) (c' : Nat → FnF) : Mi.Env → Out Fl :=
  (mRet (mCB dTuple (oCons (oE (mFrz (fLc [1] (mIter (mFrz (fSorted (oN 0)))) (setv 1) (mTest (mOp2 dNeH (oE (mOp2 dIx (oN 0) (oN 1))) (oE (mC (.int 0))))) (mTup (mCons (mVar 1) (mCons (mOp2 dIx (oN 0) (oN 1)) mNil)))))) oNil)))
def m_times (c : Nat → Fn) (c' : Nat → FnF) : Mi.Env → Out Fl :=
  (mSeq (mAsgO 2 (fDict (oN 0)))
  (mSeq (mFor (mIter (mVar 1)) (gmTup 2 (gmCons (setv 3) (gmCons (setv 4) gmNil))) (mPut 2 (mVar 3) (mOp2 dAdd (oE (mGet2 (oN 2) (mVar 3) (mC (.int 0)))) (oN 4))))
  (mRet (mCall 1 (c 8) (aS 2 aNil)))))
def m_power (c : Nat → Fn) (c' : Nat → FnF) : Mi.Env → Out Fl :=
  (mRet (mCall 1 (c 8) (aV (mFrz (fDc [2, 3] (mIter (mVar 0)) (gmTup 2 (gmCons (setv 2) (gmCons (setv 3) gmNil))) mYes (mVar 2) (mOp2 dMulH (oN 3) (oN 1)))) aNil)))
def m_product (c : Nat → Fn) (c' : Nat → FnF) : Mi.Env → Out Fl :=
  (mSeq (mAsg (mTup mNil) (setv 1))
  (mSeq (mFor (mIter (mVar 0)) (setv 2) (mAsg (mCall 2 (c 9) (aV (mVar 1) (aV (mVar 2) aNil))) (setv 1)))
  (mRet (mVar 1))))
def m_measure_text (c : Nat → Fn) (c' : Nat → FnF) : Mi.Env → Out Fl :=
  (mRet (mM1 dJoin (mC (.str " ")) (oE (mFrz (fLc [1, 2] (mIter (mVar 0)) (gmTup 2 (gmCons (setv 1) (gmCons (setv 2) gmNil))) mYes (mIf (mTest (mOp2 dEqH (oN 2) (oE (mC (.int 1))))) (mVar 1) (mJoined (jCons (mFmt (mVar 1)) (jCons (mC (.str "^")) (jCons (mFmt (mVar 2)) jNil))))))))))
def m_is_begun (c : Nat → Fn) (c' : Nat → FnF) : Mi.Env → Out Fl :=
  (mSeq (mAsg (mIf (mTru (oE (mM1 dStarts (mVar 0) (oE (mC (.str "'")))))) (mSl (oN 0) (mPart (mC (.int 1))) mNoPart) (mVar 0)) (setv 1))
  (mRet (mOrV (mOp2 dEqH (oN 1) (oE (mC (.str "")))) (mCall 1 (c 2) (aV (mVar 1) aNil)))))
def m_last_one (c : Nat → Fn) (c' : Nat → FnF) : Mi.Env → Out Fl :=
  (mSeq (mAsg (mIf (mTru (oE (mM1 dStarts (mVar 0) (oE (mC (.str "'")))))) (mSl (oN 0) mNoPart (mPart (mC (.int 1)))) (mC (.str ""))) (setv 1))
  (mSeq (mAsg (mCall 1 (c 1) (aV (mSl (oN 0) (mPart (mCB dLen (oCons (oN 1) oNil))) mNoPart) aNil)) (setv 2))
  (mSeq (mAsg (mSl (oN 0) (mPart (mOp2 dAdd (oE (mCB dLen (oCons (oN 1) oNil))) (oE (mCB dLen (oCons (oN 2) oNil))))) mNoPart) (setv 3))
  (mSeq (mIf (mTest (mOp2 dEqH (oN 3) (oE (mC (.str ""))))) (mAsg (mOp2 dAdd (oN 2) (oE (mOp2 dMulH (oE (mOp2 dIx (oE (mC (.str "abcdefghijklmnopqrstuvwxyz"))) (oE (mUn dNeg (oE (mC (.int 1))))))) (oE (mOp2 dSub (oE (mC (.int 6))) (oE (mCB dLen (oCons (oN 2) oNil)))))))) (setv 2)) mNext)
  (mRet (mOp2 dAdd (oE (mOp2 dAdd (oE (mOp2 dAdd (oN 1) (oN 2))) (oN 3))) (oE (mOp2 dMulH (oE (mOp2 dIx (oE (mC (.str "0123456789"))) (oE (mUn dNeg (oE (mC (.int 1))))))) (oE (mOp2 dSub (oE (mC (.int 3))) (oE (mCB dLen (oCons (oN 3) oNil)))))))))))))
def m_may_follow (c : Nat → Fn) (c' : Nat → FnF) : Mi.Env → Out Fl :=
  (mRet (mAndV (mCall 1 (c 13) (aV (mVar 0) aNil)) (mOp2 dGt (oE (mCall 1 (c 14) (aV (mVar 0) aNil))) (oN 1))))
def m_read_factor (c : Nat → Fn) (c' : Nat → FnF) : Mi.Env → Out Fl :=
  (mSeq (mAsg (mVar 1) (setv 3))
  (mSeq (whileL (mAnd (mTest (mOp2 dLt (oN 3) (oE (mCB dLen (oCons (oN 0) oNil))))) (mTru (oE (mCall 2 (c 15) (aV (mSl (oN 0) (mPart (mVar 1)) (mPart (mOp2 dAdd (oN 3) (oE (mC (.int 1)))))) (aV (mVar 2) aNil)))))) (mAug 3 (· + ·) (mC (.int 1))) wf)
  (mSeq (mIf (mOr (mNot (mTru (oE (mCall 1 (c 5) (aV (mSl (oN 0) (mPart (mVar 1)) (mPart (mVar 3))) aNil))))) (mNot (mTest (mOp2 dGt (oE (mSl (oN 0) (mPart (mVar 1)) (mPart (mVar 3)))) (oN 2))))) (mRaise 0 (mVar 3)) mNext)
  (mRet (mVar 3)))))
def m_read_power (c : Nat → Fn) (c' : Nat → FnF) : Mi.Env → Out Fl :=
  (mSeq (mIf (mTest (mOp2 dNeH (oE (mSl (oN 0) (mPart (mVar 1)) (mPart (mOp2 dAdd (oN 1) (oE (mC (.int 1))))))) (oE (mC (.str "^"))))) (mRet (mTup (mCons (mVar 1) (mCons (mC (.int 1)) mNil)))) mNext)
  (mSeq (mAsg (mIf (mTest (mOp2 dEqH (oE (mSl (oN 0) (mPart (mOp2 dAdd (oN 1) (oE (mC (.int 1))))) (mPart (mOp2 dAdd (oN 1) (oE (mC (.int 2))))))) (oE (mC (.str "-"))))) (mOp2 dAdd (oN 1) (oE (mC (.int 2)))) (mOp2 dAdd (oN 1) (oE (mC (.int 1))))) (setv 2))
  (mSeq (mIf (mOr (mTest (mOp2 dEqH (oE (mSl (oN 0) (mPart (mVar 2)) (mPart (mOp2 dAdd (oN 2) (oE (mC (.int 1))))))) (oE (mC (.str ""))))) (mTest (mOp2 dNotIn (oE (mOp2 dIx (oN 0) (oN 2))) (oE (mSl (oE (mC (.str "0123456789"))) (mPart (mC (.int 1))) mNoPart))))) (mRaise 0 (mVar 2)) mNext)
  (mSeq (whileL (mAnd (mTest (mOp2 dLt (oN 2) (oE (mCB dLen (oCons (oN 0) oNil))))) (mTest (mOp2 dIn (oE (mOp2 dIx (oN 0) (oN 2))) (oE (mC (.str "0123456789")))))) (mAug 2 (· + ·) (mC (.int 1))) wf)
  (mSeq (mAsg (mCB dInt (oCons (oE (mSl (oN 0) (mPart (mOp2 dAdd (oN 1) (oE (mC (.int 1))))) (mPart (mVar 2)))) oNil)) (setv 3))
  (mSeq (mIf (mTest (mOp2 dEqH (oN 3) (oE (mC (.int 1))))) (mRaise 0 (mVar 2)) mNext)
  (mRet (mTup (mCons (mVar 2) (mCons (mVar 3) mNil))))))))))
def m_read_measure (c : Nat → Fn) (c' : Nat → FnF) : Mi.Env → Out Fl :=
  (mSeq (mPar 6 [1, 2, 3] (aT (fLst mNil) (aV (mC (.int 0)) (aV (mC (.str "")) aNil))))
  (mSeq (whileL (mTest (mOp2 dNeH (oN 0) (oE (mC (.str ""))))) (mSeq (mAsg (mVar 2) (setv 4))
  (mSeq (mAsg (mCall 3 (c 16) (aV (mVar 0) (aV (mVar 4) (aV (mVar 3) aNil)))) (setv 2))
  (mSeq (mAsg (mSl (oN 0) (mPart (mVar 4)) (mPart (mVar 2))) (setv 3))
  (mSeq (mAsg (mCall 2 (c 17) (aV (mVar 0) (aV (mVar 2) aNil))) (gmTup 2 (gmCons (setv 2) (gmCons (setv 5) gmNil))))
  (mSeq (mDrop (mAppend 1 (mTup (mCons (mVar 3) (mCons (mVar 5) mNil)))))
  (mSeq (mIf (mTest (mOp2 dEqH (oN 2) (oE (mCB dLen (oCons (oN 0) oNil))))) (mRet (mCB dTuple (oCons (oN 1) oNil))) mNext)
  (mSeq (mIf (mOr (mTest (mOp2 dNeH (oE (mOp2 dIx (oN 0) (oN 2))) (oE (mC (.str " "))))) (mNot (mTru (oE (mCall 2 (c 15) (aV (mC (.str "")) (aV (mVar 3) aNil))))))) (mRaise 0 (mVar 2)) mNext)
  (mAug 2 (· + ·) (mC (.int 1)))))))))) wf)
  (mRet (mTup mNil))))
def m_fill_measure (c : Nat → Fn) (c' : Nat → FnF) : Mi.Env → Out Fl :=
  (mRet (mCall 1 (c 11) (aV (mFrz (fLc [2, 3] (mIter (mVar 0)) (gmTup 2 (gmCons (setv 2) (gmCons (setv 3) gmNil))) mYes (mIf (mTest (mOp2 dIn (oN 2) (oN 1))) (mCall 2 (c 10) (aV (mOp2 dIx (oN 1) (oN 2)) (aV (mVar 3) aNil))) (mTup (mCons (mTup (mCons (mVar 2) (mCons (mVar 3) mNil))) mNil))))) aNil)))
def m_l_cell (c : Nat → Fn) (c' : Nat → FnF) : Mi.Env → Out Fl :=
  (mSeq (mIf (mTest (mOp2 dLt (oN 1) (oE (mCB dLen (oCons (oN 0) oNil))))) (mRet (mOp2 dIx (oN 0) (oN 1))) mNext)
  (mRet (mOp2 dAdd (oE (mOp2 dMulH (oE (mC (.int 15485917))) (oN 1))) (oE (mC (.int 353))))))
def m_l_box (c : Nat → Fn) (c' : Nat → FnF) : Mi.Env → Out OD :=
  (fLst (mCons (mCB dMax (oCons (oE (mC (.int 0))) (oCons (oE (mOp2 dSub (oE (mCB dAbs (oCons (oN 0) oNil))) (oE (mOp2 dPow (oE (mC (.int 10))) (oE (mC (.int 18))))))) oNil))) (mCons (mOp2 dMod (oE (mCB dAbs (oCons (oN 0) oNil))) (oE (mC (.int 2147483629)))) (mCons (mC (.int 0)) mNil))))
def m_l_take (c : Nat → Fn) (c' : Nat → FnF) : Mi.Env → Out Fl :=
  (mSeq (mIf (mTest (mOp2 dGt (oE (mOp2 dIx (oN 0) (oE (mC (.int 0))))) (oE (mC (.int 0))))) (mSeq (mAsg (mOp2 dMod (oE (mOp2 dIx (oN 0) (oE (mC (.int 0))))) (oN 1)) (setv 2))
  (mSeq (mSetIx 0 (mOp2 dDiv (oE (mOp2 dIx (oN 0) (oE (mC (.int 0))))) (oN 1)) (mC (.int 0)))
  (mRet (mVar 2)))) mNext)
  (mSeq (mSetIx 0 (mOp2 dAdd (oE (mOp2 dIx (oN 0) (oE (mC (.int 2))))) (oE (mC (.int 1)))) (mC (.int 2)))
  (mSeq (mAsg (mOp2 dMod (oE (mOp2 dPow (oE (mOp2 dAdd (oE (mOp2 dAdd (oE (mOp2 dIx (oN 0) (oE (mC (.int 1))))) (oE (mOp2 dMulH (oE (mC (.int 6599))) (oE (mOp2 dIx (oN 0) (oE (mC (.int 2))))))))) (oE (mC (.int 1019))))) (oE (mC (.int 5))))) (oE (mC (.int 2147483647)))) (setv 3))
  (mSeq (mAsg (mOp2 dMod (oE (mOp2 dPow (oE (mOp2 dAdd (oN 3) (oE (mOp2 dMulH (oE (mC (.int 104717))) (oE (mOp2 dIx (oN 0) (oE (mC (.int 2))))))))) (oE (mC (.int 3))))) (oE (mC (.int 2147483549)))) (setv 3))
  (mRet (mOp2 dMod (oE (mOp2 dDiv (oN 3) (oE (mC (.int 16))))) (oN 1)))))))
def m_l_word (c : Nat → Fn) (c' : Nat → FnF) : Mi.Env → Out Fl :=
  (mSeq (mAsg (mFrz (fLst (mCons (mC (.str "m")) (mCons (mC (.str "s")) (mCons (mC (.str "kg")) (mCons (mC (.str "m1")) (mCons (mC (.str "m12")) (mCons (mC (.str "m999")) (mCons (mC (.str "mm")) (mCons (mC (.str "abcdef")) (mCons (mC (.str "abcdef1")) (mCons (mC (.str "fnx")) (mCons (mC (.str "a")) (mCons (mC (.str "zz9")) (mCons (mC (.str "fn1")) (mCons (mC (.str "lets")) (mCons (mC (.str "n")) mNil))))))))))))))))) (setv 1))
  (mRet (mOp2 dIx (oN 1) (oE (mCall 2 (c 22) (aS 0 (aV (mC (.int 15)) aNil)))))))
def m_l_factor (c : Nat → Fn) (c' : Nat → FnF) : Mi.Env → Out Fl :=
  (mRet (mOp2 dAdd (oE (mOp2 dIx (oE (mFrz (fLst (mCons (mC (.str "")) (mCons (mC (.str "")) (mCons (mC (.str "'")) mNil)))))) (oE (mCall 2 (c 22) (aS 0 (aV (mC (.int 3)) aNil)))))) (oE (mCall 1 (c 23) (aS 0 aNil)))))
def m_l_power (c : Nat → Fn) (c' : Nat → FnF) : Mi.Env → Out Fl :=
  (mRet (mOp2 dIx (oE (mFrz (fLst (mCons (mC (.int 1)) (mCons (mC (.int 1)) (mCons (mUn dNeg (oE (mC (.int 1)))) (mCons (mC (.int 2)) (mCons (mUn dNeg (oE (mC (.int 2)))) (mCons (mC (.int 10)) (mCons (mUn dNeg (oE (mC (.int 37)))) (mCons (mC (.int 100)) (mCons (mC (.int 12345)) (mCons (mC (.int 3)) mNil))))))))))))) (oE (mCall 2 (c 22) (aS 0 (aV (mC (.int 10)) aNil))))))
def m_l_measure (c : Nat → Fn) (c' : Nat → FnF) : Mi.Env → Out Fl :=
  (mSeq (mAsgO 2 fDk)
  (mSeq (mFor (mRange1 (mCall 2 (c 22) (aS 0 (aV (mOp2 dAdd (oN 1) (oE (mC (.int 1)))) aNil)))) (setv 3) (mPut 2 (mCall 1 (c 24) (aS 0 aNil)) (mCall 1 (c 25) (aS 0 aNil))))
  (mRet (mCall 1 (c 27) (aS 2 aNil)))))
def m_l_of (c : Nat → Fn) (c' : Nat → FnF) : Mi.Env → Out Fl :=
  (mRet (mCB dTuple (oCons (oE (mFrz (fLc [1] (mIter (mFrz (fSorted (oN 0)))) (setv 1) (mTest (mOp2 dNeH (oE (mOp2 dIx (oN 0) (oN 1))) (oE (mC (.int 0))))) (mTup (mCons (mVar 1) (mCons (mOp2 dIx (oN 0) (oN 1)) mNil)))))) oNil)))
def m_l_product (c : Nat → Fn) (c' : Nat → FnF) : Mi.Env → Out Fl :=
  (mSeq (mAsgO 3 (fDict (oN 0)))
  (mSeq (mFor (mIter (mVar 1)) (gmTup 2 (gmCons (setv 4) (gmCons (setv 5) gmNil))) (mPut 3 (mVar 4) (mOp2 dAdd (oE (mGet2 (oN 3) (mVar 4) (mC (.int 0)))) (oE (mOp2 dMulH (oN 2) (oN 5))))))
  (mRet (mCall 1 (c 27) (aS 3 aNil)))))
def m_l_shown (c : Nat → Fn) (c' : Nat → FnF) : Mi.Env → Out Fl :=
  (mSeq (mAsgO 1 (fLst mNil))
  (mSeq (mFor (mIter (mVar 0)) (gmTup 2 (gmCons (setv 2) (gmCons (setv 3) gmNil))) (mDrop (mAppend 1 (mIf (mTest (mOp2 dEqH (oN 3) (oE (mC (.int 1))))) (mVar 2) (mOp2 dAdd (oE (mOp2 dAdd (oN 2) (oE (mC (.str "^"))))) (oE (mCB dStr (oCons (oN 3) oNil))))))))
  (mRet (mM1 dJoin (mC (.str " ")) (oN 1)))))
def m_l_is_word (c : Nat → Fn) (c' : Nat → FnF) : Mi.Env → Out Fl :=
  (mSeq (mAsg (mCB dLen (oCons (oE (mFrz (fLc [2] (mRange1 (mCB dLen (oCons (oN 0) oNil))) (setv 2) (mTru (oE (mCall 1 (c 31) (aV (mSl (oN 0) mNoPart (mPart (mOp2 dAdd (oN 2) (oE (mC (.int 1)))))) aNil)))) (mVar 2)))) oNil)) (setv 1))
  (mSeq (mAsg (mSl (oN 0) (mPart (mVar 1)) mNoPart) (setv 3))
  (mSeq (mIf (mOr (mNot (mTest (mChain dLe dLe (mC (.int 1)) (mVar 1) (mC (.int 6))))) (mOr (mTest (mOp2 dGt (oE (mCB dLen (oCons (oN 3) oNil))) (oE (mC (.int 3))))) (mTest (mOp2 dEqH (oE (mSl (oN 3) mNoPart (mPart (mC (.int 1))))) (oE (mC (.str "0"))))))) (mRet (mC (.bl false))) mNext)
  (mSeq (mIf (mTest (mOp2 dIn (oN 0) (oE (mFrz (fLst (mCons (mC (.str "fn")) (mCons (mC (.str "let")) (mCons (mC (.str "in")) (mCons (mC (.str "rec")) (mCons (mC (.str "match")) (mCons (mC (.str "with")) (mCons (mC (.str "fail")) (mCons (mC (.str "num")) mNil))))))))))))) (mRet (mC (.bl false))) mNext)
  (mRet (mOp2 dEqH (oE (mFrz (fLc [4] (mIter (mVar 3)) (setv 4) (mTest (mOp2 dNotIn (oN 4) (oE (mC (.str "0123456789"))))) (mVar 4)))) (oE (mFrz (fLst mNil)))))))))
def m_l_small (c : Nat → Fn) (c' : Nat → FnF) : Mi.Env → Out Fl :=
  (mRet (mOp2 dEqH (oE (mFrz (fLc [1] (mIter (mVar 0)) (setv 1) (mNot (mTest (mChain dLe dLe (mC (.str "a")) (mVar 1) (mC (.str "z"))))) (mVar 1)))) (oE (mFrz (fLst mNil)))))
def m_l_is_factor (c : Nat → Fn) (c' : Nat → FnF) : Mi.Env → Out Fl :=
  (mRet (mCall 1 (c 30) (aV (mIf (mTest (mOp2 dEqH (oE (mSl (oN 0) mNoPart (mPart (mC (.int 1))))) (oE (mC (.str "'"))))) (mSl (oN 0) (mPart (mC (.int 1))) mNoPart) (mVar 0)) aNil)))
def m_l_next (c : Nat → Fn) (c' : Nat → FnF) : Mi.Env → Out Fl :=
  (mSeq (mAsg (mIf (mTest (mOp2 dEqH (oE (mSl (oN 0) mNoPart (mPart (mC (.int 1))))) (oE (mC (.str "'"))))) (mSl (oN 0) (mPart (mC (.int 1))) mNoPart) (mVar 0)) (setv 1))
  (mSeq (mIf (mTest (mOp2 dEqH (oN 1) (oE (mC (.str ""))))) (mRet (mOp2 dAdd (oE (mC (.str "abcdefghijklmnopqrstuvwxyz"))) (oE (mIf (mTest (mOp2 dEqH (oN 0) (oE (mC (.str ""))))) (mC (.str "'")) (mC (.str "")))))) mNext)
  (mSeq (mIf (mTru (oE (mCall 1 (c 31) (aV (mVar 1) aNil)))) (mRet (mOp2 dAdd (oE (mIf (mTest (mOp2 dLt (oE (mCB dLen (oCons (oN 1) oNil))) (oE (mC (.int 6))))) (mC (.str "abcdefghijklmnopqrstuvwxyz")) (mC (.str "")))) (oE (mC (.str "123456789"))))) mNext)
  (mSeq (mAsg (mCB dLen (oCons (oE (mFrz (fLc [3] (mIter (mVar 1)) (setv 3) (mTest (mOp2 dIn (oN 3) (oE (mC (.str "0123456789"))))) (mVar 3)))) oNil)) (setv 2))
  (mRet (mIf (mTest (mOp2 dLt (oN 2) (oE (mC (.int 3))))) (mC (.str "0123456789")) (mC (.str ""))))))))
def m_l_can_follow (c : Nat → Fn) (c' : Nat → FnF) : Mi.Env → Out Fl :=
  (mSeq (mIf (mAnd (mTru (oE (mCall 1 (c 32) (aV (mVar 0) aNil)))) (mTest (mOp2 dGt (oN 0) (oN 1)))) (mRet (mC (.bl true))) mNext)
  (mSeq (mFor (mIter (mCall 1 (c 33) (aV (mVar 0) aNil))) (setv 2) (mSeq (mAsg (mOp2 dAdd (oN 0) (oN 2)) (setv 3))
  (mSeq (mIf (mAnd (mTest (mOp2 dGt (oN 3) (oN 1))) (mNot (mTest (mOp2 dEqH (oE (mSl (oN 1) mNoPart (mPart (mCB dLen (oCons (oN 3) oNil))))) (oN 3))))) (mRet (mC (.bl true))) mNext)
  (mIf (mAnd (mTest (mOp2 dEqH (oE (mSl (oN 1) mNoPart (mPart (mCB dLen (oCons (oN 3) oNil))))) (oN 3))) (mTru (oE (mCall 2 (c 34) (aV (mVar 3) (aV (mVar 1) aNil)))))) (mRet (mC (.bl true))) mNext))))
  (mRet (mC (.bl false)))))
def m_l_more (c : Nat → Fn) (c' : Nat → FnF) : Mi.Env → Out Fl :=
  (mSeq (mIf (mOr (mTest (mOp2 dEqH (oN 2) (oE (mCB dLen (oCons (oN 0) oNil))))) (mNot (mTru (oE (mCall 2 (c 37) (aV (mSl (oN 0) (mPart (mVar 1)) (mPart (mVar 2))) (aV (mOp2 dIx (oN 0) (oN 2)) aNil))))))) (mRet (mC (.bl false))) mNext)
  (mRet (mCall 2 (c 34) (aV (mSl (oN 0) (mPart (mVar 1)) (mPart (mOp2 dAdd (oN 2) (oE (mC (.int 1)))))) (aV (mVar 3) aNil)))))
def m_l_begun (c : Nat → Fn) (c' : Nat → FnF) : Mi.Env → Out Fl :=
  (mSeq (mAsg (mTup (mCons (mC (.int 0)) (mCons (mC (.str "")) mNil))) (gmTup 2 (gmCons (setv 1) (gmCons (setv 2) gmNil))))
  (mSeq (mFor (mRange1 (mOp2 dAdd (oE (mCB dLen (oCons (oN 0) oNil))) (oE (mC (.int 1))))) (setv 3) (mSeq (mAsg (mVar 1) (setv 4))
  (mSeq (whileL (mTru (oE (mCall 4 (c 35) (aV (mVar 0) (aV (mVar 4) (aV (mVar 1) (aV (mVar 2) aNil))))))) (mAsg (mOp2 dAdd (oN 1) (oE (mC (.int 1)))) (setv 1)) wf)
  (mSeq (mIf (mOr (mNot (mTru (oE (mCall 1 (c 32) (aV (mSl (oN 0) (mPart (mVar 4)) (mPart (mVar 1))) aNil))))) (mNot (mTest (mOp2 dGt (oE (mSl (oN 0) (mPart (mVar 4)) (mPart (mVar 1)))) (oN 2))))) (mRet (mTup (mCons (mVar 1) (mCons (mC (.bl false)) mNil)))) mNext)
  (mSeq (mAsg (mSl (oN 0) (mPart (mVar 4)) (mPart (mVar 1))) (setv 2))
  (mSeq (mIf (mAnd (mTest (mOp2 dLt (oN 1) (oE (mCB dLen (oCons (oN 0) oNil))))) (mTest (mOp2 dEqH (oE (mOp2 dIx (oN 0) (oN 1))) (oE (mC (.str "^")))))) (mSeq (mAsg (mCall 2 (c 38) (aV (mVar 0) (aV (mOp2 dAdd (oN 1) (oE (mC (.int 1)))) aNil))) (gmTup 2 (gmCons (setv 1) (gmCons (setv 5) gmNil))))
  (mIf (mNot (mTru (oN 5))) (mRet (mTup (mCons (mVar 1) (mCons (mC (.bl false)) mNil)))) mNext)) mNext)
  (mSeq (mIf (mTest (mOp2 dEqH (oN 1) (oE (mCB dLen (oCons (oN 0) oNil))))) (mRet (mTup (mCons (mVar 1) (mCons (mC (.bl true)) mNil)))) mNext)
  (mSeq (mIf (mOr (mTest (mOp2 dNeH (oE (mOp2 dIx (oN 0) (oN 1))) (oE (mC (.str " "))))) (mNot (mTru (oE (mCall 2 (c 34) (aV (mC (.str "")) (aV (mVar 2) aNil))))))) (mRet (mTup (mCons (mVar 1) (mCons (mC (.bl false)) mNil)))) mNext)
  (mAsg (mOp2 dAdd (oN 1) (oE (mC (.int 1)))) (setv 1))))))))))
  (mRet (mTup (mCons (mVar 1) (mCons (mC (.bl false)) mNil))))))
def m_l_goes_on (c : Nat → Fn) (c' : Nat → FnF) : Mi.Env → Out Fl :=
  (mRet (mOp2 dIn (oN 1) (oE (mCall 1 (c 33) (aV (mVar 0) aNil)))))
def m_l_power_end (c : Nat → Fn) (c' : Nat → FnF) : Mi.Env → Out Fl :=
  (mSeq (mAsg (mVar 1) (setv 2))
  (mSeq (mIf (mTest (mOp2 dEqH (oE (mSl (oN 0) (mPart (mVar 1)) (mPart (mOp2 dAdd (oN 1) (oE (mC (.int 1))))))) (oE (mC (.str "-"))))) (mAsg (mOp2 dAdd (oN 1) (oE (mC (.int 1)))) (setv 1)) mNext)
  (mSeq (mIf (mOr (mTest (mOp2 dEqH (oN 1) (oE (mCB dLen (oCons (oN 0) oNil))))) (mTest (mOp2 dNotIn (oE (mOp2 dIx (oN 0) (oN 1))) (oE (mC (.str "123456789")))))) (mRet (mTup (mCons (mVar 1) (mCons (mC (.bl false)) mNil)))) mNext)
  (mSeq (whileL (mAnd (mTest (mOp2 dLt (oN 1) (oE (mCB dLen (oCons (oN 0) oNil))))) (mTest (mOp2 dIn (oE (mOp2 dIx (oN 0) (oN 1))) (oE (mC (.str "0123456789")))))) (mAsg (mOp2 dAdd (oN 1) (oE (mC (.int 1)))) (setv 1)) wf)
  (mRet (mTup (mCons (mVar 1) (mCons (mOp2 dNeH (oE (mSl (oN 0) (mPart (mVar 2)) (mPart (mVar 1)))) (oE (mC (.str "1")))) mNil))))))))
def m_l_told (c : Nat → Fn) (c' : Nat → FnF) : Mi.Env → Out Fl :=
  (mTryC 1 0 1 (mRet (mFrz (fLst (mCons (mC (.str "read")) (mCons (mCall 1 (c 18) (aV (mVar 0) aNil)) mNil))))) (fun x => (mRet (mFrz (fLst (mCons (mC (.str "text")) (mCons (mXf 1 x) mNil)))))))
def m_l_spoiled (c : Nat → Fn) (c' : Nat → FnF) : Mi.Env → Out Fl :=
  (mSeq (mAsg (mCall 2 (c 22) (aS 0 (aV (mOp2 dAdd (oE (mCB dLen (oCons (oN 1) oNil))) (oE (mC (.int 1)))) aNil))) (setv 2))
  (mSeq (mAsg (mOp2 dIx (oE (mFrz (fLst (mCons (mC (.str "")) (mCons (mC (.str " ")) (mCons (mC (.str "^")) (mCons (mC (.str "-")) (mCons (mC (.str "0")) (mCons (mC (.str "1")) (mCons (mC (.str "7")) (mCons (mC (.str "m")) (mCons (mC (.str "s")) (mCons (mC (.str "'")) (mCons (mC (.str "A")) (mCons (mC (.str "  ")) (mCons (mC (.str "^1")) (mCons (mC (.str "_")) (mCons (mC (.str " a")) (mCons (mC (.str " zz")) mNil))))))))))))))))))) (oE (mCall 2 (c 22) (aS 0 (aV (mC (.int 16)) aNil))))) (setv 3))
  (mSeq (mPar 7 [4, 5] (aV (mCall 2 (c 22) (aS 0 (aV (mC (.int 6)) aNil))) (aV (mM1 dSplit (mVar 1) (oE (mC (.str " ")))) aNil)))
  (mSeq (mIf (mTest (mOp2 dEqH (oN 4) (oE (mC (.int 0))))) (mRet (mSl (oN 1) mNoPart (mPart (mVar 2)))) mNext)
  (mSeq (mIf (mTest (mOp2 dEqH (oN 4) (oE (mC (.int 1))))) (mRet (mOp2 dAdd (oE (mOp2 dAdd (oE (mSl (oN 1) mNoPart (mPart (mVar 2)))) (oN 3))) (oE (mSl (oN 1) (mPart (mVar 2)) mNoPart)))) mNext)
  (mSeq (mIf (mTest (mOp2 dEqH (oN 4) (oE (mC (.int 4))))) (mSeq (mAsg (mCall 2 (c 22) (aS 0 (aV (mCB dLen (oCons (oN 5) oNil)) aNil))) (setv 6))
  (mRet (mM1 dJoin (mC (.str " ")) (oE (mOp2 dAdd (oE (mSl (oN 5) mNoPart (mPart (mOp2 dAdd (oN 6) (oE (mC (.int 1))))))) (oE (mSl (oN 5) (mPart (mVar 6)) mNoPart))))))) mNext)
  (mSeq (mIf (mTest (mOp2 dEqH (oN 4) (oE (mC (.int 5))))) (mRet (mM1 dJoin (mC (.str " ")) (oE (mFrz (fRev (oN 5)))))) mNext)
  (mRet (mOp2 dAdd (oE (mOp2 dAdd (oE (mSl (oN 1) mNoPart (mPart (mVar 2)))) (oN 3))) (oE (mSl (oN 1) (mPart (mOp2 dAdd (oE (mOp2 dAdd (oN 2) (oE (mC (.int 1))))) (oE (mOp2 dMod (oN 4) (oE (mC (.int 2))))))) mNoPart)))))))))))
def m_l_texts_right (c : Nat → Fn) (c' : Nat → FnF) : Mi.Env → Out Fl :=
  (mSeq (mAsg (mCall 1 (c 29) (aV (mVar 1) aNil)) (setv 2))
  (mSeq (mIf (mOr (mTest (mOp2 dNeH (oE (mCall 1 (c 12) (aV (mVar 1) aNil))) (oN 2))) (mTest (mOp2 dNeH (oE (mCall 1 (c 39) (aV (mVar 2) aNil))) (oE (mFrz (fLst (mCons (mC (.str "read")) (mCons (mVar 1) mNil)))))))) (mRet (mC (.bl false))) mNext)
  (mSeq (mFor (mRange1 (mC (.int 3))) (setv 3) (mSeq (mAsg (mCall 2 (c 40) (aS 0 (aV (mVar 2) aNil))) (setv 2))
  (mSeq (mAsg (mCall 1 (c 39) (aV (mVar 2) aNil)) (setv 4))
  (mIf (mTest (mOp2 dEqH (oN 2) (oE (mC (.str ""))))) (mIf (mTest (mOp2 dNeH (oN 4) (oE (mFrz (fLst (mCons (mC (.str "read")) (mCons (mTup mNil) mNil))))))) (mRet (mC (.bl false))) mNext) (mSeq (mAsg (mCall 1 (c 36) (aV (mVar 2) aNil)) (gmTup 2 (gmCons (setv 5) (gmCons (setv 6) gmNil))))
  (mIf (mOr (mAnd (mTru (oN 6)) (mOr (mTest (mOp2 dNeH (oE (mOp2 dIx (oN 4) (oE (mC (.int 0))))) (oE (mC (.str "read"))))) (mTest (mOp2 dNeH (oE (mCall 1 (c 29) (aV (mOp2 dIx (oN 4) (oE (mC (.int 1)))) aNil))) (oN 2))))) (mAnd (mNot (mTru (oN 6))) (mTest (mOp2 dNeH (oN 4) (oE (mFrz (fLst (mCons (mC (.str "text")) (mCons (mVar 5) mNil))))))))) (mRet (mC (.bl false))) mNext))))))
  (mRet (mC (.bl true))))))
def m_l_odd_right (c : Nat → Fn) (c' : Nat → FnF) : Mi.Env → Out Fl :=
  (mSeq (mAsg (mFrz (fLst (mCons (mC .non) (mCons (mC (.int 3)) (mCons (mC (.str "m")) (mCons (mFrz (fLst (mCons (mTup (mCons (mC (.str "m")) (mCons (mC (.int 1)) mNil))) mNil))) (mCons (mTup (mCons (mTup (mCons (mC (.str "m")) (mCons (mC (.int 0)) mNil))) mNil)) (mCons (mTup (mCons (mTup (mCons (mC (.str "m")) (mCons (mC (.bl true)) mNil))) mNil)) (mCons (mTup (mCons (mTup (mCons (mC (.str "m")) (mCons (mC (.int 1)) mNil))) (mCons (mTup (mCons (mC (.str "m")) (mCons (mC (.int 2)) mNil))) mNil))) (mCons (mTup (mCons (mTup (mCons (mC (.str "s")) (mCons (mC (.int 1)) mNil))) (mCons (mTup (mCons (mC (.str "m")) (mCons (mC (.int 1)) mNil))) mNil))) mNil)))))))))) (setv 2))
  (mSeq (mAsg (mOp2 dAdd (oN 2) (oE (mFrz (fLst (mCons (mTup (mCons (mTup (mCons (mC (.str "fn")) (mCons (mC (.int 1)) mNil))) mNil)) mNil))))) (setv 2))
  (mSeq (mAsg (mOp2 dAdd (oN 2) (oE (mFrz (fLst (mCons (mTup (mCons (mTup (mCons (mC (.str "m")) (mCons (mC (.int 1)) (mCons (mC (.int 1)) mNil)))) mNil)) (mCons (mTup (mCons (mFrz (fLst (mCons (mC (.str "m")) (mCons (mC (.int 1)) mNil)))) mNil)) (mCons (mTup (mCons (mC (.str "m")) (mCons (mC (.int 1)) mNil))) (mCons (mTup (mCons (mTup (mCons (mC (.int 1)) (mCons (mC (.str "m")) mNil))) mNil)) (mCons (mTup (mCons (mTup (mCons (mC (.str "'")) (mCons (mC (.int 1)) mNil))) mNil)) (mCons (mTup (mCons (mTup (mCons (mC (.str "'fn")) (mCons (mC (.int 1)) mNil))) mNil)) mNil)))))))))) (setv 2))
  (mSeq (mAsg (mOp2 dAdd (oN 2) (oE (mFrz (fLst (mCons (mTup (mCons (mTup (mCons (mC (.str "m0")) (mCons (mC (.int 1)) mNil))) mNil)) (mCons (mTup (mCons (mTup (mCons (mC (.str "M")) (mCons (mC (.int 1)) mNil))) mNil)) mNil)))))) (setv 2))
  (mSeq (mAsg (mOp2 dAdd (oN 2) (oE (mFrz (fLst (mCons (mTup (mCons (mTup (mCons (mC (.str "abcdefg")) (mCons (mC (.int 1)) mNil))) mNil)) (mCons (mTup (mCons (mTup (mCons (mC (.str "m1234")) (mCons (mC (.int 1)) mNil))) mNil)) (mCons (mTup (mCons (mTup (mCons (mC (.str "")) (mCons (mC (.int 1)) mNil))) mNil)) (mCons (mTup (mCons (mTup (mCons (mC (.str "$m")) (mCons (mC (.int 1)) mNil))) mNil)) (mCons (mTup (mCons (mTup (mCons (mC .non) (mCons (mC (.int 1)) mNil))) mNil)) (mCons (mFrz (fList (oN 1))) mNil)))))))))) (setv 2))
  (mSeq (mIf (mTest (mOp2 dNeH (oE (mFrz (fLc [3] (mIter (mVar 2)) (setv 3) (mTest (mOp2 dIsNot (oE (mCall 1 (c 7) (aV (mVar 3) aNil))) (oE (mC (.bl false))))) (mVar 3)))) (oE (mFrz (fLst mNil))))) (mRet (mC (.bl false))) mNext)
  (mRet (mAndV (mOp2 dIs (oE (mCall 1 (c 7) (aV (mVar 1) aNil))) (oE (mC (.bl true)))) (mOp2 dIs (oE (mCall 1 (c 7) (aV (mTup mNil) aNil))) (oE (mC (.bl true))))))))))))
def m_law (c : Nat → Fn) (c' : Nat → FnF) : Mi.Env → Out Fl :=
  (mSeq (mFor (mRange1 (mCB dMax (oCons (oE (mC (.int 2))) (oCons (oE (mCB dMin (oCons (oE (mC (.int 5))) (oCons (oE (mCB dLen (oCons (oN 0) oNil))) oNil)))) oNil)))) (setv 1) (mSeq (mAsgO 2 (fCall 1 (c' 21) (aV (mCall 2 (c 20) (aV (mVar 0) (aV (mVar 1) aNil))) aNil)))
  (mSeq (mPar 14 [3, 4] (aV (mCall 2 (c 26) (aS 2 (aV (mC (.int 5)) aNil))) (aV (mCall 2 (c 26) (aS 2 (aV (mC (.int 4)) aNil))) aNil)))
  (mSeq (mIf (mTest (mOp2 dEqH (oE (mCall 2 (c 22) (aS 2 (aV (mC (.int 2)) aNil)))) (oE (mC (.int 0))))) (mAsg (mCall 3 (c 28) (aV (mVar 3) (aV (mTup (mCons (mTup (mCons (mC (.str "'m")) (mCons (mOp2 dAdd (oE (mC (.int 1))) (oE (mCall 2 (c 22) (aS 2 (aV (mC (.int 2)) aNil))))) mNil))) (mCons (mTup (mCons (mC (.str "'s")) (mCons (mUn dNeg (oE (mC (.int 1)))) mNil))) mNil))) (aV (mC (.int 1)) aNil)))) (setv 3)) mNext)
  (mSeq (mAsg (mOp2 dIx (oE (mFrz (fLst (mCons (mC (.int 0)) (mCons (mC (.int 1)) (mCons (mUn dNeg (oE (mC (.int 1)))) (mCons (mC (.int 2)) (mCons (mUn dNeg (oE (mC (.int 3)))) (mCons (mC (.int 50)) mNil))))))))) (oE (mCall 2 (c 22) (aS 2 (aV (mC (.int 6)) aNil))))) (setv 5))
  (mSeq (mIf (mOr (mTest (mOp2 dNeH (oE (mCall 2 (c 9) (aV (mVar 3) (aV (mVar 4) aNil)))) (oE (mCall 3 (c 28) (aV (mVar 3) (aV (mVar 4) (aV (mC (.int 1)) aNil))))))) (mTest (mOp2 dNeH (oE (mCall 2 (c 10) (aV (mVar 3) (aV (mVar 5) aNil)))) (oE (mCall 3 (c 28) (aV (mTup mNil) (aV (mVar 3) (aV (mVar 5) aNil)))))))) (mRet (mC (.bl false))) mNext)
  (mSeq (mPar 14 [6, 7] (aT fDk (aV (mTup mNil) aNil)))
  (mSeq (mFor (mIter (mOp2 dAdd (oN 3) (oE (mTup (mCons (mTup (mCons (mC (.str "'zzz")) (mCons (mC (.int 1)) mNil))) mNil))))) (gmTup 2 (gmCons (setv 8) (gmCons (setv 9) gmNil))) (mIf (mAnd (mTest (mOp2 dEqH (oE (mOp2 dIx (oN 8) (oE (mC (.int 0))))) (oE (mC (.str "'"))))) (mTest (mOp2 dGt (oE (mCall 2 (c 22) (aS 2 (aV (mC (.int 3)) aNil)))) (oE (mC (.int 0)))))) (mPut 6 (mVar 8) (mCall 2 (c 26) (aS 2 (aV (mC (.int 2)) aNil)))) mNext))
  (mSeq (mAsg (mFrz (fSorted (oN 6))) (setv 10))
  (mSeq (mIf (mAnd (mTest (mOp2 dNeH (oN 10) (oE (mFrz (fLst mNil))))) (mTest (mOp2 dGt (oE (mCall 2 (c 22) (aS 2 (aV (mC (.int 3)) aNil)))) (oE (mC (.int 0)))))) (mSeq (mPar 14 [11, 12] (aV (mOp2 dIx (oN 10) (oE (mCall 2 (c 22) (aS 2 (aV (mCB dLen (oCons (oN 10) oNil)) aNil))))) (aV (mOp2 dIx (oN 10) (oE (mCall 2 (c 22) (aS 2 (aV (mCB dLen (oCons (oN 10) oNil)) aNil))))) aNil)))
  (mPut 6 (mVar 11) (mCall 3 (c 28) (aV (mOp2 dIx (oN 6) (oN 11)) (aV (mTup (mCons (mTup (mCons (mVar 12) (mCons (mC (.int 1)) mNil))) mNil)) (aV (mC (.int 1)) aNil)))))) mNext)
  (mSeq (mFor (mIter (mVar 3)) (gmTup 2 (gmCons (setv 8) (gmCons (setv 9) gmNil))) (mAsg (mCall 3 (c 28) (aV (mVar 7) (aV (mGet2 (oN 6) (mVar 8) (mTup (mCons (mTup (mCons (mVar 8) (mCons (mC (.int 1)) mNil))) mNil))) (aV (mVar 9) aNil)))) (setv 7)))
  (mSeq (mAsg (mFrz (fDict (oN 6))) (setv 13))
  (mSeq (mIf (mOr (mTest (mOp2 dNeH (oE (mCall 2 (c 19) (aV (mVar 3) (aS 6 aNil)))) (oN 7))) (mTest (mOp2 dNeH (oN 6) (oN 13)))) (mRet (mC (.bl false))) mNext)
  (mIf (mOr (mNot (mTru (oE (mCall 2 (c 41) (aS 2 (aV (mVar 3) aNil)))))) (mNot (mTru (oE (mCall 2 (c 42) (aS 2 (aV (mVar 4) aNil))))))) (mRet (mC (.bl false))) mNext))))))))))))))
  (mRet (mC (.bl true))))
def prog (c : Nat → Fn) (c' : Nat → FnF) : Nat → Fn
  | 0 => mBody 0 (m_is_integer c c')
  | 1 => mBody 1 (m_letters_of c c')
  | 2 => mBody 3 (m_is_begun_word c c')
  | 3 => mBody 0 (m_is_word c c')
  | 4 => mBody 0 (m_is_kind_name c c')
  | 5 => mBody 0 (m_is_factor c c')
  | 6 => mBody 0 (m_is_power c c')
  | 7 => mBody 3 (m_is_measure c c')
  | 8 => mBody 1 (m_measure_of c c')
  | 9 => mBody 3 (m_times c c')
  | 10 => mBody 2 (m_power c c')
  | 11 => mBody 2 (m_product c c')
  | 12 => mBody 2 (m_measure_text c c')
  | 13 => mBody 1 (m_is_begun c c')
  | 14 => mBody 3 (m_last_one c c')
  | 15 => mBody 0 (m_may_follow c c')
  | 16 => mBody 1 (m_read_factor c c')
  | 17 => mBody 2 (m_read_power c c')
  | 18 => mBody 5 (m_read_measure c c')
  | 19 => mBody 2 (m_fill_measure c c')
  | 20 => mBody 0 (m_l_cell c c')
  | 22 => mBody 2 (m_l_take c c')
  | 23 => mBody 1 (m_l_word c c')
  | 24 => mBody 0 (m_l_factor c c')
  | 25 => mBody 0 (m_l_power c c')
  | 26 => mBody 2 (m_l_measure c c')
  | 27 => mBody 1 (m_l_of c c')
  | 28 => mBody 3 (m_l_product c c')
  | 29 => mBody 3 (m_l_shown c c')
  | 30 => mBody 4 (m_l_is_word c c')
  | 31 => mBody 1 (m_l_small c c')
  | 32 => mBody 0 (m_l_is_factor c c')
  | 33 => mBody 3 (m_l_next c c')
  | 34 => mBody 2 (m_l_can_follow c c')
  | 35 => mBody 0 (m_l_more c c')
  | 36 => mBody 5 (m_l_begun c c')
  | 37 => mBody 0 (m_l_goes_on c c')
  | 38 => mBody 1 (m_l_power_end c c')
  | 39 => mBody 1 (m_l_told c c')
  | 40 => mBody 5 (m_l_spoiled c c')
  | 41 => mBody 5 (m_l_texts_right c c')
  | 42 => mBody 2 (m_l_odd_right c c')
  | 43 => mBody 13 (m_law c c')
  | _ => fun _ => .no
def progF (c : Nat → Fn) (c' : Nat → FnF) : Nat → FnF
  | 21 => mBodyF 0 (m_l_box c c')
  | _ => fun _ => .no
def runs : Nat → (Nat → Fn) × (Nat → FnF)
  | 0 => (fun _ _ => .no, fun _ _ => .no)
  | n + 1 => (prog (runs n).1 (runs n).2, progF (runs n).1 (runs n).2)
def run (n : Nat) : Nat → Fn := (runs n).1
def runF (n : Nat) : Nat → FnF := (runs n).2
structure Ok (P : Program) (w : World) (K : PySem.W.Frag) (mg : Str → Option Value) (base : Heap) (a : Ad) (n : Nat) : Prop where
  o_is_integer : FnG P w K mg base (L2.CX P w) (n + 2) a.f_is_integer a.d_is_integer ["value"] (SpM (cf K a) 1 (run n 0))
  o_letters_of : FnG P w K mg base (L2.CX P w) (n + 2) a.f_letters_of a.d_letters_of ["text"] (SpM (cf K a) 1 (run n 1))
  o_is_begun_word : FnG P w K mg base (L2.CX P w) (n + 2) a.f_is_begun_word a.d_is_begun_word ["text"] (SpM (cf K a) 1 (run n 2))
  o_is_word : FnG P w K mg base (L2.CX P w) (n + 2) a.f_is_word a.d_is_word ["value"] (SpM (cf K a) 1 (run n 3))
  o_is_kind_name : FnG P w K mg base (L2.CX P w) (n + 2) a.f_is_kind_name a.d_is_kind_name ["value"] (SpM (cf K a) 1 (run n 4))
  o_is_factor : FnG P w K mg base (L2.CX P w) (n + 2) a.f_is_factor a.d_is_factor ["value"] (SpM (cf K a) 1 (run n 5))
  o_is_power : FnG P w K mg base (L2.CX P w) (n + 2) a.f_is_power a.d_is_power ["value"] (SpM (cf K a) 1 (run n 6))
  o_is_measure : FnG P w K mg base (L2.CX P w) (n + 2) a.f_is_measure a.d_is_measure ["value"] (SpM (cf K a) 1 (run n 7))
  o_measure_of : FnG P w K mg base (L2.CX P w) (n + 2) a.f_measure_of a.d_measure_of ["powers"] (SpM (cf K a) 1 (run n 8))
  o_times : FnG P w K mg base (L2.CX P w) (n + 2) a.f_times a.d_times ["one", "other"] (SpM (cf K a) 2 (run n 9))
  o_power : FnG P w K mg base (L2.CX P w) (n + 2) a.f_power a.d_power ["measure", "n"] (SpM (cf K a) 2 (run n 10))
  o_product : FnG P w K mg base (L2.CX P w) (n + 2) a.f_product a.d_product ["measures"] (SpM (cf K a) 1 (run n 11))
  o_measure_text : FnG P w K mg base (L2.CX P w) (n + 2) a.f_measure_text a.d_measure_text ["measure"] (SpM (cf K a) 1 (run n 12))
  o_is_begun : FnG P w K mg base (L2.CX P w) (n + 2) a.f_is_begun a.d_is_begun ["text"] (SpM (cf K a) 1 (run n 13))
  o_last_one : FnG P w K mg base (L2.CX P w) (n + 2) a.f_last_one a.d_last_one ["text"] (SpM (cf K a) 1 (run n 14))
  o_may_follow : FnG P w K mg base (L2.CX P w) (n + 2) a.f_may_follow a.d_may_follow ["text", "last"] (SpM (cf K a) 2 (run n 15))
  o_read_factor : FnG P w K mg base (L2.CX P w) (n + 2) a.f_read_factor a.d_read_factor ["text", "begin", "last"] (SpM (cf K a) 3 (run n 16))
  o_read_power : FnG P w K mg base (L2.CX P w) (n + 2) a.f_read_power a.d_read_power ["text", "begin"] (SpM (cf K a) 2 (run n 17))
  o_read_measure : FnG P w K mg base (L2.CX P w) (n + 2) a.f_read_measure a.d_read_measure ["text"] (SpM (cf K a) 1 (run n 18))
  o_fill_measure : FnG P w K mg base (L2.CX P w) (n + 2) a.f_fill_measure a.d_fill_measure ["measure", "table"] (SpM (cf K a) 2 (run n 19))
  o_l_cell : FnG P w K mg base (L2.CX P w) (n + 2) a.f_l_cell a.d_l_cell ["_law_script", "_law_k"] (SpM (cf K a) 2 (run n 20))
  o_l_box : FnG P w K mg base (L2.CX P w) (n + 2) a.f_l_box a.d_l_box ["_law_cell_here"] (SpMF (cf K a) 1 (runF n 21))
  o_l_take : FnG P w K mg base (L2.CX P w) (n + 2) a.f_l_take a.d_l_take ["_law_box_here", "_law_many"] (SpM (cf K a) 2 (run n 22))
  o_l_word : FnG P w K mg base (L2.CX P w) (n + 2) a.f_l_word a.d_l_word ["_law_box_here"] (SpM (cf K a) 1 (run n 23))
  o_l_factor : FnG P w K mg base (L2.CX P w) (n + 2) a.f_l_factor a.d_l_factor ["_law_box_here"] (SpM (cf K a) 1 (run n 24))
  o_l_power : FnG P w K mg base (L2.CX P w) (n + 2) a.f_l_power a.d_l_power ["_law_box_here"] (SpM (cf K a) 1 (run n 25))
  o_l_measure : FnG P w K mg base (L2.CX P w) (n + 2) a.f_l_measure a.d_l_measure ["_law_box_here", "_law_most"] (SpM (cf K a) 2 (run n 26))
  o_l_of : FnG P w K mg base (L2.CX P w) (n + 2) a.f_l_of a.d_l_of ["_law_powers"] (SpM (cf K a) 1 (run n 27))
  o_l_product : FnG P w K mg base (L2.CX P w) (n + 2) a.f_l_product a.d_l_product ["_law_one", "_law_other", "_law_n"] (SpM (cf K a) 3 (run n 28))
  o_l_shown : FnG P w K mg base (L2.CX P w) (n + 2) a.f_l_shown a.d_l_shown ["_law_measure_here"] (SpM (cf K a) 1 (run n 29))
  o_l_is_word : FnG P w K mg base (L2.CX P w) (n + 2) a.f_l_is_word a.d_l_is_word ["_law_text"] (SpM (cf K a) 1 (run n 30))
  o_l_small : FnG P w K mg base (L2.CX P w) (n + 2) a.f_l_small a.d_l_small ["_law_text"] (SpM (cf K a) 1 (run n 31))
  o_l_is_factor : FnG P w K mg base (L2.CX P w) (n + 2) a.f_l_is_factor a.d_l_is_factor ["_law_text"] (SpM (cf K a) 1 (run n 32))
  o_l_next : FnG P w K mg base (L2.CX P w) (n + 2) a.f_l_next a.d_l_next ["_law_text"] (SpM (cf K a) 1 (run n 33))
  o_l_can_follow : FnG P w K mg base (L2.CX P w) (n + 2) a.f_l_can_follow a.d_l_can_follow ["_law_text", "_law_last"] (SpM (cf K a) 2 (run n 34))
  o_l_more : FnG P w K mg base (L2.CX P w) (n + 2) a.f_l_more a.d_l_more ["_law_text", "_law_begin", "_law_spot", "_law_last"] (SpM (cf K a) 4 (run n 35))
  o_l_begun : FnG P w K mg base (L2.CX P w) (n + 2) a.f_l_begun a.d_l_begun ["_law_text"] (SpM (cf K a) 1 (run n 36))
  o_l_goes_on : FnG P w K mg base (L2.CX P w) (n + 2) a.f_l_goes_on a.d_l_goes_on ["_law_text", "_law_sign"] (SpM (cf K a) 2 (run n 37))
  o_l_power_end : FnG P w K mg base (L2.CX P w) (n + 2) a.f_l_power_end a.d_l_power_end ["_law_text", "_law_spot"] (SpM (cf K a) 2 (run n 38))
  o_l_told : FnG P w K mg base (L2.CX P w) (n + 2) a.f_l_told a.d_l_told ["_law_text"] (SpM (cf K a) 1 (run n 39))
  o_l_spoiled : FnG P w K mg base (L2.CX P w) (n + 2) a.f_l_spoiled a.d_l_spoiled ["_law_box_here", "_law_text"] (SpM (cf K a) 2 (run n 40))
  o_l_texts_right : FnG P w K mg base (L2.CX P w) (n + 2) a.f_l_texts_right a.d_l_texts_right ["_law_box_here", "_law_measure_here"] (SpM (cf K a) 2 (run n 41))
  o_l_odd_right : FnG P w K mg base (L2.CX P w) (n + 2) a.f_l_odd_right a.d_l_odd_right ["_law_box_here", "_law_measure_here"] (SpM (cf K a) 2 (run n 42))
  o_law : FnG P w K mg base (L2.CX P w) (n + 2) a.f_law a.d_law ["_law_script"] (SpM (cf K a) 1 (run n 43))
--CUT is_integer
theorem w_is_integer (T : Txt K mg a) {n : Nat} (I : Ok P w K mg base a n) : FnG P w K mg base (L2.CX P w) (n + 1 + 2) a.f_is_integer a.d_is_integer ["value"] (SpM (cf K a) 1 (run (n + 1) 0)) := by
  refine fn_ok (k := n + 2) (nl := 0) (ms := m_is_integer (run n) (runF n)) T.h_is_integer.F sc_is_integer rfl fun cdv A outer s H E A0 F0 H0 ex hr hgd => ?_
  have tk : Takes (cxOf (L2.CX P w) P w K mg base ["value"] "is_integer" (defScope s_is_integer) a.f_is_integer cdv A outer s H E) (fun cls d _ H => E cls d H) := takes_of rfl rfl rfl rfl
  exact ⟨_, (pss_one (ps_ret (pe_and (pe_callB (Mi.call_isiG rfl) (by rfl) T.z_isinstance (by decide +kernel) (pa_cons (pv 0) (pa_cons (pe_bltn (by rfl) T.z_int (by decide +kernel) (show RelV (.ty "int") _ from rfl)) pa_nil))) (pe_one (pe_not (pe_callB (Mi.call_isiG rfl) (by rfl) T.z_isinstance (by decide +kernel) (pa_cons (pv 0) (pa_cons (pe_bltn (by rfl) T.z_bool (by decide +kernel) (show RelV (.ty "bool") _ from rfl)) pa_nil)))))))),
   (sim_ret (sim_andV (sim_isi .int (sim_oN (Nat.le_of_ble_eq_true rfl))) (sim_notV (sim_isi .bool (sim_oN (Nat.le_of_ble_eq_true rfl))))))⟩
--CUT letters_of
theorem w_letters_of (T : Txt K mg a) {n : Nat} (I : Ok P w K mg base a n) : FnG P w K mg base (L2.CX P w) (n + 1 + 2) a.f_letters_of a.d_letters_of ["text"] (SpM (cf K a) 1 (run (n + 1) 1)) := by
  refine fn_ok (k := n + 2) (nl := 1) (ms := m_letters_of (run n) (runF n)) T.h_letters_of.F sc_letters_of rfl fun cdv A outer s H E A0 F0 H0 ex hr hgd => ?_
  have tk : Takes (cxOf (L2.CX P w) P w K mg base ["text", "many"] "letters_of" (defScope s_letters_of) a.f_letters_of cdv A outer s H E) (fun cls d _ H => E cls d H) := takes_of rfl rfl rfl rfl
  exact ⟨_, (pss_cons (ps_set (i := 1) sc_letters_of.nd rfl (Or.inl rfl) pe_int)
  (pss_cons (ps_while (passes_of rfl) (PW.pt (pw_and (pt_cmpR Mi.op_ltG (pv 1) (pe_callB (Mi.call_lenG rfl) (by rfl) T.z_len (by decide +kernel) (pa_cons (pv 0) pa_nil)) (nomark _)) (pw_and1 (pt_cmpR (Mi.op_inG rfl (hu_of hr)) (pe_ix (Mi.ix_G rfl (hu_of hr)) (pv 0) (pv 1) (fun _ _ => rfl)) (Wk.pe_gstr T.g_LETTERS ) rfl)))) (pss_one (ps_aug (i := 1) sc_letters_of.nd rfl (Or.inl rfl) pe_int ip_add)))
  (pss_one (ps_ret (pe_slice (Mi.sl_G rfl) (pv 0) po_none (po_some (pv 1))))))),
   (sim_seq (sim_asg (vs := [1]) (sim_c fun _ => .int _) (sim_gName (Nat.le_of_ble_eq_true rfl) (by decide)))
  (sim_seq (sim_while wf (sim_and (sim_test (sim_op2 o2_lt (sim_oN (Nat.le_of_ble_eq_true rfl)) (sim_oE (sim_cb on_len (sim_ocons (sim_oN (Nat.le_of_ble_eq_true rfl)) sim_onil))))) (sim_test (sim_op2 o2_in (sim_oE (sim_op2 o2_ix (sim_oN (Nat.le_of_ble_eq_true rfl)) (sim_oN (Nat.le_of_ble_eq_true rfl)))) (sim_oE (sim_c fun _ => .str _))))) (sim_aug (Nat.le_of_ble_eq_true rfl) (sim_c fun _ => .int _)))
  (sim_ret (sim_sl (sim_oN (Nat.le_of_ble_eq_true rfl)) sim_noPart (sim_part (sim_var (Nat.le_of_ble_eq_true rfl)))))))⟩
--CUT is_begun_word
theorem w_is_begun_word (T : Txt K mg a) {n : Nat} (I : Ok P w K mg base a n) : FnG P w K mg base (L2.CX P w) (n + 1 + 2) a.f_is_begun_word a.d_is_begun_word ["text"] (SpM (cf K a) 1 (run (n + 1) 2)) := by
  refine fn_ok (k := n + 2) (nl := 3) (ms := m_is_begun_word (run n) (runF n)) T.h_is_begun_word.F sc_is_begun_word rfl fun cdv A outer s H E A0 F0 H0 ex hr hgd => ?_
  have tk : Takes (cxOf (L2.CX P w) P w K mg base ["text", "letters", "digits", "sign"] "is_begun_word" (defScope s_is_begun_word) a.f_is_begun_word cdv A outer s H E) (fun cls d _ H => E cls d H) := takes_of rfl rfl rfl rfl
  exact ⟨_, (pss_cons (ps_set (i := 1) sc_is_begun_word.nd rfl (Or.inl rfl) (Mi.pe_callSG (E := WE _) I.o_letters_of hr hgd rfl T.h_letters_of.g T.h_letters_of.F.kp T.b_letters_of (fun σ => passAt tk σ) (pa_cons (pv 0) pa_nil)))
  (pss_cons (ps_set (i := 2) sc_is_begun_word.nd rfl (Or.inl rfl) (pe_slice (Mi.sl_G rfl) (pv 0) (po_some (pe_callB (Mi.call_lenG rfl) (by rfl) T.z_len (by decide +kernel) (pa_cons (pv 1) pa_nil))) po_none))
  (pss_cons (ps_if (PW.pt (pw_or (pt_not (pt_chain Mi.op_leG Mi.op_leG pe_int (pe_callB (Mi.call_lenG rfl) (by rfl) T.z_len (by decide +kernel) (pa_cons (pv 1) pa_nil)) (Wk.pe_gint T.g_MOST_LETTERS ))) (pw_or1 (pt_cmpR Mi.op_gtG (pe_callB (Mi.call_lenG rfl) (by rfl) T.z_len (by decide +kernel) (pa_cons (pv 2) pa_nil)) (Wk.pe_gint T.g_MOST_DIGITS ) (nomark _))))) (pss_one (ps_ret pe_bl)) pss_nil)
  (pss_one (ps_ret (pe_and (pe_callB (Mi.call_allG rfl rfl) (by rfl) T.z_all (by decide +kernel) (pa_cons (pe_lc (own := [("sign", 3)]) (tt := tYes) rfl sc_is_begun_word.nd (Mi.pi_u rfl (pv 2)) (blkOk_by (own := [("sign", 3)]) (N := ["text", "letters", "digits", "sign"]) (sc := defScope s_is_begun_word) (by decide +kernel)) (fun _ _ _ _ _ => (pg_name (i := 3) sc_is_begun_word.nd rfl (Or.inl rfl))) (fun _ _ _ _ _ => pts_nil) (fun _ _ _ _ _ => (pe_cmpR (Mi.op_inG rfl (hu_of hr)) (pv 3) (Wk.pe_gstr T.g_DIGITS ) rfl))) pa_nil)) (pe_one (pe_not (pe_m1 PySem.F.slot_str_startswith PySem.F.type_str_startswith Mi.mt_startsG (pv 2) pe_str))))))))),
   (sim_seq (sim_asg (vs := [1]) (sim_callS (sim_aV (sim_var (Nat.le_of_ble_eq_true rfl)) sim_aNil)) (sim_gName (Nat.le_of_ble_eq_true rfl) (by decide)))
  (sim_seq (sim_asg (vs := [2]) (sim_sl (sim_oN (Nat.le_of_ble_eq_true rfl)) (sim_part (sim_cb on_len (sim_ocons (sim_oN (Nat.le_of_ble_eq_true rfl)) sim_onil))) sim_noPart) (sim_gName (Nat.le_of_ble_eq_true rfl) (by decide)))
  (sim_seq (sim_ifS (sim_or (sim_not (sim_test (sim_chain o2_le o2_le (sim_c fun _ => .int _) (sim_cb on_len (sim_ocons (sim_oN (Nat.le_of_ble_eq_true rfl)) sim_onil)) (sim_c fun _ => .int _)))) (sim_test (sim_op2 o2_gt (sim_oE (sim_cb on_len (sim_ocons (sim_oN (Nat.le_of_ble_eq_true rfl)) sim_onil))) (sim_oE (sim_c fun _ => .int _))))) (sim_ret (sim_c fun _ => .bl _)) sim_next)
  (sim_ret (sim_andV (sim_cb on_all (sim_ocons (sim_oE (sim_frz (sim_fLc rfl (sim_iU (sim_var (Nat.le_of_ble_eq_true rfl))) (sim_gName (Nat.le_of_ble_eq_true rfl) (by decide)) sim_yes (sim_op2 o2_in (sim_oN (Nat.le_of_ble_eq_true rfl)) (sim_oE (sim_c fun _ => .str _)))))) sim_onil)) (sim_notV (sim_m1 om_starts (sim_var (Nat.le_of_ble_eq_true rfl)) (sim_oE (sim_c fun _ => .str _)))))))))⟩
--CUT is_word
theorem w_is_word (T : Txt K mg a) {n : Nat} (I : Ok P w K mg base a n) : FnG P w K mg base (L2.CX P w) (n + 1 + 2) a.f_is_word a.d_is_word ["value"] (SpM (cf K a) 1 (run (n + 1) 3)) := by
  refine fn_ok (k := n + 2) (nl := 0) (ms := m_is_word (run n) (runF n)) T.h_is_word.F sc_is_word rfl fun cdv A outer s H E A0 F0 H0 ex hr hgd => ?_
  have tk : Takes (cxOf (L2.CX P w) P w K mg base ["value"] "is_word" (defScope s_is_word) a.f_is_word cdv A outer s H E) (fun cls d _ H => E cls d H) := takes_of rfl rfl rfl rfl
  exact ⟨_, (pss_one (ps_ret (pe_and (pe_callB (Mi.call_isiG rfl) (by rfl) T.z_isinstance (by decide +kernel) (pa_cons (pv 0) (pa_cons (pe_bltn (by rfl) T.z_str (by decide +kernel) (show RelV (.ty "str") _ from rfl)) pa_nil))) (pe_and (pe_cmpR (Mi.op_notInG rfl (hu_of hr)) (pv 0) (Wk.pe_gref T.g_OWN_WORDS ) rfl) (pe_one (Mi.pe_callSG (E := WE _) I.o_is_begun_word hr hgd rfl T.h_is_begun_word.g T.h_is_begun_word.F.kp T.b_is_begun_word (fun σ => passAt tk σ) (pa_cons (pv 0) pa_nil))))))),
   (sim_ret (sim_andV (sim_isi .str (sim_oN (Nat.le_of_ble_eq_true rfl))) (sim_andV (sim_op2 o2_notIn (sim_oN (Nat.le_of_ble_eq_true rfl)) (sim_oE (sim_c fun F => .ft (T.q_OWN_WORDS F) (.cons (.str _) (.cons (.str _) (.cons (.str _) (.cons (.str _) (.cons (.str _) (.cons (.str _) (.cons (.str _) (.cons (.str _) (.nil)))))))))))) (sim_callS (sim_aV (sim_var (Nat.le_of_ble_eq_true rfl)) sim_aNil)))))⟩
--CUT is_kind_name
theorem w_is_kind_name (T : Txt K mg a) {n : Nat} (I : Ok P w K mg base a n) : FnG P w K mg base (L2.CX P w) (n + 1 + 2) a.f_is_kind_name a.d_is_kind_name ["value"] (SpM (cf K a) 1 (run (n + 1) 4)) := by
  refine fn_ok (k := n + 2) (nl := 0) (ms := m_is_kind_name (run n) (runF n)) T.h_is_kind_name.F sc_is_kind_name rfl fun cdv A outer s H E A0 F0 H0 ex hr hgd => ?_
  have tk : Takes (cxOf (L2.CX P w) P w K mg base ["value"] "is_kind_name" (defScope s_is_kind_name) a.f_is_kind_name cdv A outer s H E) (fun cls d _ H => E cls d H) := takes_of rfl rfl rfl rfl
  exact ⟨_, (pss_one (ps_ret (pe_and (pe_callB (Mi.call_isiG rfl) (by rfl) T.z_isinstance (by decide +kernel) (pa_cons (pv 0) (pa_cons (pe_bltn (by rfl) T.z_str (by decide +kernel) (show RelV (.ty "str") _ from rfl)) pa_nil))) (pe_and (pe_m1 PySem.F.slot_str_startswith PySem.F.type_str_startswith Mi.mt_startsG (pv 0) pe_str) (pe_one (Mi.pe_callSG (E := WE _) I.o_is_word hr hgd rfl T.h_is_word.g T.h_is_word.F.kp T.b_is_word (fun σ => passAt tk σ) (pa_cons (pe_slice (Mi.sl_G rfl) (pv 0) (po_some pe_int) po_none) pa_nil))))))),
   (sim_ret (sim_andV (sim_isi .str (sim_oN (Nat.le_of_ble_eq_true rfl))) (sim_andV (sim_m1 om_starts (sim_var (Nat.le_of_ble_eq_true rfl)) (sim_oE (sim_c fun _ => .str _))) (sim_callS (sim_aV (sim_sl (sim_oN (Nat.le_of_ble_eq_true rfl)) (sim_part (sim_c fun _ => .int _)) sim_noPart) sim_aNil)))))⟩
--CUT is_factor
theorem w_is_factor (T : Txt K mg a) {n : Nat} (I : Ok P w K mg base a n) : FnG P w K mg base (L2.CX P w) (n + 1 + 2) a.f_is_factor a.d_is_factor ["value"] (SpM (cf K a) 1 (run (n + 1) 5)) := by
  refine fn_ok (k := n + 2) (nl := 0) (ms := m_is_factor (run n) (runF n)) T.h_is_factor.F sc_is_factor rfl fun cdv A outer s H E A0 F0 H0 ex hr hgd => ?_
  have tk : Takes (cxOf (L2.CX P w) P w K mg base ["value"] "is_factor" (defScope s_is_factor) a.f_is_factor cdv A outer s H E) (fun cls d _ H => E cls d H) := takes_of rfl rfl rfl rfl
  exact ⟨_, (pss_one (ps_ret (pe_or (Mi.pe_callSG (E := WE _) I.o_is_word hr hgd rfl T.h_is_word.g T.h_is_word.F.kp T.b_is_word (fun σ => passAt tk σ) (pa_cons (pv 0) pa_nil)) (pe_one (Mi.pe_callSG (E := WE _) I.o_is_kind_name hr hgd rfl T.h_is_kind_name.g T.h_is_kind_name.F.kp T.b_is_kind_name (fun σ => passAt tk σ) (pa_cons (pv 0) pa_nil)))))),
   (sim_ret (sim_orV (sim_callS (sim_aV (sim_var (Nat.le_of_ble_eq_true rfl)) sim_aNil)) (sim_callS (sim_aV (sim_var (Nat.le_of_ble_eq_true rfl)) sim_aNil))))⟩
--CUT is_power
theorem w_is_power (T : Txt K mg a) {n : Nat} (I : Ok P w K mg base a n) : FnG P w K mg base (L2.CX P w) (n + 1 + 2) a.f_is_power a.d_is_power ["value"] (SpM (cf K a) 1 (run (n + 1) 6)) := by
  refine fn_ok (k := n + 2) (nl := 0) (ms := m_is_power (run n) (runF n)) T.h_is_power.F sc_is_power rfl fun cdv A outer s H E A0 F0 H0 ex hr hgd => ?_
  have tk : Takes (cxOf (L2.CX P w) P w K mg base ["value"] "is_power" (defScope s_is_power) a.f_is_power cdv A outer s H E) (fun cls d _ H => E cls d H) := takes_of rfl rfl rfl rfl
  exact ⟨_, (pss_cons (ps_if (PW.pt (pw_or (pt_not (pt_truth (pe_callB (Mi.call_isiG rfl) (by rfl) T.z_isinstance (by decide +kernel) (pa_cons (pv 0) (pa_cons (pe_bltn (by rfl) T.z_tuple (by decide +kernel) (show RelV (.ty "tuple") _ from rfl)) pa_nil))) (by intro _; rfl))) (pw_or1 (pt_cmpR (Mi.op_neH rfl (hw_of hr)) (pe_callB (Mi.call_lenG rfl) (by rfl) T.z_len (by decide +kernel) (pa_cons (pv 0) pa_nil)) pe_int (nomark _))))) (pss_one (ps_ret pe_bl)) pss_nil)
  (pss_one (ps_ret (pe_and (Mi.pe_callSG (E := WE _) I.o_is_factor hr hgd rfl T.h_is_factor.g T.h_is_factor.F.kp T.b_is_factor (fun σ => passAt tk σ) (pa_cons (pe_ix (Mi.ix_G rfl (hu_of hr)) (pv 0) pe_int (fun _ _ => rfl)) pa_nil)) (pe_and (Mi.pe_callSG (E := WE _) I.o_is_integer hr hgd rfl T.h_is_integer.g T.h_is_integer.F.kp T.b_is_integer (fun σ => passAt tk σ) (pa_cons (pe_ix (Mi.ix_G rfl (hu_of hr)) (pv 0) pe_int (fun _ _ => rfl)) pa_nil)) (pe_one (pe_cmpR (Mi.op_neH rfl (hw_of hr)) (pe_ix (Mi.ix_G rfl (hu_of hr)) (pv 0) pe_int (fun _ _ => rfl)) pe_int (nomark _)))))))),
   (sim_seq (sim_ifS (sim_or (sim_not (sim_tru rfl (sim_oE (sim_isi .tuple (sim_oN (Nat.le_of_ble_eq_true rfl)))))) (sim_test (sim_op2 o2_neH (sim_oE (sim_cb on_len (sim_ocons (sim_oN (Nat.le_of_ble_eq_true rfl)) sim_onil))) (sim_oE (sim_c fun _ => .int _))))) (sim_ret (sim_c fun _ => .bl _)) sim_next)
  (sim_ret (sim_andV (sim_callS (sim_aV (sim_op2 o2_ix (sim_oN (Nat.le_of_ble_eq_true rfl)) (sim_oE (sim_c fun _ => .int _))) sim_aNil)) (sim_andV (sim_callS (sim_aV (sim_op2 o2_ix (sim_oN (Nat.le_of_ble_eq_true rfl)) (sim_oE (sim_c fun _ => .int _))) sim_aNil)) (sim_op2 o2_neH (sim_oE (sim_op2 o2_ix (sim_oN (Nat.le_of_ble_eq_true rfl)) (sim_oE (sim_c fun _ => .int _)))) (sim_oE (sim_c fun _ => .int _)))))))⟩
--CUT is_measure
theorem w_is_measure (T : Txt K mg a) {n : Nat} (I : Ok P w K mg base a n) : FnG P w K mg base (L2.CX P w) (n + 1 + 2) a.f_is_measure a.d_is_measure ["value"] (SpM (cf K a) 1 (run (n + 1) 7)) := by
  refine fn_ok (k := n + 2) (nl := 3) (ms := m_is_measure (run n) (runF n)) T.h_is_measure.F sc_is_measure rfl fun cdv A outer s H E A0 F0 H0 ex hr hgd => ?_
  have tk : Takes (cxOf (L2.CX P w) P w K mg base ["value", "item", "one", "other"] "is_measure" (defScope s_is_measure) a.f_is_measure cdv A outer s H E) (fun cls d _ H => E cls d H) := takes_of rfl rfl rfl rfl
  exact ⟨_, (pss_cons (ps_if (PW.pt (pw_or (pt_not (pt_truth (pe_callB (Mi.call_isiG rfl) (by rfl) T.z_isinstance (by decide +kernel) (pa_cons (pv 0) (pa_cons (pe_bltn (by rfl) T.z_tuple (by decide +kernel) (show RelV (.ty "tuple") _ from rfl)) pa_nil))) (by intro _; rfl))) (pw_or1 (pt_not (pt_truth (pe_callB (Mi.call_allG rfl rfl) (by rfl) T.z_all (by decide +kernel) (pa_cons (pe_lc (own := [("item", 1)]) (tt := tYes) rfl sc_is_measure.nd (Mi.pi_u rfl (pv 0)) (blkOk_by (own := [("item", 1)]) (N := ["value", "item", "one", "other"]) (sc := defScope s_is_measure) (by decide +kernel)) (fun _ _ _ _ _ => (pg_name (i := 1) sc_is_measure.nd rfl (Or.inl rfl))) (fun _ _ _ _ _ => pts_nil) (fun _ _ _ _ _ => (Wk.pe_callG I.o_is_power hr hgd (by rfl) T.h_is_power.g T.h_is_power.F.kp T.b_is_power .nil passL (pa_cons (pv 1) pa_nil)))) pa_nil)) (by intro _; rfl)))))) (pss_one (ps_ret pe_bl)) pss_nil)
  (pss_one (ps_ret (pe_callB (Mi.call_allG rfl rfl) (by rfl) T.z_all (by decide +kernel) (pa_cons (pe_lc (own := [("one", 2), ("other", 3)]) (tt := tYes) rfl sc_is_measure.nd (Mi.pi_zipG rfl (by rfl) T.z_zip (pa_cons (pv 0) (pa_cons (pe_slice (Mi.sl_G rfl) (pv 0) (po_some pe_int) po_none) pa_nil))) (blkOk_by (own := [("one", 2), ("other", 3)]) (N := ["value", "item", "one", "other"]) (sc := defScope s_is_measure) (by decide +kernel)) (fun _ _ _ _ _ => (pg_tup rfl (pgs_cons (pg_name (i := 2) sc_is_measure.nd rfl (Or.inl rfl)) (pgs_cons (pg_name (i := 3) sc_is_measure.nd rfl (Or.inl rfl)) pgs_nil)))) (fun _ _ _ _ _ => pts_nil) (fun _ _ _ _ _ => (pe_cmpR Mi.op_ltG (pe_ix (Mi.ix_G rfl (hu_of hr)) (pv 2) pe_int (fun _ _ => rfl)) (pe_ix (Mi.ix_G rfl (hu_of hr)) (pv 3) pe_int (fun _ _ => rfl)) (nomark _)))) pa_nil))))),
   (sim_seq (sim_ifS (sim_or (sim_not (sim_tru rfl (sim_oE (sim_isi .tuple (sim_oN (Nat.le_of_ble_eq_true rfl)))))) (sim_not (sim_tru rfl (sim_oE (sim_cb on_all (sim_ocons (sim_oE (sim_frz (sim_fLc rfl (sim_iU (sim_var (Nat.le_of_ble_eq_true rfl))) (sim_gName (Nat.le_of_ble_eq_true rfl) (by decide)) sim_yes (sim_call0 (sim_aV (sim_var (Nat.le_of_ble_eq_true rfl)) sim_aNil))))) sim_onil)))))) (sim_ret (sim_c fun _ => .bl _)) sim_next)
  (sim_ret (sim_cb on_all (sim_ocons (sim_oE (sim_frz (sim_fLc rfl (sim_zip (sim_var (Nat.le_of_ble_eq_true rfl)) (sim_sl (sim_oN (Nat.le_of_ble_eq_true rfl)) (sim_part (sim_c fun _ => .int _)) sim_noPart)) (sim_gTup (sim_gsCons (sim_gName (Nat.le_of_ble_eq_true rfl) (by decide)) (sim_gsCons (sim_gName (Nat.le_of_ble_eq_true rfl) (by decide)) sim_gsNil))) sim_yes (sim_op2 o2_lt (sim_oE (sim_op2 o2_ix (sim_oN (Nat.le_of_ble_eq_true rfl)) (sim_oE (sim_c fun _ => .int _)))) (sim_oE (sim_op2 o2_ix (sim_oN (Nat.le_of_ble_eq_true rfl)) (sim_oE (sim_c fun _ => .int _)))))))) sim_onil))))⟩
--CUT measure_of
theorem w_measure_of (T : Txt K mg a) {n : Nat} (I : Ok P w K mg base a n) : FnG P w K mg base (L2.CX P w) (n + 1 + 2) a.f_measure_of a.d_measure_of ["powers"] (SpM (cf K a) 1 (run (n + 1) 8)) := by
  refine fn_ok (k := n + 2) (nl := 1) (ms := m_measure_of (run n) (runF n)) T.h_measure_of.F sc_measure_of rfl fun cdv A outer s H E A0 F0 H0 ex hr hgd => ?_
  have tk : Takes (cxOf (L2.CX P w) P w K mg base ["powers", "factor"] "measure_of" (defScope s_measure_of) a.f_measure_of cdv A outer s H E) (fun cls d _ H => E cls d H) := takes_of rfl rfl rfl rfl
  exact ⟨_, (pss_one (ps_ret (pe_callTy (Mi.call_tupleF rfl) (by rfl) T.z_tuple (by decide +kernel) (pa_cons (pe_lc (own := [("factor", 1)]) rfl sc_measure_of.nd (Mi.pi_u rfl (pe_callB (Mi.call_sortedG rfl) (by rfl) T.z_sorted (by decide +kernel) (pa_cons (pv 0) pa_nil))) (blkOk_by (own := [("factor", 1)]) (N := ["powers", "factor"]) (sc := defScope s_measure_of) (by decide +kernel)) (fun _ _ _ _ _ => (pg_name (i := 1) sc_measure_of.nd rfl (Or.inl rfl))) (fun _ _ _ _ _ => (pts_one (pt_cmpR (Mi.op_neH rfl (hw_of hr)) (pe_ix (Mi.ix_G rfl (hu_of hr)) (pv 0) (pv 1) (fun _ _ => rfl)) pe_int (nomark _)))) (fun _ _ _ _ _ => (Mi.pe_tupF (pa_cons (pv 1) (pa_cons (pe_ix (Mi.ix_G rfl (hu_of hr)) (pv 0) (pv 1) (fun _ _ => rfl)) pa_nil))))) pa_nil)))),
   (sim_ret (sim_cb on_tuple (sim_ocons (sim_oE (sim_frz (sim_fLc rfl (sim_iU (sim_frz (sim_fSorted (sim_oN (Nat.le_of_ble_eq_true rfl))))) (sim_gName (Nat.le_of_ble_eq_true rfl) (by decide)) (sim_test (sim_op2 o2_neH (sim_oE (sim_op2 o2_ix (sim_oN (Nat.le_of_ble_eq_true rfl)) (sim_oN (Nat.le_of_ble_eq_true rfl)))) (sim_oE (sim_c fun _ => .int _)))) (sim_tup (sim_cons (sim_var (Nat.le_of_ble_eq_true rfl)) (sim_cons (sim_op2 o2_ix (sim_oN (Nat.le_of_ble_eq_true rfl)) (sim_oN (Nat.le_of_ble_eq_true rfl))) sim_nil)))))) sim_onil)))⟩
--CUT times
theorem w_times (T : Txt K mg a) {n : Nat} (I : Ok P w K mg base a n) : FnG P w K mg base (L2.CX P w) (n + 1 + 2) a.f_times a.d_times ["one", "other"] (SpM (cf K a) 2 (run (n + 1) 9)) := by
  refine fn_ok (k := n + 2) (nl := 3) (ms := m_times (run n) (runF n)) T.h_times.F sc_times rfl fun cdv A outer s H E A0 F0 H0 ex hr hgd => ?_
  have tk : Takes (cxOf (L2.CX P w) P w K mg base ["one", "other", "powers", "factor", "number"] "times" (defScope s_times) a.f_times cdv A outer s H E) (fun cls d _ H => E cls d H) := takes_of rfl rfl rfl rfl
  exact ⟨_, (pss_cons (ps_set (i := 2) sc_times.nd rfl (Or.inl rfl) (pe_callTy (Mi.call_dictG rfl rfl) (by rfl) T.z_dict (by decide +kernel) (pa_cons (pv 0) pa_nil)))
  (pss_cons (ps_for (passes_of rfl) rfl (Mi.pi_u rfl (pv 1)) (pg_tup rfl (pgs_cons (pg_name (i := 3) sc_times.nd rfl (Or.inl rfl)) (pgs_cons (pg_name (i := 4) sc_times.nd rfl (Or.inl rfl)) pgs_nil))) (pss_one (ps_dput (hu_of hr) (pv 2) (pv 3) (pe_op (Mi.op_addG rfl) (pe_dget2 (hu_of hr) (pv 2) (pv 3) pe_int ⟨rfl, rfl, rfl, rfl⟩) (pv 4)) rfl)))
  (pss_one (ps_ret (Mi.pe_callSG (E := WE _) I.o_measure_of hr hgd rfl T.h_measure_of.g T.h_measure_of.F.kp T.b_measure_of (fun σ => passAt tk σ) (pa_cons (pv 2) pa_nil)))))),
   (sim_seq (sim_asgO (sim_fDict (sim_oN (Nat.le_of_ble_eq_true rfl))))
  (sim_seq (sim_for (vs := [3, 4]) (sim_iU (sim_var (Nat.le_of_ble_eq_true rfl))) (sim_gTup (sim_gsCons (sim_gName (Nat.le_of_ble_eq_true rfl) (by decide)) (sim_gsCons (sim_gName (Nat.le_of_ble_eq_true rfl) (by decide)) sim_gsNil))) (sim_put (Nat.le_of_ble_eq_true rfl) (sim_op2 o2_add (sim_oE (sim_get2 (sim_oN (Nat.le_of_ble_eq_true rfl)) (sim_var (Nat.le_of_ble_eq_true rfl)) (sim_c fun _ => .int _))) (sim_oN (Nat.le_of_ble_eq_true rfl))) (sim_var (Nat.le_of_ble_eq_true rfl))))
  (sim_ret (sim_callS (sim_aS (Nat.le_of_ble_eq_true rfl) sim_aNil)))))⟩
--CUT power
theorem w_power (T : Txt K mg a) {n : Nat} (I : Ok P w K mg base a n) : FnG P w K mg base (L2.CX P w) (n + 1 + 2) a.f_power a.d_power ["measure", "n"] (SpM (cf K a) 2 (run (n + 1) 10)) := by
  refine fn_ok (k := n + 2) (nl := 2) (ms := m_power (run n) (runF n)) T.h_power.F sc_power rfl fun cdv A outer s H E A0 F0 H0 ex hr hgd => ?_
  have tk : Takes (cxOf (L2.CX P w) P w K mg base ["measure", "n", "factor", "number"] "power" (defScope s_power) a.f_power cdv A outer s H E) (fun cls d _ H => E cls d H) := takes_of rfl rfl rfl rfl
  exact ⟨_, (pss_one (ps_ret (Mi.pe_callSG (E := WE _) I.o_measure_of hr hgd rfl T.h_measure_of.g T.h_measure_of.F.kp T.b_measure_of (fun σ => passAt tk σ) (pa_cons (pe_dc (own := [("factor", 2), ("number", 3)]) (tt := tYes) rfl sc_power.nd (Mi.pi_u rfl (pv 0)) (blkOk_by (own := [("factor", 2), ("number", 3)]) (N := ["measure", "n", "factor", "number"]) (sc := defScope s_power) (by decide +kernel)) (fun _ _ _ _ _ => (pg_tup rfl (pgs_cons (pg_name (i := 2) sc_power.nd rfl (Or.inl rfl)) (pgs_cons (pg_name (i := 3) sc_power.nd rfl (Or.inl rfl)) pgs_nil)))) (fun _ _ _ _ _ => pts_nil) (fun _ _ _ _ _ => (pv 2)) (fun _ _ _ _ _ => (pe_op Mi.op_mulH (pv 3) (pv 1)))) pa_nil)))),
   (sim_ret (sim_callS (sim_aV (sim_frz (sim_fDc rfl (sim_iU (sim_var (Nat.le_of_ble_eq_true rfl))) (sim_gTup (sim_gsCons (sim_gName (Nat.le_of_ble_eq_true rfl) (by decide)) (sim_gsCons (sim_gName (Nat.le_of_ble_eq_true rfl) (by decide)) sim_gsNil))) sim_yes (sim_var (Nat.le_of_ble_eq_true rfl)) (sim_op2 o2_mulH (sim_oN (Nat.le_of_ble_eq_true rfl)) (sim_oN (Nat.le_of_ble_eq_true rfl))))) sim_aNil)))⟩
--CUT product
theorem w_product (T : Txt K mg a) {n : Nat} (I : Ok P w K mg base a n) : FnG P w K mg base (L2.CX P w) (n + 1 + 2) a.f_product a.d_product ["measures"] (SpM (cf K a) 1 (run (n + 1) 11)) := by
  refine fn_ok (k := n + 2) (nl := 2) (ms := m_product (run n) (runF n)) T.h_product.F sc_product rfl fun cdv A outer s H E A0 F0 H0 ex hr hgd => ?_
  have tk : Takes (cxOf (L2.CX P w) P w K mg base ["measures", "found", "measure"] "product" (defScope s_product) a.f_product cdv A outer s H E) (fun cls d _ H => E cls d H) := takes_of rfl rfl rfl rfl
  exact ⟨_, (pss_cons (ps_set (i := 1) sc_product.nd rfl (Or.inl rfl) (Mi.pe_tupF pa_nil))
  (pss_cons (ps_for (passes_of rfl) rfl (Mi.pi_u rfl (pv 0)) (pg_name (i := 2) sc_product.nd rfl (Or.inl rfl)) (pss_one (ps_set (i := 1) sc_product.nd rfl (Or.inl rfl) (Mi.pe_callSG (E := WE _) I.o_times hr hgd rfl T.h_times.g T.h_times.F.kp T.b_times (fun σ => passAt tk σ) (pa_cons (pv 1) (pa_cons (pv 2) pa_nil))))))
  (pss_one (ps_ret (pv 1))))),
   (sim_seq (sim_asg (vs := [1]) (sim_tup sim_nil) (sim_gName (Nat.le_of_ble_eq_true rfl) (by decide)))
  (sim_seq (sim_for (vs := [2]) (sim_iU (sim_var (Nat.le_of_ble_eq_true rfl))) (sim_gName (Nat.le_of_ble_eq_true rfl) (by decide)) (sim_asg (vs := [1]) (sim_callS (sim_aV (sim_var (Nat.le_of_ble_eq_true rfl)) (sim_aV (sim_var (Nat.le_of_ble_eq_true rfl)) sim_aNil))) (sim_gName (Nat.le_of_ble_eq_true rfl) (by decide))))
  (sim_ret (sim_var (Nat.le_of_ble_eq_true rfl)))))⟩
--CUT measure_text
theorem w_measure_text (T : Txt K mg a) {n : Nat} (I : Ok P w K mg base a n) : FnG P w K mg base (L2.CX P w) (n + 1 + 2) a.f_measure_text a.d_measure_text ["measure"] (SpM (cf K a) 1 (run (n + 1) 12)) := by
  refine fn_ok (k := n + 2) (nl := 2) (ms := m_measure_text (run n) (runF n)) T.h_measure_text.F sc_measure_text rfl fun cdv A outer s H E A0 F0 H0 ex hr hgd => ?_
  have tk : Takes (cxOf (L2.CX P w) P w K mg base ["measure", "factor", "number"] "measure_text" (defScope s_measure_text) a.f_measure_text cdv A outer s H E) (fun cls d _ H => E cls d H) := takes_of rfl rfl rfl rfl
  exact ⟨_, (pss_one (ps_ret (pe_m1 PySem.F.slot_str_join PySem.F.type_str_join (Mi.mt_joinG rfl) pe_str (pe_lc (own := [("factor", 1), ("number", 2)]) (tt := tYes) rfl sc_measure_text.nd (Mi.pi_u rfl (pv 0)) (blkOk_by (own := [("factor", 1), ("number", 2)]) (N := ["measure", "factor", "number"]) (sc := defScope s_measure_text) (by decide +kernel)) (fun _ _ _ _ _ => (pg_tup rfl (pgs_cons (pg_name (i := 1) sc_measure_text.nd rfl (Or.inl rfl)) (pgs_cons (pg_name (i := 2) sc_measure_text.nd rfl (Or.inl rfl)) pgs_nil)))) (fun _ _ _ _ _ => pts_nil) (fun _ _ _ _ _ => (pe_ifExp (pt_cmpR (Mi.op_eqH rfl (hw_of hr)) (pv 2) pe_int (nomark _)) (pv 1) (pe_joined (PJ.cons (pe_fmt (pv 1)) (PJ.cons pe_str (PJ.cons (pe_fmt (pv 2)) PJ.nil)))))))))),
   (sim_ret (sim_m1 om_join (sim_c fun _ => .str _) (sim_oE (sim_frz (sim_fLc rfl (sim_iU (sim_var (Nat.le_of_ble_eq_true rfl))) (sim_gTup (sim_gsCons (sim_gName (Nat.le_of_ble_eq_true rfl) (by decide)) (sim_gsCons (sim_gName (Nat.le_of_ble_eq_true rfl) (by decide)) sim_gsNil))) sim_yes (sim_if (sim_test (sim_op2 o2_eqH (sim_oN (Nat.le_of_ble_eq_true rfl)) (sim_oE (sim_c fun _ => .int _)))) (sim_var (Nat.le_of_ble_eq_true rfl)) (sim_joined (sim_jCons (sim_fmt (sim_var (Nat.le_of_ble_eq_true rfl))) (sim_jCons (sim_c fun _ => .str _) (sim_jCons (sim_fmt (sim_var (Nat.le_of_ble_eq_true rfl))) sim_jNil))))))))))⟩
--CUT is_begun
theorem w_is_begun (T : Txt K mg a) {n : Nat} (I : Ok P w K mg base a n) : FnG P w K mg base (L2.CX P w) (n + 1 + 2) a.f_is_begun a.d_is_begun ["text"] (SpM (cf K a) 1 (run (n + 1) 13)) := by
  refine fn_ok (k := n + 2) (nl := 1) (ms := m_is_begun (run n) (runF n)) T.h_is_begun.F sc_is_begun rfl fun cdv A outer s H E A0 F0 H0 ex hr hgd => ?_
  have tk : Takes (cxOf (L2.CX P w) P w K mg base ["text", "word"] "is_begun" (defScope s_is_begun) a.f_is_begun cdv A outer s H E) (fun cls d _ H => E cls d H) := takes_of rfl rfl rfl rfl
  exact ⟨_, (pss_cons (ps_set (i := 1) sc_is_begun.nd rfl (Or.inl rfl) (pe_ifExp (pt_truth (pe_m1 PySem.F.slot_str_startswith PySem.F.type_str_startswith Mi.mt_startsG (pv 0) pe_str) (by intro _; rfl)) (pe_slice (Mi.sl_G rfl) (pv 0) (po_some pe_int) po_none) (pv 0)))
  (pss_one (ps_ret (pe_or (pe_cmpR (Mi.op_eqH rfl (hw_of hr)) (pv 1) pe_str (nomark _)) (pe_one (Mi.pe_callSG (E := WE _) I.o_is_begun_word hr hgd rfl T.h_is_begun_word.g T.h_is_begun_word.F.kp T.b_is_begun_word (fun σ => passAt tk σ) (pa_cons (pv 1) pa_nil))))))),
   (sim_seq (sim_asg (vs := [1]) (sim_if (sim_tru rfl (sim_oE (sim_m1 om_starts (sim_var (Nat.le_of_ble_eq_true rfl)) (sim_oE (sim_c fun _ => .str _))))) (sim_sl (sim_oN (Nat.le_of_ble_eq_true rfl)) (sim_part (sim_c fun _ => .int _)) sim_noPart) (sim_var (Nat.le_of_ble_eq_true rfl))) (sim_gName (Nat.le_of_ble_eq_true rfl) (by decide)))
  (sim_ret (sim_orV (sim_op2 o2_eqH (sim_oN (Nat.le_of_ble_eq_true rfl)) (sim_oE (sim_c fun _ => .str _))) (sim_callS (sim_aV (sim_var (Nat.le_of_ble_eq_true rfl)) sim_aNil)))))⟩
--CUT last_one
theorem w_last_one (T : Txt K mg a) {n : Nat} (I : Ok P w K mg base a n) : FnG P w K mg base (L2.CX P w) (n + 1 + 2) a.f_last_one a.d_last_one ["text"] (SpM (cf K a) 1 (run (n + 1) 14)) := by
  refine fn_ok (k := n + 2) (nl := 3) (ms := m_last_one (run n) (runF n)) T.h_last_one.F sc_last_one rfl fun cdv A outer s H E A0 F0 H0 ex hr hgd => ?_
  have tk : Takes (cxOf (L2.CX P w) P w K mg base ["text", "quote", "letters", "digits"] "last_one" (defScope s_last_one) a.f_last_one cdv A outer s H E) (fun cls d _ H => E cls d H) := takes_of rfl rfl rfl rfl
  exact ⟨_, (pss_cons (ps_set (i := 1) sc_last_one.nd rfl (Or.inl rfl) (pe_ifExp (pt_truth (pe_m1 PySem.F.slot_str_startswith PySem.F.type_str_startswith Mi.mt_startsG (pv 0) pe_str) (by intro _; rfl)) (pe_slice (Mi.sl_G rfl) (pv 0) po_none (po_some pe_int)) pe_str))
  (pss_cons (ps_set (i := 2) sc_last_one.nd rfl (Or.inl rfl) (Mi.pe_callSG (E := WE _) I.o_letters_of hr hgd rfl T.h_letters_of.g T.h_letters_of.F.kp T.b_letters_of (fun σ => passAt tk σ) (pa_cons (pe_slice (Mi.sl_G rfl) (pv 0) (po_some (pe_callB (Mi.call_lenG rfl) (by rfl) T.z_len (by decide +kernel) (pa_cons (pv 1) pa_nil))) po_none) pa_nil)))
  (pss_cons (ps_set (i := 3) sc_last_one.nd rfl (Or.inl rfl) (pe_slice (Mi.sl_G rfl) (pv 0) (po_some (pe_op (Mi.op_addG rfl) (pe_callB (Mi.call_lenG rfl) (by rfl) T.z_len (by decide +kernel) (pa_cons (pv 1) pa_nil)) (pe_callB (Mi.call_lenG rfl) (by rfl) T.z_len (by decide +kernel) (pa_cons (pv 2) pa_nil)))) po_none))
  (pss_cons (ps_if (pt_cmpR (Mi.op_eqH rfl (hw_of hr)) (pv 3) pe_str (nomark _)) (pss_one (ps_set (i := 2) sc_last_one.nd rfl (Or.inl rfl) (pe_op (Mi.op_addG rfl) (pv 2) (pe_op Mi.op_mulH (pe_ix (Mi.ix_G rfl (hu_of hr)) (Wk.pe_gstr T.g_LETTERS ) (pe_un un_neg pe_int) (fun _ _ => rfl)) (pe_op op_sub (Wk.pe_gint T.g_MOST_LETTERS ) (pe_callB (Mi.call_lenG rfl) (by rfl) T.z_len (by decide +kernel) (pa_cons (pv 2) pa_nil))))))) pss_nil)
  (pss_one (ps_ret (pe_op (Mi.op_addG rfl) (pe_op (Mi.op_addG rfl) (pe_op (Mi.op_addG rfl) (pv 1) (pv 2)) (pv 3)) (pe_op Mi.op_mulH (pe_ix (Mi.ix_G rfl (hu_of hr)) (Wk.pe_gstr T.g_DIGITS ) (pe_un un_neg pe_int) (fun _ _ => rfl)) (pe_op op_sub (Wk.pe_gint T.g_MOST_DIGITS ) (pe_callB (Mi.call_lenG rfl) (by rfl) T.z_len (by decide +kernel) (pa_cons (pv 3) pa_nil))))))))))),
   (sim_seq (sim_asg (vs := [1]) (sim_if (sim_tru rfl (sim_oE (sim_m1 om_starts (sim_var (Nat.le_of_ble_eq_true rfl)) (sim_oE (sim_c fun _ => .str _))))) (sim_sl (sim_oN (Nat.le_of_ble_eq_true rfl)) sim_noPart (sim_part (sim_c fun _ => .int _))) (sim_c fun _ => .str _)) (sim_gName (Nat.le_of_ble_eq_true rfl) (by decide)))
  (sim_seq (sim_asg (vs := [2]) (sim_callS (sim_aV (sim_sl (sim_oN (Nat.le_of_ble_eq_true rfl)) (sim_part (sim_cb on_len (sim_ocons (sim_oN (Nat.le_of_ble_eq_true rfl)) sim_onil))) sim_noPart) sim_aNil)) (sim_gName (Nat.le_of_ble_eq_true rfl) (by decide)))
  (sim_seq (sim_asg (vs := [3]) (sim_sl (sim_oN (Nat.le_of_ble_eq_true rfl)) (sim_part (sim_op2 o2_add (sim_oE (sim_cb on_len (sim_ocons (sim_oN (Nat.le_of_ble_eq_true rfl)) sim_onil))) (sim_oE (sim_cb on_len (sim_ocons (sim_oN (Nat.le_of_ble_eq_true rfl)) sim_onil))))) sim_noPart) (sim_gName (Nat.le_of_ble_eq_true rfl) (by decide)))
  (sim_seq (sim_ifS (sim_test (sim_op2 o2_eqH (sim_oN (Nat.le_of_ble_eq_true rfl)) (sim_oE (sim_c fun _ => .str _)))) (sim_asg (vs := [2]) (sim_op2 o2_add (sim_oN (Nat.le_of_ble_eq_true rfl)) (sim_oE (sim_op2 o2_mulH (sim_oE (sim_op2 o2_ix (sim_oE (sim_c fun _ => .str _)) (sim_oE (sim_un o1_neg (sim_oE (sim_c fun _ => .int _)))))) (sim_oE (sim_op2 o2_sub (sim_oE (sim_c fun _ => .int _)) (sim_oE (sim_cb on_len (sim_ocons (sim_oN (Nat.le_of_ble_eq_true rfl)) sim_onil)))))))) (sim_gName (Nat.le_of_ble_eq_true rfl) (by decide))) sim_next)
  (sim_ret (sim_op2 o2_add (sim_oE (sim_op2 o2_add (sim_oE (sim_op2 o2_add (sim_oN (Nat.le_of_ble_eq_true rfl)) (sim_oN (Nat.le_of_ble_eq_true rfl)))) (sim_oN (Nat.le_of_ble_eq_true rfl)))) (sim_oE (sim_op2 o2_mulH (sim_oE (sim_op2 o2_ix (sim_oE (sim_c fun _ => .str _)) (sim_oE (sim_un o1_neg (sim_oE (sim_c fun _ => .int _)))))) (sim_oE (sim_op2 o2_sub (sim_oE (sim_c fun _ => .int _)) (sim_oE (sim_cb on_len (sim_ocons (sim_oN (Nat.le_of_ble_eq_true rfl)) sim_onil)))))))))))))⟩
--CUT may_follow
theorem w_may_follow (T : Txt K mg a) {n : Nat} (I : Ok P w K mg base a n) : FnG P w K mg base (L2.CX P w) (n + 1 + 2) a.f_may_follow a.d_may_follow ["text", "last"] (SpM (cf K a) 2 (run (n + 1) 15)) := by
  refine fn_ok (k := n + 2) (nl := 0) (ms := m_may_follow (run n) (runF n)) T.h_may_follow.F sc_may_follow rfl fun cdv A outer s H E A0 F0 H0 ex hr hgd => ?_
  have tk : Takes (cxOf (L2.CX P w) P w K mg base ["text", "last"] "may_follow" (defScope s_may_follow) a.f_may_follow cdv A outer s H E) (fun cls d _ H => E cls d H) := takes_of rfl rfl rfl rfl
  exact ⟨_, (pss_one (ps_ret (pe_and (Mi.pe_callSG (E := WE _) I.o_is_begun hr hgd rfl T.h_is_begun.g T.h_is_begun.F.kp T.b_is_begun (fun σ => passAt tk σ) (pa_cons (pv 0) pa_nil)) (pe_one (pe_cmpR Mi.op_gtG (Mi.pe_callSG (E := WE _) I.o_last_one hr hgd rfl T.h_last_one.g T.h_last_one.F.kp T.b_last_one (fun σ => passAt tk σ) (pa_cons (pv 0) pa_nil)) (pv 1) (nomark _)))))),
   (sim_ret (sim_andV (sim_callS (sim_aV (sim_var (Nat.le_of_ble_eq_true rfl)) sim_aNil)) (sim_op2 o2_gt (sim_oE (sim_callS (sim_aV (sim_var (Nat.le_of_ble_eq_true rfl)) sim_aNil))) (sim_oN (Nat.le_of_ble_eq_true rfl)))))⟩
--CUT read_factor
theorem w_read_factor (T : Txt K mg a) {n : Nat} (I : Ok P w K mg base a n) : FnG P w K mg base (L2.CX P w) (n + 1 + 2) a.f_read_factor a.d_read_factor ["text", "begin", "last"] (SpM (cf K a) 3 (run (n + 1) 16)) := by
  refine fn_ok (k := n + 2) (nl := 1) (ms := m_read_factor (run n) (runF n)) T.h_read_factor.F sc_read_factor rfl fun cdv A outer s H E A0 F0 H0 ex hr hgd => ?_
  have tk : Takes (cxOf (L2.CX P w) P w K mg base ["text", "begin", "last", "end"] "read_factor" (defScope s_read_factor) a.f_read_factor cdv A outer s H E) (fun cls d _ H => E cls d H) := takes_of rfl rfl rfl rfl
  exact ⟨_, (pss_cons (ps_set (i := 3) sc_read_factor.nd rfl (Or.inl rfl) (pv 1))
  (pss_cons (ps_while (passes_of rfl) (PW.pt (pw_and (pt_cmpR Mi.op_ltG (pv 3) (pe_callB (Mi.call_lenG rfl) (by rfl) T.z_len (by decide +kernel) (pa_cons (pv 0) pa_nil)) (nomark _)) (pw_and1 (pt_truth (Mi.pe_callSG (E := WE _) I.o_may_follow hr hgd rfl T.h_may_follow.g T.h_may_follow.F.kp T.b_may_follow (fun σ => passAt tk σ) (pa_cons (pe_slice (Mi.sl_G rfl) (pv 0) (po_some (pv 1)) (po_some (pe_op (Mi.op_addG rfl) (pv 3) pe_int))) (pa_cons (pv 2) pa_nil))) (by intro _; rfl))))) (pss_one (ps_aug (i := 3) sc_read_factor.nd rfl (Or.inl rfl) pe_int ip_add)))
  (pss_cons (ps_if (PW.pt (pw_or (pt_not (pt_truth (Mi.pe_callSG (E := WE _) I.o_is_factor hr hgd rfl T.h_is_factor.g T.h_is_factor.F.kp T.b_is_factor (fun σ => passAt tk σ) (pa_cons (pe_slice (Mi.sl_G rfl) (pv 0) (po_some (pv 1)) (po_some (pv 3))) pa_nil)) (by intro _; rfl))) (pw_or1 (pt_not (pt_cmpR Mi.op_gtG (pe_slice (Mi.sl_G rfl) (pv 0) (po_some (pv 1)) (po_some (pv 3))) (pv 2) (nomark _)))))) (pss_one (ps_raise rfl tk (pmk_oex T.e_BadText.o T.e_BadText.iC T.e_BadText.tI (ok_BadText_init T) (hr1 hr) T.b_BadText_init .nil pass0 rfl T.e_BadText.g (pa_cons (pv 3) pa_nil)))) pss_nil)
  (pss_one (ps_ret (pv 3)))))),
   (sim_seq (sim_asg (vs := [3]) (sim_var (Nat.le_of_ble_eq_true rfl)) (sim_gName (Nat.le_of_ble_eq_true rfl) (by decide)))
  (sim_seq (sim_while wf (sim_and (sim_test (sim_op2 o2_lt (sim_oN (Nat.le_of_ble_eq_true rfl)) (sim_oE (sim_cb on_len (sim_ocons (sim_oN (Nat.le_of_ble_eq_true rfl)) sim_onil))))) (sim_tru rfl (sim_oE (sim_callS (sim_aV (sim_sl (sim_oN (Nat.le_of_ble_eq_true rfl)) (sim_part (sim_var (Nat.le_of_ble_eq_true rfl))) (sim_part (sim_op2 o2_add (sim_oN (Nat.le_of_ble_eq_true rfl)) (sim_oE (sim_c fun _ => .int _))))) (sim_aV (sim_var (Nat.le_of_ble_eq_true rfl)) sim_aNil)))))) (sim_aug (Nat.le_of_ble_eq_true rfl) (sim_c fun _ => .int _)))
  (sim_seq (sim_ifS (sim_or (sim_not (sim_tru rfl (sim_oE (sim_callS (sim_aV (sim_sl (sim_oN (Nat.le_of_ble_eq_true rfl)) (sim_part (sim_var (Nat.le_of_ble_eq_true rfl))) (sim_part (sim_var (Nat.le_of_ble_eq_true rfl)))) sim_aNil))))) (sim_not (sim_test (sim_op2 o2_gt (sim_oE (sim_sl (sim_oN (Nat.le_of_ble_eq_true rfl)) (sim_part (sim_var (Nat.le_of_ble_eq_true rfl))) (sim_part (sim_var (Nat.le_of_ble_eq_true rfl))))) (sim_oN (Nat.le_of_ble_eq_true rfl)))))) (sim_raise rfl rfl (sim_var (Nat.le_of_ble_eq_true rfl))) sim_next)
  (sim_ret (sim_var (Nat.le_of_ble_eq_true rfl))))))⟩
--CUT read_power
theorem w_read_power (T : Txt K mg a) {n : Nat} (I : Ok P w K mg base a n) : FnG P w K mg base (L2.CX P w) (n + 1 + 2) a.f_read_power a.d_read_power ["text", "begin"] (SpM (cf K a) 2 (run (n + 1) 17)) := by
  refine fn_ok (k := n + 2) (nl := 2) (ms := m_read_power (run n) (runF n)) T.h_read_power.F sc_read_power rfl fun cdv A outer s H E A0 F0 H0 ex hr hgd => ?_
  have tk : Takes (cxOf (L2.CX P w) P w K mg base ["text", "begin", "end", "number"] "read_power" (defScope s_read_power) a.f_read_power cdv A outer s H E) (fun cls d _ H => E cls d H) := takes_of rfl rfl rfl rfl
  exact ⟨_, (pss_cons (ps_if (pt_cmpR (Mi.op_neH rfl (hw_of hr)) (pe_slice (Mi.sl_G rfl) (pv 0) (po_some (pv 1)) (po_some (pe_op (Mi.op_addG rfl) (pv 1) pe_int))) pe_str (nomark _)) (pss_one (ps_ret (Mi.pe_tupF (pa_cons (pv 1) (pa_cons pe_int pa_nil))))) pss_nil)
  (pss_cons (ps_set (i := 2) sc_read_power.nd rfl (Or.inl rfl) (pe_ifExp (pt_cmpR (Mi.op_eqH rfl (hw_of hr)) (pe_slice (Mi.sl_G rfl) (pv 0) (po_some (pe_op (Mi.op_addG rfl) (pv 1) pe_int)) (po_some (pe_op (Mi.op_addG rfl) (pv 1) pe_int))) pe_str (nomark _)) (pe_op (Mi.op_addG rfl) (pv 1) pe_int) (pe_op (Mi.op_addG rfl) (pv 1) pe_int)))
  (pss_cons (ps_if (PW.pt (pw_or (pt_cmpR (Mi.op_eqH rfl (hw_of hr)) (pe_slice (Mi.sl_G rfl) (pv 0) (po_some (pv 2)) (po_some (pe_op (Mi.op_addG rfl) (pv 2) pe_int))) pe_str (nomark _)) (pw_or1 (pt_cmpR (Mi.op_notInG rfl (hu_of hr)) (pe_ix (Mi.ix_G rfl (hu_of hr)) (pv 0) (pv 2) (fun _ _ => rfl)) (pe_slice (Mi.sl_G rfl) (Wk.pe_gstr T.g_DIGITS ) (po_some pe_int) po_none) rfl)))) (pss_one (ps_raise rfl tk (pmk_oex T.e_BadText.o T.e_BadText.iC T.e_BadText.tI (ok_BadText_init T) (hr1 hr) T.b_BadText_init .nil pass0 rfl T.e_BadText.g (pa_cons (pv 2) pa_nil)))) pss_nil)
  (pss_cons (ps_while (passes_of rfl) (PW.pt (pw_and (pt_cmpR Mi.op_ltG (pv 2) (pe_callB (Mi.call_lenG rfl) (by rfl) T.z_len (by decide +kernel) (pa_cons (pv 0) pa_nil)) (nomark _)) (pw_and1 (pt_cmpR (Mi.op_inG rfl (hu_of hr)) (pe_ix (Mi.ix_G rfl (hu_of hr)) (pv 0) (pv 2) (fun _ _ => rfl)) (Wk.pe_gstr T.g_DIGITS ) rfl)))) (pss_one (ps_aug (i := 2) sc_read_power.nd rfl (Or.inl rfl) pe_int ip_add)))
  (pss_cons (ps_set (i := 3) sc_read_power.nd rfl (Or.inl rfl) (pe_callTy (Mi.call_intG) (by rfl) T.z_int (by decide +kernel) (pa_cons (pe_slice (Mi.sl_G rfl) (pv 0) (po_some (pe_op (Mi.op_addG rfl) (pv 1) pe_int)) (po_some (pv 2))) pa_nil)))
  (pss_cons (ps_if (pt_cmpR (Mi.op_eqH rfl (hw_of hr)) (pv 3) pe_int (nomark _)) (pss_one (ps_raise rfl tk (pmk_oex T.e_BadText.o T.e_BadText.iC T.e_BadText.tI (ok_BadText_init T) (hr1 hr) T.b_BadText_init .nil pass0 rfl T.e_BadText.g (pa_cons (pv 2) pa_nil)))) pss_nil)
  (pss_one (ps_ret (Mi.pe_tupF (pa_cons (pv 2) (pa_cons (pv 3) pa_nil))))))))))),
   (sim_seq (sim_ifS (sim_test (sim_op2 o2_neH (sim_oE (sim_sl (sim_oN (Nat.le_of_ble_eq_true rfl)) (sim_part (sim_var (Nat.le_of_ble_eq_true rfl))) (sim_part (sim_op2 o2_add (sim_oN (Nat.le_of_ble_eq_true rfl)) (sim_oE (sim_c fun _ => .int _)))))) (sim_oE (sim_c fun _ => .str _)))) (sim_ret (sim_tup (sim_cons (sim_var (Nat.le_of_ble_eq_true rfl)) (sim_cons (sim_c fun _ => .int _) sim_nil)))) sim_next)
  (sim_seq (sim_asg (vs := [2]) (sim_if (sim_test (sim_op2 o2_eqH (sim_oE (sim_sl (sim_oN (Nat.le_of_ble_eq_true rfl)) (sim_part (sim_op2 o2_add (sim_oN (Nat.le_of_ble_eq_true rfl)) (sim_oE (sim_c fun _ => .int _)))) (sim_part (sim_op2 o2_add (sim_oN (Nat.le_of_ble_eq_true rfl)) (sim_oE (sim_c fun _ => .int _)))))) (sim_oE (sim_c fun _ => .str _)))) (sim_op2 o2_add (sim_oN (Nat.le_of_ble_eq_true rfl)) (sim_oE (sim_c fun _ => .int _))) (sim_op2 o2_add (sim_oN (Nat.le_of_ble_eq_true rfl)) (sim_oE (sim_c fun _ => .int _)))) (sim_gName (Nat.le_of_ble_eq_true rfl) (by decide)))
  (sim_seq (sim_ifS (sim_or (sim_test (sim_op2 o2_eqH (sim_oE (sim_sl (sim_oN (Nat.le_of_ble_eq_true rfl)) (sim_part (sim_var (Nat.le_of_ble_eq_true rfl))) (sim_part (sim_op2 o2_add (sim_oN (Nat.le_of_ble_eq_true rfl)) (sim_oE (sim_c fun _ => .int _)))))) (sim_oE (sim_c fun _ => .str _)))) (sim_test (sim_op2 o2_notIn (sim_oE (sim_op2 o2_ix (sim_oN (Nat.le_of_ble_eq_true rfl)) (sim_oN (Nat.le_of_ble_eq_true rfl)))) (sim_oE (sim_sl (sim_oE (sim_c fun _ => .str _)) (sim_part (sim_c fun _ => .int _)) sim_noPart))))) (sim_raise rfl rfl (sim_var (Nat.le_of_ble_eq_true rfl))) sim_next)
  (sim_seq (sim_while wf (sim_and (sim_test (sim_op2 o2_lt (sim_oN (Nat.le_of_ble_eq_true rfl)) (sim_oE (sim_cb on_len (sim_ocons (sim_oN (Nat.le_of_ble_eq_true rfl)) sim_onil))))) (sim_test (sim_op2 o2_in (sim_oE (sim_op2 o2_ix (sim_oN (Nat.le_of_ble_eq_true rfl)) (sim_oN (Nat.le_of_ble_eq_true rfl)))) (sim_oE (sim_c fun _ => .str _))))) (sim_aug (Nat.le_of_ble_eq_true rfl) (sim_c fun _ => .int _)))
  (sim_seq (sim_asg (vs := [3]) (sim_cb on_int (sim_ocons (sim_oE (sim_sl (sim_oN (Nat.le_of_ble_eq_true rfl)) (sim_part (sim_op2 o2_add (sim_oN (Nat.le_of_ble_eq_true rfl)) (sim_oE (sim_c fun _ => .int _)))) (sim_part (sim_var (Nat.le_of_ble_eq_true rfl))))) sim_onil)) (sim_gName (Nat.le_of_ble_eq_true rfl) (by decide)))
  (sim_seq (sim_ifS (sim_test (sim_op2 o2_eqH (sim_oN (Nat.le_of_ble_eq_true rfl)) (sim_oE (sim_c fun _ => .int _)))) (sim_raise rfl rfl (sim_var (Nat.le_of_ble_eq_true rfl))) sim_next)
  (sim_ret (sim_tup (sim_cons (sim_var (Nat.le_of_ble_eq_true rfl)) (sim_cons (sim_var (Nat.le_of_ble_eq_true rfl)) sim_nil))))))))))⟩
--CUT read_measure
theorem w_read_measure (T : Txt K mg a) {n : Nat} (I : Ok P w K mg base a n) : FnG P w K mg base (L2.CX P w) (n + 1 + 2) a.f_read_measure a.d_read_measure ["text"] (SpM (cf K a) 1 (run (n + 1) 18)) := by
  refine fn_ok (k := n + 2) (nl := 5) (ms := m_read_measure (run n) (runF n)) T.h_read_measure.F sc_read_measure rfl fun cdv A outer s H E A0 F0 H0 ex hr hgd => ?_
  have tk : Takes (cxOf (L2.CX P w) P w K mg base ["text", "found", "at", "last", "begin", "number"] "read_measure" (defScope s_read_measure) a.f_read_measure cdv A outer s H E) (fun cls d _ H => E cls d H) := takes_of rfl rfl rfl rfl
  exact ⟨_, (pss_cons (ps_par3 (i := 1) (j := 2) (l := 3) (by rfl) sc_read_measure.nd rfl rfl rfl (by decide) (by decide) (by decide) rfl rfl rfl (pa_cons (pe_lst pa_nil) (pa_cons pe_int (pa_cons pe_str pa_nil))) (by rfl))
  (pss_cons (ps_while (passes_of rfl) (pt_cmpR (Mi.op_neH rfl (hw_of hr)) (pv 0) pe_str (nomark _)) (pss_cons (ps_set (i := 4) sc_read_measure.nd rfl (Or.inl rfl) (pv 2))
  (pss_cons (ps_set (i := 2) sc_read_measure.nd rfl (Or.inl rfl) (Mi.pe_callSG (E := WE _) I.o_read_factor hr hgd rfl T.h_read_factor.g T.h_read_factor.F.kp T.b_read_factor (fun σ => passAt tk σ) (pa_cons (pv 0) (pa_cons (pv 4) (pa_cons (pv 3) pa_nil)))))
  (pss_cons (ps_set (i := 3) sc_read_measure.nd rfl (Or.inl rfl) (pe_slice (Mi.sl_G rfl) (pv 0) (po_some (pv 4)) (po_some (pv 2))))
  (pss_cons (ps_asg (Mi.pe_callSG (E := WE _) I.o_read_power hr hgd rfl T.h_read_power.g T.h_read_power.F.kp T.b_read_power (fun σ => passAt tk σ) (pa_cons (pv 0) (pa_cons (pv 2) pa_nil))) (pg_tup rfl (pgs_cons (pg_name (i := 2) sc_read_measure.nd rfl (Or.inl rfl)) (pgs_cons (pg_name (i := 5) sc_read_measure.nd rfl (Or.inl rfl)) pgs_nil))))
  (pss_cons (ps_expr (Wk.pe_bmK rfl PySem.F.plainAttrs_list PySem.F.slot_list_append PySem.F.type_list_append mt_append (pv 1) (pa_cons (Mi.pe_tupF (pa_cons (pv 3) (pa_cons (pv 5) pa_nil))) pa_nil)))
  (pss_cons (ps_if (pt_cmpR (Mi.op_eqH rfl (hw_of hr)) (pv 2) (pe_callB (Mi.call_lenG rfl) (by rfl) T.z_len (by decide +kernel) (pa_cons (pv 0) pa_nil)) (nomark _)) (pss_one (ps_ret (pe_callTy (Mi.call_tupleF rfl) (by rfl) T.z_tuple (by decide +kernel) (pa_cons (pv 1) pa_nil)))) pss_nil)
  (pss_cons (ps_if (PW.pt (pw_or (pt_cmpR (Mi.op_neH rfl (hw_of hr)) (pe_ix (Mi.ix_G rfl (hu_of hr)) (pv 0) (pv 2) (fun _ _ => rfl)) pe_str (nomark _)) (pw_or1 (pt_not (pt_truth (Mi.pe_callSG (E := WE _) I.o_may_follow hr hgd rfl T.h_may_follow.g T.h_may_follow.F.kp T.b_may_follow (fun σ => passAt tk σ) (pa_cons pe_str (pa_cons (pv 3) pa_nil))) (by intro _; rfl)))))) (pss_one (ps_raise rfl tk (pmk_oex T.e_BadText.o T.e_BadText.iC T.e_BadText.tI (ok_BadText_init T) (hr1 hr) T.b_BadText_init .nil pass0 rfl T.e_BadText.g (pa_cons (pv 2) pa_nil)))) pss_nil)
  (pss_one (ps_aug (i := 2) sc_read_measure.nd rfl (Or.inl rfl) pe_int ip_add))))))))))
  (pss_one (ps_ret (Mi.pe_tupF pa_nil))))),
   (sim_seq (sim_par3 (Nat.le_of_ble_eq_true rfl) (Nat.le_of_ble_eq_true rfl) (Nat.le_of_ble_eq_true rfl) (sim_aT (sim_fLst sim_nil) (sim_aV (sim_c fun _ => .int _) (sim_aV (sim_c fun _ => .str _) sim_aNil))))
  (sim_seq (sim_while wf (sim_test (sim_op2 o2_neH (sim_oN (Nat.le_of_ble_eq_true rfl)) (sim_oE (sim_c fun _ => .str _)))) (sim_seq (sim_asg (vs := [4]) (sim_var (Nat.le_of_ble_eq_true rfl)) (sim_gName (Nat.le_of_ble_eq_true rfl) (by decide)))
  (sim_seq (sim_asg (vs := [2]) (sim_callS (sim_aV (sim_var (Nat.le_of_ble_eq_true rfl)) (sim_aV (sim_var (Nat.le_of_ble_eq_true rfl)) (sim_aV (sim_var (Nat.le_of_ble_eq_true rfl)) sim_aNil)))) (sim_gName (Nat.le_of_ble_eq_true rfl) (by decide)))
  (sim_seq (sim_asg (vs := [3]) (sim_sl (sim_oN (Nat.le_of_ble_eq_true rfl)) (sim_part (sim_var (Nat.le_of_ble_eq_true rfl))) (sim_part (sim_var (Nat.le_of_ble_eq_true rfl)))) (sim_gName (Nat.le_of_ble_eq_true rfl) (by decide)))
  (sim_seq (sim_asg (vs := [2, 5]) (sim_callS (sim_aV (sim_var (Nat.le_of_ble_eq_true rfl)) (sim_aV (sim_var (Nat.le_of_ble_eq_true rfl)) sim_aNil))) (sim_gTup (sim_gsCons (sim_gName (Nat.le_of_ble_eq_true rfl) (by decide)) (sim_gsCons (sim_gName (Nat.le_of_ble_eq_true rfl) (by decide)) sim_gsNil))))
  (sim_seq (sim_drop (sim_append (Nat.le_of_ble_eq_true rfl) (sim_tup (sim_cons (sim_var (Nat.le_of_ble_eq_true rfl)) (sim_cons (sim_var (Nat.le_of_ble_eq_true rfl)) sim_nil)))))
  (sim_seq (sim_ifS (sim_test (sim_op2 o2_eqH (sim_oN (Nat.le_of_ble_eq_true rfl)) (sim_oE (sim_cb on_len (sim_ocons (sim_oN (Nat.le_of_ble_eq_true rfl)) sim_onil))))) (sim_ret (sim_cb on_tuple (sim_ocons (sim_oN (Nat.le_of_ble_eq_true rfl)) sim_onil))) sim_next)
  (sim_seq (sim_ifS (sim_or (sim_test (sim_op2 o2_neH (sim_oE (sim_op2 o2_ix (sim_oN (Nat.le_of_ble_eq_true rfl)) (sim_oN (Nat.le_of_ble_eq_true rfl)))) (sim_oE (sim_c fun _ => .str _)))) (sim_not (sim_tru rfl (sim_oE (sim_callS (sim_aV (sim_c fun _ => .str _) (sim_aV (sim_var (Nat.le_of_ble_eq_true rfl)) sim_aNil))))))) (sim_raise rfl rfl (sim_var (Nat.le_of_ble_eq_true rfl))) sim_next)
  (sim_aug (Nat.le_of_ble_eq_true rfl) (sim_c fun _ => .int _))))))))))
  (sim_ret (sim_tup sim_nil))))⟩
--CUT fill_measure
theorem w_fill_measure (T : Txt K mg a) {n : Nat} (I : Ok P w K mg base a n) : FnG P w K mg base (L2.CX P w) (n + 1 + 2) a.f_fill_measure a.d_fill_measure ["measure", "table"] (SpM (cf K a) 2 (run (n + 1) 19)) := by
  refine fn_ok (k := n + 2) (nl := 2) (ms := m_fill_measure (run n) (runF n)) T.h_fill_measure.F sc_fill_measure rfl fun cdv A outer s H E A0 F0 H0 ex hr hgd => ?_
  have tk : Takes (cxOf (L2.CX P w) P w K mg base ["measure", "table", "factor", "n"] "fill_measure" (defScope s_fill_measure) a.f_fill_measure cdv A outer s H E) (fun cls d _ H => E cls d H) := takes_of rfl rfl rfl rfl
  exact ⟨_, (pss_one (ps_ret (Mi.pe_callSG (E := WE _) I.o_product hr hgd rfl T.h_product.g T.h_product.F.kp T.b_product (fun σ => passAt tk σ) (pa_cons (pe_lc (own := [("factor", 2), ("n", 3)]) (tt := tYes) rfl sc_fill_measure.nd (Mi.pi_u rfl (pv 0)) (blkOk_by (own := [("factor", 2), ("n", 3)]) (N := ["measure", "table", "factor", "n"]) (sc := defScope s_fill_measure) (by decide +kernel)) (fun _ _ _ _ _ => (pg_tup rfl (pgs_cons (pg_name (i := 2) sc_fill_measure.nd rfl (Or.inl rfl)) (pgs_cons (pg_name (i := 3) sc_fill_measure.nd rfl (Or.inl rfl)) pgs_nil)))) (fun _ _ _ _ _ => pts_nil) (fun _ _ _ _ _ => (pe_ifExp (pt_cmpR (Mi.op_inG rfl (hu_of hr)) (pv 2) (pv 1) rfl) (Wk.pe_callG I.o_power hr hgd (by rfl) T.h_power.g T.h_power.F.kp T.b_power .nil passL (pa_cons (pe_ix (Mi.ix_G rfl (hu_of hr)) (pv 1) (pv 2) (fun _ _ => rfl)) (pa_cons (pv 3) pa_nil))) (Mi.pe_tupF (pa_cons (Mi.pe_tupF (pa_cons (pv 2) (pa_cons (pv 3) pa_nil))) pa_nil))))) pa_nil)))),
   (sim_ret (sim_callS (sim_aV (sim_frz (sim_fLc rfl (sim_iU (sim_var (Nat.le_of_ble_eq_true rfl))) (sim_gTup (sim_gsCons (sim_gName (Nat.le_of_ble_eq_true rfl) (by decide)) (sim_gsCons (sim_gName (Nat.le_of_ble_eq_true rfl) (by decide)) sim_gsNil))) sim_yes (sim_if (sim_test (sim_op2 o2_in (sim_oN (Nat.le_of_ble_eq_true rfl)) (sim_oN (Nat.le_of_ble_eq_true rfl)))) (sim_call0 (sim_aV (sim_op2 o2_ix (sim_oN (Nat.le_of_ble_eq_true rfl)) (sim_oN (Nat.le_of_ble_eq_true rfl))) (sim_aV (sim_var (Nat.le_of_ble_eq_true rfl)) sim_aNil))) (sim_tup (sim_cons (sim_tup (sim_cons (sim_var (Nat.le_of_ble_eq_true rfl)) (sim_cons (sim_var (Nat.le_of_ble_eq_true rfl)) sim_nil))) sim_nil))))) sim_aNil)))⟩
--CUT l_cell
theorem w_l_cell (T : Txt K mg a) {n : Nat} (I : Ok P w K mg base a n) : FnG P w K mg base (L2.CX P w) (n + 1 + 2) a.f_l_cell a.d_l_cell ["_law_script", "_law_k"] (SpM (cf K a) 2 (run (n + 1) 20)) := by
  refine fn_ok (k := n + 2) (nl := 0) (ms := m_l_cell (run n) (runF n)) T.h_l_cell.F sc_l_cell rfl fun cdv A outer s H E A0 F0 H0 ex hr hgd => ?_
  have tk : Takes (cxOf (L2.CX P w) P w K mg base ["_law_script", "_law_k"] "_law_cell" (defScope s_l_cell) a.f_l_cell cdv A outer s H E) (fun cls d _ H => E cls d H) := takes_of rfl rfl rfl rfl
  exact ⟨_, (pss_cons (ps_if (pt_cmpR Mi.op_ltG (pv 1) (pe_callB (Mi.call_lenG rfl) (by rfl) T.z_len (by decide +kernel) (pa_cons (pv 0) pa_nil)) (nomark _)) (pss_one (ps_ret (pe_ix (Mi.ix_G rfl (hu_of hr)) (pv 0) (pv 1) (fun _ _ => rfl)))) pss_nil)
  (pss_one (ps_ret (pe_op (Mi.op_addG rfl) (pe_op Mi.op_mulH pe_int (pv 1)) pe_int)))),
   (sim_seq (sim_ifS (sim_test (sim_op2 o2_lt (sim_oN (Nat.le_of_ble_eq_true rfl)) (sim_oE (sim_cb on_len (sim_ocons (sim_oN (Nat.le_of_ble_eq_true rfl)) sim_onil))))) (sim_ret (sim_op2 o2_ix (sim_oN (Nat.le_of_ble_eq_true rfl)) (sim_oN (Nat.le_of_ble_eq_true rfl)))) sim_next)
  (sim_ret (sim_op2 o2_add (sim_oE (sim_op2 o2_mulH (sim_oE (sim_c fun _ => .int _)) (sim_oN (Nat.le_of_ble_eq_true rfl)))) (sim_oE (sim_c fun _ => .int _)))))⟩
--CUT l_box
theorem w_l_box (T : Txt K mg a) {n : Nat} (I : Ok P w K mg base a n) : FnG P w K mg base (L2.CX P w) (n + 1 + 2) a.f_l_box a.d_l_box ["_law_cell_here"] (SpMF (cf K a) 1 (runF (n + 1) 21)) := by
  refine fn_okF (k := n + 2) (nl := 0) (ms := m_l_box (run n) (runF n)) T.h_l_box.F sc_l_box rfl fun cdv A outer s H E A0 F0 H0 ex hr hgd => ?_
  have tk : Takes (cxOf (L2.CX P w) P w K mg base ["_law_cell_here"] "_law_box" (defScope s_l_box) a.f_l_box cdv A outer s H E) (fun cls d _ H => E cls d H) := takes_of rfl rfl rfl rfl
  exact ⟨_, (pss_one (ps_ret (pe_lst (pa_cons (pe_callB (Mi.call_maxG rfl) (by rfl) T.z_max (by decide +kernel) (pa_cons pe_int (pa_cons (pe_op op_sub (pe_callB (Mi.call_absG) (by rfl) T.z_abs (by decide +kernel) (pa_cons (pv 0) pa_nil)) (pe_op op_pow pe_int pe_int)) pa_nil))) (pa_cons (pe_op Mi.op_modG (pe_callB (Mi.call_absG) (by rfl) T.z_abs (by decide +kernel) (pa_cons (pv 0) pa_nil)) pe_int) (pa_cons pe_int pa_nil)))))),
   (sim_retF (sim_fLst (sim_cons (sim_cb on_max (sim_ocons (sim_oE (sim_c fun _ => .int _)) (sim_ocons (sim_oE (sim_op2 o2_sub (sim_oE (sim_cb on_abs (sim_ocons (sim_oN (Nat.le_of_ble_eq_true rfl)) sim_onil))) (sim_oE (sim_op2 o2_pow (sim_oE (sim_c fun _ => .int _)) (sim_oE (sim_c fun _ => .int _)))))) sim_onil))) (sim_cons (sim_op2 o2_mod (sim_oE (sim_cb on_abs (sim_ocons (sim_oN (Nat.le_of_ble_eq_true rfl)) sim_onil))) (sim_oE (sim_c fun _ => .int _))) (sim_cons (sim_c fun _ => .int _) sim_nil)))))⟩
--CUT l_take
theorem w_l_take (T : Txt K mg a) {n : Nat} (I : Ok P w K mg base a n) : FnG P w K mg base (L2.CX P w) (n + 1 + 2) a.f_l_take a.d_l_take ["_law_box_here", "_law_many"] (SpM (cf K a) 2 (run (n + 1) 22)) := by
  refine fn_ok (k := n + 2) (nl := 2) (ms := m_l_take (run n) (runF n)) T.h_l_take.F sc_l_take rfl fun cdv A outer s H E A0 F0 H0 ex hr hgd => ?_
  have tk : Takes (cxOf (L2.CX P w) P w K mg base ["_law_box_here", "_law_many", "_law_digit", "_law_number"] "_law_take" (defScope s_l_take) a.f_l_take cdv A outer s H E) (fun cls d _ H => E cls d H) := takes_of rfl rfl rfl rfl
  exact ⟨_, (pss_cons (ps_if (pt_cmpR Mi.op_gtG (pe_ix (Mi.ix_G rfl (hu_of hr)) (pv 0) pe_int (fun _ _ => rfl)) pe_int (nomark _)) (pss_cons (ps_set (i := 2) sc_l_take.nd rfl (Or.inl rfl) (pe_op Mi.op_modG (pe_ix (Mi.ix_G rfl (hu_of hr)) (pv 0) pe_int (fun _ _ => rfl)) (pv 1)))
  (pss_cons (ps_asg (pe_op Mi.op_divG (pe_ix (Mi.ix_G rfl (hu_of hr)) (pv 0) pe_int (fun _ _ => rfl)) (pv 1)) (pg_sub (pv 0) pe_int set_list))
  (pss_one (ps_ret (pv 2))))) pss_nil)
  (pss_cons (ps_asg (pe_op (Mi.op_addG rfl) (pe_ix (Mi.ix_G rfl (hu_of hr)) (pv 0) pe_int (fun _ _ => rfl)) pe_int) (pg_sub (pv 0) pe_int set_list))
  (pss_cons (ps_set (i := 3) sc_l_take.nd rfl (Or.inl rfl) (pe_op Mi.op_modG (pe_op op_pow (pe_op (Mi.op_addG rfl) (pe_op (Mi.op_addG rfl) (pe_ix (Mi.ix_G rfl (hu_of hr)) (pv 0) pe_int (fun _ _ => rfl)) (pe_op Mi.op_mulH pe_int (pe_ix (Mi.ix_G rfl (hu_of hr)) (pv 0) pe_int (fun _ _ => rfl)))) pe_int) pe_int) pe_int))
  (pss_cons (ps_set (i := 3) sc_l_take.nd rfl (Or.inl rfl) (pe_op Mi.op_modG (pe_op op_pow (pe_op (Mi.op_addG rfl) (pv 3) (pe_op Mi.op_mulH pe_int (pe_ix (Mi.ix_G rfl (hu_of hr)) (pv 0) pe_int (fun _ _ => rfl)))) pe_int) pe_int))
  (pss_one (ps_ret (pe_op Mi.op_modG (pe_op Mi.op_divG (pv 3) pe_int) (pv 1)))))))),
   (sim_seq (sim_ifS (sim_test (sim_op2 o2_gt (sim_oE (sim_op2 o2_ix (sim_oN (Nat.le_of_ble_eq_true rfl)) (sim_oE (sim_c fun _ => .int _)))) (sim_oE (sim_c fun _ => .int _)))) (sim_seq (sim_asg (vs := [2]) (sim_op2 o2_mod (sim_oE (sim_op2 o2_ix (sim_oN (Nat.le_of_ble_eq_true rfl)) (sim_oE (sim_c fun _ => .int _)))) (sim_oN (Nat.le_of_ble_eq_true rfl))) (sim_gName (Nat.le_of_ble_eq_true rfl) (by decide)))
  (sim_seq (sim_setIx (Nat.le_of_ble_eq_true rfl) (sim_op2 o2_div (sim_oE (sim_op2 o2_ix (sim_oN (Nat.le_of_ble_eq_true rfl)) (sim_oE (sim_c fun _ => .int _)))) (sim_oN (Nat.le_of_ble_eq_true rfl))) (sim_c fun _ => .int _))
  (sim_ret (sim_var (Nat.le_of_ble_eq_true rfl))))) sim_next)
  (sim_seq (sim_setIx (Nat.le_of_ble_eq_true rfl) (sim_op2 o2_add (sim_oE (sim_op2 o2_ix (sim_oN (Nat.le_of_ble_eq_true rfl)) (sim_oE (sim_c fun _ => .int _)))) (sim_oE (sim_c fun _ => .int _))) (sim_c fun _ => .int _))
  (sim_seq (sim_asg (vs := [3]) (sim_op2 o2_mod (sim_oE (sim_op2 o2_pow (sim_oE (sim_op2 o2_add (sim_oE (sim_op2 o2_add (sim_oE (sim_op2 o2_ix (sim_oN (Nat.le_of_ble_eq_true rfl)) (sim_oE (sim_c fun _ => .int _)))) (sim_oE (sim_op2 o2_mulH (sim_oE (sim_c fun _ => .int _)) (sim_oE (sim_op2 o2_ix (sim_oN (Nat.le_of_ble_eq_true rfl)) (sim_oE (sim_c fun _ => .int _)))))))) (sim_oE (sim_c fun _ => .int _)))) (sim_oE (sim_c fun _ => .int _)))) (sim_oE (sim_c fun _ => .int _))) (sim_gName (Nat.le_of_ble_eq_true rfl) (by decide)))
  (sim_seq (sim_asg (vs := [3]) (sim_op2 o2_mod (sim_oE (sim_op2 o2_pow (sim_oE (sim_op2 o2_add (sim_oN (Nat.le_of_ble_eq_true rfl)) (sim_oE (sim_op2 o2_mulH (sim_oE (sim_c fun _ => .int _)) (sim_oE (sim_op2 o2_ix (sim_oN (Nat.le_of_ble_eq_true rfl)) (sim_oE (sim_c fun _ => .int _)))))))) (sim_oE (sim_c fun _ => .int _)))) (sim_oE (sim_c fun _ => .int _))) (sim_gName (Nat.le_of_ble_eq_true rfl) (by decide)))
  (sim_ret (sim_op2 o2_mod (sim_oE (sim_op2 o2_div (sim_oN (Nat.le_of_ble_eq_true rfl)) (sim_oE (sim_c fun _ => .int _)))) (sim_oN (Nat.le_of_ble_eq_true rfl))))))))⟩
--CUT l_word
theorem w_l_word (T : Txt K mg a) {n : Nat} (I : Ok P w K mg base a n) : FnG P w K mg base (L2.CX P w) (n + 1 + 2) a.f_l_word a.d_l_word ["_law_box_here"] (SpM (cf K a) 1 (run (n + 1) 23)) := by
  refine fn_ok (k := n + 2) (nl := 1) (ms := m_l_word (run n) (runF n)) T.h_l_word.F sc_l_word rfl fun cdv A outer s H E A0 F0 H0 ex hr hgd => ?_
  have tk : Takes (cxOf (L2.CX P w) P w K mg base ["_law_box_here", "_law_some"] "_law_word" (defScope s_l_word) a.f_l_word cdv A outer s H E) (fun cls d _ H => E cls d H) := takes_of rfl rfl rfl rfl
  exact ⟨_, (pss_cons (ps_set (i := 1) sc_l_word.nd rfl (Or.inl rfl) (pe_lst (pa_cons pe_str (pa_cons pe_str (pa_cons pe_str (pa_cons pe_str (pa_cons pe_str (pa_cons pe_str (pa_cons pe_str (pa_cons pe_str (pa_cons pe_str (pa_cons pe_str (pa_cons pe_str (pa_cons pe_str (pa_cons pe_str (pa_cons pe_str (pa_cons pe_str pa_nil)))))))))))))))))
  (pss_one (ps_ret (pe_ix (Mi.ix_G rfl (hu_of hr)) (pv 1) (Mi.pe_callSG (E := WE _) I.o_l_take hr hgd rfl T.h_l_take.g T.h_l_take.F.kp T.b_l_take (fun σ => passAt tk σ) (pa_cons (pv 0) (pa_cons pe_int pa_nil))) (fun _ _ => rfl))))),
   (sim_seq (sim_asg (vs := [1]) (sim_frz (sim_fLst (sim_cons (sim_c fun _ => .str _) (sim_cons (sim_c fun _ => .str _) (sim_cons (sim_c fun _ => .str _) (sim_cons (sim_c fun _ => .str _) (sim_cons (sim_c fun _ => .str _) (sim_cons (sim_c fun _ => .str _) (sim_cons (sim_c fun _ => .str _) (sim_cons (sim_c fun _ => .str _) (sim_cons (sim_c fun _ => .str _) (sim_cons (sim_c fun _ => .str _) (sim_cons (sim_c fun _ => .str _) (sim_cons (sim_c fun _ => .str _) (sim_cons (sim_c fun _ => .str _) (sim_cons (sim_c fun _ => .str _) (sim_cons (sim_c fun _ => .str _) sim_nil))))))))))))))))) (sim_gName (Nat.le_of_ble_eq_true rfl) (by decide)))
  (sim_ret (sim_op2 o2_ix (sim_oN (Nat.le_of_ble_eq_true rfl)) (sim_oE (sim_callS (sim_aS (Nat.le_of_ble_eq_true rfl) (sim_aV (sim_c fun _ => .int _) sim_aNil)))))))⟩
--CUT l_factor
theorem w_l_factor (T : Txt K mg a) {n : Nat} (I : Ok P w K mg base a n) : FnG P w K mg base (L2.CX P w) (n + 1 + 2) a.f_l_factor a.d_l_factor ["_law_box_here"] (SpM (cf K a) 1 (run (n + 1) 24)) := by
  refine fn_ok (k := n + 2) (nl := 0) (ms := m_l_factor (run n) (runF n)) T.h_l_factor.F sc_l_factor rfl fun cdv A outer s H E A0 F0 H0 ex hr hgd => ?_
  have tk : Takes (cxOf (L2.CX P w) P w K mg base ["_law_box_here"] "_law_factor" (defScope s_l_factor) a.f_l_factor cdv A outer s H E) (fun cls d _ H => E cls d H) := takes_of rfl rfl rfl rfl
  exact ⟨_, (pss_one (ps_ret (pe_op (Mi.op_addG rfl) (pe_ix (Mi.ix_G rfl (hu_of hr)) (pe_lst (pa_cons pe_str (pa_cons pe_str (pa_cons pe_str pa_nil)))) (Mi.pe_callSG (E := WE _) I.o_l_take hr hgd rfl T.h_l_take.g T.h_l_take.F.kp T.b_l_take (fun σ => passAt tk σ) (pa_cons (pv 0) (pa_cons pe_int pa_nil))) (fun _ _ => rfl)) (Mi.pe_callSG (E := WE _) I.o_l_word hr hgd rfl T.h_l_word.g T.h_l_word.F.kp T.b_l_word (fun σ => passAt tk σ) (pa_cons (pv 0) pa_nil))))),
   (sim_ret (sim_op2 o2_add (sim_oE (sim_op2 o2_ix (sim_oE (sim_frz (sim_fLst (sim_cons (sim_c fun _ => .str _) (sim_cons (sim_c fun _ => .str _) (sim_cons (sim_c fun _ => .str _) sim_nil)))))) (sim_oE (sim_callS (sim_aS (Nat.le_of_ble_eq_true rfl) (sim_aV (sim_c fun _ => .int _) sim_aNil)))))) (sim_oE (sim_callS (sim_aS (Nat.le_of_ble_eq_true rfl) sim_aNil)))))⟩
--CUT l_power
theorem w_l_power (T : Txt K mg a) {n : Nat} (I : Ok P w K mg base a n) : FnG P w K mg base (L2.CX P w) (n + 1 + 2) a.f_l_power a.d_l_power ["_law_box_here"] (SpM (cf K a) 1 (run (n + 1) 25)) := by
  refine fn_ok (k := n + 2) (nl := 0) (ms := m_l_power (run n) (runF n)) T.h_l_power.F sc_l_power rfl fun cdv A outer s H E A0 F0 H0 ex hr hgd => ?_
  have tk : Takes (cxOf (L2.CX P w) P w K mg base ["_law_box_here"] "_law_power" (defScope s_l_power) a.f_l_power cdv A outer s H E) (fun cls d _ H => E cls d H) := takes_of rfl rfl rfl rfl
  exact ⟨_, (pss_one (ps_ret (pe_ix (Mi.ix_G rfl (hu_of hr)) (pe_lst (pa_cons pe_int (pa_cons pe_int (pa_cons (pe_un un_neg pe_int) (pa_cons pe_int (pa_cons (pe_un un_neg pe_int) (pa_cons pe_int (pa_cons (pe_un un_neg pe_int) (pa_cons pe_int (pa_cons pe_int (pa_cons pe_int pa_nil))))))))))) (Mi.pe_callSG (E := WE _) I.o_l_take hr hgd rfl T.h_l_take.g T.h_l_take.F.kp T.b_l_take (fun σ => passAt tk σ) (pa_cons (pv 0) (pa_cons pe_int pa_nil))) (fun _ _ => rfl)))),
   (sim_ret (sim_op2 o2_ix (sim_oE (sim_frz (sim_fLst (sim_cons (sim_c fun _ => .int _) (sim_cons (sim_c fun _ => .int _) (sim_cons (sim_un o1_neg (sim_oE (sim_c fun _ => .int _))) (sim_cons (sim_c fun _ => .int _) (sim_cons (sim_un o1_neg (sim_oE (sim_c fun _ => .int _))) (sim_cons (sim_c fun _ => .int _) (sim_cons (sim_un o1_neg (sim_oE (sim_c fun _ => .int _))) (sim_cons (sim_c fun _ => .int _) (sim_cons (sim_c fun _ => .int _) (sim_cons (sim_c fun _ => .int _) sim_nil))))))))))))) (sim_oE (sim_callS (sim_aS (Nat.le_of_ble_eq_true rfl) (sim_aV (sim_c fun _ => .int _) sim_aNil))))))⟩
--CUT l_measure
theorem w_l_measure (T : Txt K mg a) {n : Nat} (I : Ok P w K mg base a n) : FnG P w K mg base (L2.CX P w) (n + 1 + 2) a.f_l_measure a.d_l_measure ["_law_box_here", "_law_most"] (SpM (cf K a) 2 (run (n + 1) 26)) := by
  refine fn_ok (k := n + 2) (nl := 2) (ms := m_l_measure (run n) (runF n)) T.h_l_measure.F sc_l_measure rfl fun cdv A outer s H E A0 F0 H0 ex hr hgd => ?_
  have tk : Takes (cxOf (L2.CX P w) P w K mg base ["_law_box_here", "_law_most", "_law_found", "_law_turn"] "_law_measure" (defScope s_l_measure) a.f_l_measure cdv A outer s H E) (fun cls d _ H => E cls d H) := takes_of rfl rfl rfl rfl
  exact ⟨_, (pss_cons (ps_set (i := 2) sc_l_measure.nd rfl (Or.inl rfl) pe_dnewK)
  (pss_cons (ps_for (passes_of rfl) rfl (pi_range1 rfl T.z_range (pa_cons (Mi.pe_callSG (E := WE _) I.o_l_take hr hgd rfl T.h_l_take.g T.h_l_take.F.kp T.b_l_take (fun σ => passAt tk σ) (pa_cons (pv 0) (pa_cons (pe_op (Mi.op_addG rfl) (pv 1) pe_int) pa_nil))) pa_nil)) (pg_name (i := 3) sc_l_measure.nd rfl (Or.inl rfl)) (pss_one (ps_dput (hu_of hr) (pv 2) (Mi.pe_callSG (E := WE _) I.o_l_factor hr hgd rfl T.h_l_factor.g T.h_l_factor.F.kp T.b_l_factor (fun σ => passAt tk σ) (pa_cons (pv 0) pa_nil)) (Mi.pe_callSG (E := WE _) I.o_l_power hr hgd rfl T.h_l_power.g T.h_l_power.F.kp T.b_l_power (fun σ => passAt tk σ) (pa_cons (pv 0) pa_nil)) rfl)))
  (pss_one (ps_ret (Mi.pe_callSG (E := WE _) I.o_l_of hr hgd rfl T.h_l_of.g T.h_l_of.F.kp T.b_l_of (fun σ => passAt tk σ) (pa_cons (pv 2) pa_nil)))))),
   (sim_seq (sim_asgO sim_fDk)
  (sim_seq (sim_for (vs := [3]) (sim_range1 (sim_callS (sim_aS (Nat.le_of_ble_eq_true rfl) (sim_aV (sim_op2 o2_add (sim_oN (Nat.le_of_ble_eq_true rfl)) (sim_oE (sim_c fun _ => .int _))) sim_aNil)))) (sim_gName (Nat.le_of_ble_eq_true rfl) (by decide)) (sim_put (Nat.le_of_ble_eq_true rfl) (sim_callS (sim_aS (Nat.le_of_ble_eq_true rfl) sim_aNil)) (sim_callS (sim_aS (Nat.le_of_ble_eq_true rfl) sim_aNil))))
  (sim_ret (sim_callS (sim_aS (Nat.le_of_ble_eq_true rfl) sim_aNil)))))⟩
--CUT l_of
theorem w_l_of (T : Txt K mg a) {n : Nat} (I : Ok P w K mg base a n) : FnG P w K mg base (L2.CX P w) (n + 1 + 2) a.f_l_of a.d_l_of ["_law_powers"] (SpM (cf K a) 1 (run (n + 1) 27)) := by
  refine fn_ok (k := n + 2) (nl := 1) (ms := m_l_of (run n) (runF n)) T.h_l_of.F sc_l_of rfl fun cdv A outer s H E A0 F0 H0 ex hr hgd => ?_
  have tk : Takes (cxOf (L2.CX P w) P w K mg base ["_law_powers", "_law_factor_here"] "_law_of" (defScope s_l_of) a.f_l_of cdv A outer s H E) (fun cls d _ H => E cls d H) := takes_of rfl rfl rfl rfl
  exact ⟨_, (pss_one (ps_ret (pe_callTy (Mi.call_tupleF rfl) (by rfl) T.z_tuple (by decide +kernel) (pa_cons (pe_lc (own := [("_law_factor_here", 1)]) rfl sc_l_of.nd (Mi.pi_u rfl (pe_callB (Mi.call_sortedG rfl) (by rfl) T.z_sorted (by decide +kernel) (pa_cons (pv 0) pa_nil))) (blkOk_by (own := [("_law_factor_here", 1)]) (N := ["_law_powers", "_law_factor_here"]) (sc := defScope s_l_of) (by decide +kernel)) (fun _ _ _ _ _ => (pg_name (i := 1) sc_l_of.nd rfl (Or.inl rfl))) (fun _ _ _ _ _ => (pts_one (pt_cmpR (Mi.op_neH rfl (hw_of hr)) (pe_ix (Mi.ix_G rfl (hu_of hr)) (pv 0) (pv 1) (fun _ _ => rfl)) pe_int (nomark _)))) (fun _ _ _ _ _ => (Mi.pe_tupF (pa_cons (pv 1) (pa_cons (pe_ix (Mi.ix_G rfl (hu_of hr)) (pv 0) (pv 1) (fun _ _ => rfl)) pa_nil))))) pa_nil)))),
   (sim_ret (sim_cb on_tuple (sim_ocons (sim_oE (sim_frz (sim_fLc rfl (sim_iU (sim_frz (sim_fSorted (sim_oN (Nat.le_of_ble_eq_true rfl))))) (sim_gName (Nat.le_of_ble_eq_true rfl) (by decide)) (sim_test (sim_op2 o2_neH (sim_oE (sim_op2 o2_ix (sim_oN (Nat.le_of_ble_eq_true rfl)) (sim_oN (Nat.le_of_ble_eq_true rfl)))) (sim_oE (sim_c fun _ => .int _)))) (sim_tup (sim_cons (sim_var (Nat.le_of_ble_eq_true rfl)) (sim_cons (sim_op2 o2_ix (sim_oN (Nat.le_of_ble_eq_true rfl)) (sim_oN (Nat.le_of_ble_eq_true rfl))) sim_nil)))))) sim_onil)))⟩
--CUT l_product
theorem w_l_product (T : Txt K mg a) {n : Nat} (I : Ok P w K mg base a n) : FnG P w K mg base (L2.CX P w) (n + 1 + 2) a.f_l_product a.d_l_product ["_law_one", "_law_other", "_law_n"] (SpM (cf K a) 3 (run (n + 1) 28)) := by
  refine fn_ok (k := n + 2) (nl := 3) (ms := m_l_product (run n) (runF n)) T.h_l_product.F sc_l_product rfl fun cdv A outer s H E A0 F0 H0 ex hr hgd => ?_
  have tk : Takes (cxOf (L2.CX P w) P w K mg base ["_law_one", "_law_other", "_law_n", "_law_found", "_law_factor_here", "_law_number"] "_law_product" (defScope s_l_product) a.f_l_product cdv A outer s H E) (fun cls d _ H => E cls d H) := takes_of rfl rfl rfl rfl
  exact ⟨_, (pss_cons (ps_set (i := 3) sc_l_product.nd rfl (Or.inl rfl) (pe_callTy (Mi.call_dictG rfl rfl) (by rfl) T.z_dict (by decide +kernel) (pa_cons (pv 0) pa_nil)))
  (pss_cons (ps_for (passes_of rfl) rfl (Mi.pi_u rfl (pv 1)) (pg_tup rfl (pgs_cons (pg_name (i := 4) sc_l_product.nd rfl (Or.inl rfl)) (pgs_cons (pg_name (i := 5) sc_l_product.nd rfl (Or.inl rfl)) pgs_nil))) (pss_one (ps_dput (hu_of hr) (pv 3) (pv 4) (pe_op (Mi.op_addG rfl) (pe_dget2 (hu_of hr) (pv 3) (pv 4) pe_int ⟨rfl, rfl, rfl, rfl⟩) (pe_op Mi.op_mulH (pv 2) (pv 5))) rfl)))
  (pss_one (ps_ret (Mi.pe_callSG (E := WE _) I.o_l_of hr hgd rfl T.h_l_of.g T.h_l_of.F.kp T.b_l_of (fun σ => passAt tk σ) (pa_cons (pv 3) pa_nil)))))),
   (sim_seq (sim_asgO (sim_fDict (sim_oN (Nat.le_of_ble_eq_true rfl))))
  (sim_seq (sim_for (vs := [4, 5]) (sim_iU (sim_var (Nat.le_of_ble_eq_true rfl))) (sim_gTup (sim_gsCons (sim_gName (Nat.le_of_ble_eq_true rfl) (by decide)) (sim_gsCons (sim_gName (Nat.le_of_ble_eq_true rfl) (by decide)) sim_gsNil))) (sim_put (Nat.le_of_ble_eq_true rfl) (sim_op2 o2_add (sim_oE (sim_get2 (sim_oN (Nat.le_of_ble_eq_true rfl)) (sim_var (Nat.le_of_ble_eq_true rfl)) (sim_c fun _ => .int _))) (sim_oE (sim_op2 o2_mulH (sim_oN (Nat.le_of_ble_eq_true rfl)) (sim_oN (Nat.le_of_ble_eq_true rfl))))) (sim_var (Nat.le_of_ble_eq_true rfl))))
  (sim_ret (sim_callS (sim_aS (Nat.le_of_ble_eq_true rfl) sim_aNil)))))⟩
--CUT l_shown
theorem w_l_shown (T : Txt K mg a) {n : Nat} (I : Ok P w K mg base a n) : FnG P w K mg base (L2.CX P w) (n + 1 + 2) a.f_l_shown a.d_l_shown ["_law_measure_here"] (SpM (cf K a) 1 (run (n + 1) 29)) := by
  refine fn_ok (k := n + 2) (nl := 3) (ms := m_l_shown (run n) (runF n)) T.h_l_shown.F sc_l_shown rfl fun cdv A outer s H E A0 F0 H0 ex hr hgd => ?_
  have tk : Takes (cxOf (L2.CX P w) P w K mg base ["_law_measure_here", "_law_words", "_law_factor_here", "_law_number"] "_law_shown" (defScope s_l_shown) a.f_l_shown cdv A outer s H E) (fun cls d _ H => E cls d H) := takes_of rfl rfl rfl rfl
  exact ⟨_, (pss_cons (ps_set (i := 1) sc_l_shown.nd rfl (Or.inl rfl) (pe_lst pa_nil))
  (pss_cons (ps_for (passes_of rfl) rfl (Mi.pi_u rfl (pv 0)) (pg_tup rfl (pgs_cons (pg_name (i := 2) sc_l_shown.nd rfl (Or.inl rfl)) (pgs_cons (pg_name (i := 3) sc_l_shown.nd rfl (Or.inl rfl)) pgs_nil))) (pss_one (ps_expr (Wk.pe_bmK rfl PySem.F.plainAttrs_list PySem.F.slot_list_append PySem.F.type_list_append mt_append (pv 1) (pa_cons (pe_ifExp (pt_cmpR (Mi.op_eqH rfl (hw_of hr)) (pv 3) pe_int (nomark _)) (pv 2) (pe_op (Mi.op_addG rfl) (pe_op (Mi.op_addG rfl) (pv 2) pe_str) (pe_callTy (Mi.call_strG) (by rfl) T.z_str (by decide +kernel) (pa_cons (pv 3) pa_nil)))) pa_nil)))))
  (pss_one (ps_ret (pe_m1 PySem.F.slot_str_join PySem.F.type_str_join (Mi.mt_joinG rfl) pe_str (pv 1)))))),
   (sim_seq (sim_asgO (sim_fLst sim_nil))
  (sim_seq (sim_for (vs := [2, 3]) (sim_iU (sim_var (Nat.le_of_ble_eq_true rfl))) (sim_gTup (sim_gsCons (sim_gName (Nat.le_of_ble_eq_true rfl) (by decide)) (sim_gsCons (sim_gName (Nat.le_of_ble_eq_true rfl) (by decide)) sim_gsNil))) (sim_drop (sim_append (Nat.le_of_ble_eq_true rfl) (sim_if (sim_test (sim_op2 o2_eqH (sim_oN (Nat.le_of_ble_eq_true rfl)) (sim_oE (sim_c fun _ => .int _)))) (sim_var (Nat.le_of_ble_eq_true rfl)) (sim_op2 o2_add (sim_oE (sim_op2 o2_add (sim_oN (Nat.le_of_ble_eq_true rfl)) (sim_oE (sim_c fun _ => .str _)))) (sim_oE (sim_cb on_str (sim_ocons (sim_oN (Nat.le_of_ble_eq_true rfl)) sim_onil))))))))
  (sim_ret (sim_m1 om_join (sim_c fun _ => .str _) (sim_oN (Nat.le_of_ble_eq_true rfl))))))⟩
--CUT l_is_word
theorem w_l_is_word (T : Txt K mg a) {n : Nat} (I : Ok P w K mg base a n) : FnG P w K mg base (L2.CX P w) (n + 1 + 2) a.f_l_is_word a.d_l_is_word ["_law_text"] (SpM (cf K a) 1 (run (n + 1) 30)) := by
  refine fn_ok (k := n + 2) (nl := 4) (ms := m_l_is_word (run n) (runF n)) T.h_l_is_word.F sc_l_is_word rfl fun cdv A outer s H E A0 F0 H0 ex hr hgd => ?_
  have tk : Takes (cxOf (L2.CX P w) P w K mg base ["_law_text", "_law_letters", "_law_k", "_law_rest", "_law_sign"] "_law_is_word" (defScope s_l_is_word) a.f_l_is_word cdv A outer s H E) (fun cls d _ H => E cls d H) := takes_of rfl rfl rfl rfl
  exact ⟨_, (pss_cons (ps_set (i := 1) sc_l_is_word.nd rfl (Or.inl rfl) (pe_callB (Mi.call_lenG rfl) (by rfl) T.z_len (by decide +kernel) (pa_cons (pe_lc (own := [("_law_k", 2)]) rfl sc_l_is_word.nd (pi_range1 rfl T.z_range (pa_cons (pe_callB (Mi.call_lenG rfl) (by rfl) T.z_len (by decide +kernel) (pa_cons (pv 0) pa_nil)) pa_nil)) (blkOk_by (own := [("_law_k", 2)]) (N := ["_law_text", "_law_letters", "_law_k", "_law_rest", "_law_sign"]) (sc := defScope s_l_is_word) (by decide +kernel)) (fun _ _ _ _ _ => (pg_name (i := 2) sc_l_is_word.nd rfl (Or.inl rfl))) (fun _ _ _ _ _ => (pts_one (pt_truth (Wk.pe_callG I.o_l_small hr hgd (by rfl) T.h_l_small.g T.h_l_small.F.kp T.b_l_small .nil passL (pa_cons (pe_slice (Mi.sl_G rfl) (pv 0) po_none (po_some (pe_op (Mi.op_addG rfl) (pv 2) pe_int))) pa_nil)) (by intro _; rfl)))) (fun _ _ _ _ _ => (pv 2))) pa_nil)))
  (pss_cons (ps_set (i := 3) sc_l_is_word.nd rfl (Or.inl rfl) (pe_slice (Mi.sl_G rfl) (pv 0) (po_some (pv 1)) po_none))
  (pss_cons (ps_if (PW.pt (pw_or (pt_not (pt_chain Mi.op_leG Mi.op_leG pe_int (pv 1) pe_int)) (pw_or (pt_cmpR Mi.op_gtG (pe_callB (Mi.call_lenG rfl) (by rfl) T.z_len (by decide +kernel) (pa_cons (pv 3) pa_nil)) pe_int (nomark _)) (pw_or1 (pt_cmpR (Mi.op_eqH rfl (hw_of hr)) (pe_slice (Mi.sl_G rfl) (pv 3) po_none (po_some pe_int)) pe_str (nomark _)))))) (pss_one (ps_ret pe_bl)) pss_nil)
  (pss_cons (ps_if (pt_cmpR (Mi.op_inG rfl (hu_of hr)) (pv 0) (pe_lst (pa_cons pe_str (pa_cons pe_str (pa_cons pe_str (pa_cons pe_str (pa_cons pe_str (pa_cons pe_str (pa_cons pe_str (pa_cons pe_str pa_nil))))))))) rfl) (pss_one (ps_ret pe_bl)) pss_nil)
  (pss_one (ps_ret (pe_cmpR (Mi.op_eqH rfl (hw_of hr)) (pe_lc (own := [("_law_sign", 4)]) rfl sc_l_is_word.nd (Mi.pi_u rfl (pv 3)) (blkOk_by (own := [("_law_sign", 4)]) (N := ["_law_text", "_law_letters", "_law_k", "_law_rest", "_law_sign"]) (sc := defScope s_l_is_word) (by decide +kernel)) (fun _ _ _ _ _ => (pg_name (i := 4) sc_l_is_word.nd rfl (Or.inl rfl))) (fun _ _ _ _ _ => (pts_one (pt_cmpR (Mi.op_notInG rfl (hu_of hr)) (pv 4) pe_str rfl))) (fun _ _ _ _ _ => (pv 4))) (pe_lst pa_nil) (nomark _)))))))),
   (sim_seq (sim_asg (vs := [1]) (sim_cb on_len (sim_ocons (sim_oE (sim_frz (sim_fLc rfl (sim_range1 (sim_cb on_len (sim_ocons (sim_oN (Nat.le_of_ble_eq_true rfl)) sim_onil))) (sim_gName (Nat.le_of_ble_eq_true rfl) (by decide)) (sim_tru rfl (sim_oE (sim_call0 (sim_aV (sim_sl (sim_oN (Nat.le_of_ble_eq_true rfl)) sim_noPart (sim_part (sim_op2 o2_add (sim_oN (Nat.le_of_ble_eq_true rfl)) (sim_oE (sim_c fun _ => .int _))))) sim_aNil)))) (sim_var (Nat.le_of_ble_eq_true rfl))))) sim_onil)) (sim_gName (Nat.le_of_ble_eq_true rfl) (by decide)))
  (sim_seq (sim_asg (vs := [3]) (sim_sl (sim_oN (Nat.le_of_ble_eq_true rfl)) (sim_part (sim_var (Nat.le_of_ble_eq_true rfl))) sim_noPart) (sim_gName (Nat.le_of_ble_eq_true rfl) (by decide)))
  (sim_seq (sim_ifS (sim_or (sim_not (sim_test (sim_chain o2_le o2_le (sim_c fun _ => .int _) (sim_var (Nat.le_of_ble_eq_true rfl)) (sim_c fun _ => .int _)))) (sim_or (sim_test (sim_op2 o2_gt (sim_oE (sim_cb on_len (sim_ocons (sim_oN (Nat.le_of_ble_eq_true rfl)) sim_onil))) (sim_oE (sim_c fun _ => .int _)))) (sim_test (sim_op2 o2_eqH (sim_oE (sim_sl (sim_oN (Nat.le_of_ble_eq_true rfl)) sim_noPart (sim_part (sim_c fun _ => .int _)))) (sim_oE (sim_c fun _ => .str _)))))) (sim_ret (sim_c fun _ => .bl _)) sim_next)
  (sim_seq (sim_ifS (sim_test (sim_op2 o2_in (sim_oN (Nat.le_of_ble_eq_true rfl)) (sim_oE (sim_frz (sim_fLst (sim_cons (sim_c fun _ => .str _) (sim_cons (sim_c fun _ => .str _) (sim_cons (sim_c fun _ => .str _) (sim_cons (sim_c fun _ => .str _) (sim_cons (sim_c fun _ => .str _) (sim_cons (sim_c fun _ => .str _) (sim_cons (sim_c fun _ => .str _) (sim_cons (sim_c fun _ => .str _) sim_nil))))))))))))) (sim_ret (sim_c fun _ => .bl _)) sim_next)
  (sim_ret (sim_op2 o2_eqH (sim_oE (sim_frz (sim_fLc rfl (sim_iU (sim_var (Nat.le_of_ble_eq_true rfl))) (sim_gName (Nat.le_of_ble_eq_true rfl) (by decide)) (sim_test (sim_op2 o2_notIn (sim_oN (Nat.le_of_ble_eq_true rfl)) (sim_oE (sim_c fun _ => .str _)))) (sim_var (Nat.le_of_ble_eq_true rfl))))) (sim_oE (sim_frz (sim_fLst sim_nil)))))))))⟩
--CUT l_small
theorem w_l_small (T : Txt K mg a) {n : Nat} (I : Ok P w K mg base a n) : FnG P w K mg base (L2.CX P w) (n + 1 + 2) a.f_l_small a.d_l_small ["_law_text"] (SpM (cf K a) 1 (run (n + 1) 31)) := by
  refine fn_ok (k := n + 2) (nl := 1) (ms := m_l_small (run n) (runF n)) T.h_l_small.F sc_l_small rfl fun cdv A outer s H E A0 F0 H0 ex hr hgd => ?_
  have tk : Takes (cxOf (L2.CX P w) P w K mg base ["_law_text", "_law_sign"] "_law_small" (defScope s_l_small) a.f_l_small cdv A outer s H E) (fun cls d _ H => E cls d H) := takes_of rfl rfl rfl rfl
  exact ⟨_, (pss_one (ps_ret (pe_cmpR (Mi.op_eqH rfl (hw_of hr)) (pe_lc (own := [("_law_sign", 1)]) rfl sc_l_small.nd (Mi.pi_u rfl (pv 0)) (blkOk_by (own := [("_law_sign", 1)]) (N := ["_law_text", "_law_sign"]) (sc := defScope s_l_small) (by decide +kernel)) (fun _ _ _ _ _ => (pg_name (i := 1) sc_l_small.nd rfl (Or.inl rfl))) (fun _ _ _ _ _ => (pts_one (pt_not (pt_chain Mi.op_leG Mi.op_leG pe_str (pv 1) pe_str)))) (fun _ _ _ _ _ => (pv 1))) (pe_lst pa_nil) (nomark _)))),
   (sim_ret (sim_op2 o2_eqH (sim_oE (sim_frz (sim_fLc rfl (sim_iU (sim_var (Nat.le_of_ble_eq_true rfl))) (sim_gName (Nat.le_of_ble_eq_true rfl) (by decide)) (sim_not (sim_test (sim_chain o2_le o2_le (sim_c fun _ => .str _) (sim_var (Nat.le_of_ble_eq_true rfl)) (sim_c fun _ => .str _)))) (sim_var (Nat.le_of_ble_eq_true rfl))))) (sim_oE (sim_frz (sim_fLst sim_nil)))))⟩
--CUT l_is_factor
theorem w_l_is_factor (T : Txt K mg a) {n : Nat} (I : Ok P w K mg base a n) : FnG P w K mg base (L2.CX P w) (n + 1 + 2) a.f_l_is_factor a.d_l_is_factor ["_law_text"] (SpM (cf K a) 1 (run (n + 1) 32)) := by
  refine fn_ok (k := n + 2) (nl := 0) (ms := m_l_is_factor (run n) (runF n)) T.h_l_is_factor.F sc_l_is_factor rfl fun cdv A outer s H E A0 F0 H0 ex hr hgd => ?_
  have tk : Takes (cxOf (L2.CX P w) P w K mg base ["_law_text"] "_law_is_factor" (defScope s_l_is_factor) a.f_l_is_factor cdv A outer s H E) (fun cls d _ H => E cls d H) := takes_of rfl rfl rfl rfl
  exact ⟨_, (pss_one (ps_ret (Mi.pe_callSG (E := WE _) I.o_l_is_word hr hgd rfl T.h_l_is_word.g T.h_l_is_word.F.kp T.b_l_is_word (fun σ => passAt tk σ) (pa_cons (pe_ifExp (pt_cmpR (Mi.op_eqH rfl (hw_of hr)) (pe_slice (Mi.sl_G rfl) (pv 0) po_none (po_some pe_int)) pe_str (nomark _)) (pe_slice (Mi.sl_G rfl) (pv 0) (po_some pe_int) po_none) (pv 0)) pa_nil)))),
   (sim_ret (sim_callS (sim_aV (sim_if (sim_test (sim_op2 o2_eqH (sim_oE (sim_sl (sim_oN (Nat.le_of_ble_eq_true rfl)) sim_noPart (sim_part (sim_c fun _ => .int _)))) (sim_oE (sim_c fun _ => .str _)))) (sim_sl (sim_oN (Nat.le_of_ble_eq_true rfl)) (sim_part (sim_c fun _ => .int _)) sim_noPart) (sim_var (Nat.le_of_ble_eq_true rfl))) sim_aNil)))⟩
--CUT l_next
theorem w_l_next (T : Txt K mg a) {n : Nat} (I : Ok P w K mg base a n) : FnG P w K mg base (L2.CX P w) (n + 1 + 2) a.f_l_next a.d_l_next ["_law_text"] (SpM (cf K a) 1 (run (n + 1) 33)) := by
  refine fn_ok (k := n + 2) (nl := 3) (ms := m_l_next (run n) (runF n)) T.h_l_next.F sc_l_next rfl fun cdv A outer s H E A0 F0 H0 ex hr hgd => ?_
  have tk : Takes (cxOf (L2.CX P w) P w K mg base ["_law_text", "_law_word_here", "_law_digits", "_law_sign"] "_law_next" (defScope s_l_next) a.f_l_next cdv A outer s H E) (fun cls d _ H => E cls d H) := takes_of rfl rfl rfl rfl
  exact ⟨_, (pss_cons (ps_set (i := 1) sc_l_next.nd rfl (Or.inl rfl) (pe_ifExp (pt_cmpR (Mi.op_eqH rfl (hw_of hr)) (pe_slice (Mi.sl_G rfl) (pv 0) po_none (po_some pe_int)) pe_str (nomark _)) (pe_slice (Mi.sl_G rfl) (pv 0) (po_some pe_int) po_none) (pv 0)))
  (pss_cons (ps_if (pt_cmpR (Mi.op_eqH rfl (hw_of hr)) (pv 1) pe_str (nomark _)) (pss_one (ps_ret (pe_op (Mi.op_addG rfl) pe_str (pe_ifExp (pt_cmpR (Mi.op_eqH rfl (hw_of hr)) (pv 0) pe_str (nomark _)) pe_str pe_str)))) pss_nil)
  (pss_cons (ps_if (pt_truth (Mi.pe_callSG (E := WE _) I.o_l_small hr hgd rfl T.h_l_small.g T.h_l_small.F.kp T.b_l_small (fun σ => passAt tk σ) (pa_cons (pv 1) pa_nil)) (by intro _; rfl)) (pss_one (ps_ret (pe_op (Mi.op_addG rfl) (pe_ifExp (pt_cmpR Mi.op_ltG (pe_callB (Mi.call_lenG rfl) (by rfl) T.z_len (by decide +kernel) (pa_cons (pv 1) pa_nil)) pe_int (nomark _)) pe_str pe_str) pe_str))) pss_nil)
  (pss_cons (ps_set (i := 2) sc_l_next.nd rfl (Or.inl rfl) (pe_callB (Mi.call_lenG rfl) (by rfl) T.z_len (by decide +kernel) (pa_cons (pe_lc (own := [("_law_sign", 3)]) rfl sc_l_next.nd (Mi.pi_u rfl (pv 1)) (blkOk_by (own := [("_law_sign", 3)]) (N := ["_law_text", "_law_word_here", "_law_digits", "_law_sign"]) (sc := defScope s_l_next) (by decide +kernel)) (fun _ _ _ _ _ => (pg_name (i := 3) sc_l_next.nd rfl (Or.inl rfl))) (fun _ _ _ _ _ => (pts_one (pt_cmpR (Mi.op_inG rfl (hu_of hr)) (pv 3) pe_str rfl))) (fun _ _ _ _ _ => (pv 3))) pa_nil)))
  (pss_one (ps_ret (pe_ifExp (pt_cmpR Mi.op_ltG (pv 2) pe_int (nomark _)) pe_str pe_str))))))),
   (sim_seq (sim_asg (vs := [1]) (sim_if (sim_test (sim_op2 o2_eqH (sim_oE (sim_sl (sim_oN (Nat.le_of_ble_eq_true rfl)) sim_noPart (sim_part (sim_c fun _ => .int _)))) (sim_oE (sim_c fun _ => .str _)))) (sim_sl (sim_oN (Nat.le_of_ble_eq_true rfl)) (sim_part (sim_c fun _ => .int _)) sim_noPart) (sim_var (Nat.le_of_ble_eq_true rfl))) (sim_gName (Nat.le_of_ble_eq_true rfl) (by decide)))
  (sim_seq (sim_ifS (sim_test (sim_op2 o2_eqH (sim_oN (Nat.le_of_ble_eq_true rfl)) (sim_oE (sim_c fun _ => .str _)))) (sim_ret (sim_op2 o2_add (sim_oE (sim_c fun _ => .str _)) (sim_oE (sim_if (sim_test (sim_op2 o2_eqH (sim_oN (Nat.le_of_ble_eq_true rfl)) (sim_oE (sim_c fun _ => .str _)))) (sim_c fun _ => .str _) (sim_c fun _ => .str _))))) sim_next)
  (sim_seq (sim_ifS (sim_tru rfl (sim_oE (sim_callS (sim_aV (sim_var (Nat.le_of_ble_eq_true rfl)) sim_aNil)))) (sim_ret (sim_op2 o2_add (sim_oE (sim_if (sim_test (sim_op2 o2_lt (sim_oE (sim_cb on_len (sim_ocons (sim_oN (Nat.le_of_ble_eq_true rfl)) sim_onil))) (sim_oE (sim_c fun _ => .int _)))) (sim_c fun _ => .str _) (sim_c fun _ => .str _))) (sim_oE (sim_c fun _ => .str _)))) sim_next)
  (sim_seq (sim_asg (vs := [2]) (sim_cb on_len (sim_ocons (sim_oE (sim_frz (sim_fLc rfl (sim_iU (sim_var (Nat.le_of_ble_eq_true rfl))) (sim_gName (Nat.le_of_ble_eq_true rfl) (by decide)) (sim_test (sim_op2 o2_in (sim_oN (Nat.le_of_ble_eq_true rfl)) (sim_oE (sim_c fun _ => .str _)))) (sim_var (Nat.le_of_ble_eq_true rfl))))) sim_onil)) (sim_gName (Nat.le_of_ble_eq_true rfl) (by decide)))
  (sim_ret (sim_if (sim_test (sim_op2 o2_lt (sim_oN (Nat.le_of_ble_eq_true rfl)) (sim_oE (sim_c fun _ => .int _)))) (sim_c fun _ => .str _) (sim_c fun _ => .str _)))))))⟩
--CUT l_can_follow
theorem w_l_can_follow (T : Txt K mg a) {n : Nat} (I : Ok P w K mg base a n) : FnG P w K mg base (L2.CX P w) (n + 1 + 2) a.f_l_can_follow a.d_l_can_follow ["_law_text", "_law_last"] (SpM (cf K a) 2 (run (n + 1) 34)) := by
  refine fn_ok (k := n + 2) (nl := 2) (ms := m_l_can_follow (run n) (runF n)) T.h_l_can_follow.F sc_l_can_follow rfl fun cdv A outer s H E A0 F0 H0 ex hr hgd => ?_
  have tk : Takes (cxOf (L2.CX P w) P w K mg base ["_law_text", "_law_last", "_law_sign", "_law_more_here"] "_law_can_follow" (defScope s_l_can_follow) a.f_l_can_follow cdv A outer s H E) (fun cls d _ H => E cls d H) := takes_of rfl rfl rfl rfl
  exact ⟨_, (pss_cons (ps_if (PW.pt (pw_and (pt_truth (Mi.pe_callSG (E := WE _) I.o_l_is_factor hr hgd rfl T.h_l_is_factor.g T.h_l_is_factor.F.kp T.b_l_is_factor (fun σ => passAt tk σ) (pa_cons (pv 0) pa_nil)) (by intro _; rfl)) (pw_and1 (pt_cmpR Mi.op_gtG (pv 0) (pv 1) (nomark _))))) (pss_one (ps_ret pe_bl)) pss_nil)
  (pss_cons (ps_for (passes_of rfl) rfl (Mi.pi_u rfl (Mi.pe_callSG (E := WE _) I.o_l_next hr hgd rfl T.h_l_next.g T.h_l_next.F.kp T.b_l_next (fun σ => passAt tk σ) (pa_cons (pv 0) pa_nil))) (pg_name (i := 2) sc_l_can_follow.nd rfl (Or.inl rfl)) (pss_cons (ps_set (i := 3) sc_l_can_follow.nd rfl (Or.inl rfl) (pe_op (Mi.op_addG rfl) (pv 0) (pv 2)))
  (pss_cons (ps_if (PW.pt (pw_and (pt_cmpR Mi.op_gtG (pv 3) (pv 1) (nomark _)) (pw_and1 (pt_not (pt_cmpR (Mi.op_eqH rfl (hw_of hr)) (pe_slice (Mi.sl_G rfl) (pv 1) po_none (po_some (pe_callB (Mi.call_lenG rfl) (by rfl) T.z_len (by decide +kernel) (pa_cons (pv 3) pa_nil)))) (pv 3) (nomark _)))))) (pss_one (ps_ret pe_bl)) pss_nil)
  (pss_one (ps_if (PW.pt (pw_and (pt_cmpR (Mi.op_eqH rfl (hw_of hr)) (pe_slice (Mi.sl_G rfl) (pv 1) po_none (po_some (pe_callB (Mi.call_lenG rfl) (by rfl) T.z_len (by decide +kernel) (pa_cons (pv 3) pa_nil)))) (pv 3) (nomark _)) (pw_and1 (pt_truth (Mi.pe_callSG (E := WE _) I.o_l_can_follow hr hgd rfl T.h_l_can_follow.g T.h_l_can_follow.F.kp T.b_l_can_follow (fun σ => passAt tk σ) (pa_cons (pv 3) (pa_cons (pv 1) pa_nil))) (by intro _; rfl))))) (pss_one (ps_ret pe_bl)) pss_nil)))))
  (pss_one (ps_ret pe_bl)))),
   (sim_seq (sim_ifS (sim_and (sim_tru rfl (sim_oE (sim_callS (sim_aV (sim_var (Nat.le_of_ble_eq_true rfl)) sim_aNil)))) (sim_test (sim_op2 o2_gt (sim_oN (Nat.le_of_ble_eq_true rfl)) (sim_oN (Nat.le_of_ble_eq_true rfl))))) (sim_ret (sim_c fun _ => .bl _)) sim_next)
  (sim_seq (sim_for (vs := [2]) (sim_iU (sim_callS (sim_aV (sim_var (Nat.le_of_ble_eq_true rfl)) sim_aNil))) (sim_gName (Nat.le_of_ble_eq_true rfl) (by decide)) (sim_seq (sim_asg (vs := [3]) (sim_op2 o2_add (sim_oN (Nat.le_of_ble_eq_true rfl)) (sim_oN (Nat.le_of_ble_eq_true rfl))) (sim_gName (Nat.le_of_ble_eq_true rfl) (by decide)))
  (sim_seq (sim_ifS (sim_and (sim_test (sim_op2 o2_gt (sim_oN (Nat.le_of_ble_eq_true rfl)) (sim_oN (Nat.le_of_ble_eq_true rfl)))) (sim_not (sim_test (sim_op2 o2_eqH (sim_oE (sim_sl (sim_oN (Nat.le_of_ble_eq_true rfl)) sim_noPart (sim_part (sim_cb on_len (sim_ocons (sim_oN (Nat.le_of_ble_eq_true rfl)) sim_onil))))) (sim_oN (Nat.le_of_ble_eq_true rfl)))))) (sim_ret (sim_c fun _ => .bl _)) sim_next)
  (sim_ifS (sim_and (sim_test (sim_op2 o2_eqH (sim_oE (sim_sl (sim_oN (Nat.le_of_ble_eq_true rfl)) sim_noPart (sim_part (sim_cb on_len (sim_ocons (sim_oN (Nat.le_of_ble_eq_true rfl)) sim_onil))))) (sim_oN (Nat.le_of_ble_eq_true rfl)))) (sim_tru rfl (sim_oE (sim_callS (sim_aV (sim_var (Nat.le_of_ble_eq_true rfl)) (sim_aV (sim_var (Nat.le_of_ble_eq_true rfl)) sim_aNil)))))) (sim_ret (sim_c fun _ => .bl _)) sim_next))))
  (sim_ret (sim_c fun _ => .bl _))))⟩
--CUT l_more
theorem w_l_more (T : Txt K mg a) {n : Nat} (I : Ok P w K mg base a n) : FnG P w K mg base (L2.CX P w) (n + 1 + 2) a.f_l_more a.d_l_more ["_law_text", "_law_begin", "_law_spot", "_law_last"] (SpM (cf K a) 4 (run (n + 1) 35)) := by
  refine fn_ok (k := n + 2) (nl := 0) (ms := m_l_more (run n) (runF n)) T.h_l_more.F sc_l_more rfl fun cdv A outer s H E A0 F0 H0 ex hr hgd => ?_
  have tk : Takes (cxOf (L2.CX P w) P w K mg base ["_law_text", "_law_begin", "_law_spot", "_law_last"] "_law_more" (defScope s_l_more) a.f_l_more cdv A outer s H E) (fun cls d _ H => E cls d H) := takes_of rfl rfl rfl rfl
  exact ⟨_, (pss_cons (ps_if (PW.pt (pw_or (pt_cmpR (Mi.op_eqH rfl (hw_of hr)) (pv 2) (pe_callB (Mi.call_lenG rfl) (by rfl) T.z_len (by decide +kernel) (pa_cons (pv 0) pa_nil)) (nomark _)) (pw_or1 (pt_not (pt_truth (Mi.pe_callSG (E := WE _) I.o_l_goes_on hr hgd rfl T.h_l_goes_on.g T.h_l_goes_on.F.kp T.b_l_goes_on (fun σ => passAt tk σ) (pa_cons (pe_slice (Mi.sl_G rfl) (pv 0) (po_some (pv 1)) (po_some (pv 2))) (pa_cons (pe_ix (Mi.ix_G rfl (hu_of hr)) (pv 0) (pv 2) (fun _ _ => rfl)) pa_nil))) (by intro _; rfl)))))) (pss_one (ps_ret pe_bl)) pss_nil)
  (pss_one (ps_ret (Mi.pe_callSG (E := WE _) I.o_l_can_follow hr hgd rfl T.h_l_can_follow.g T.h_l_can_follow.F.kp T.b_l_can_follow (fun σ => passAt tk σ) (pa_cons (pe_slice (Mi.sl_G rfl) (pv 0) (po_some (pv 1)) (po_some (pe_op (Mi.op_addG rfl) (pv 2) pe_int))) (pa_cons (pv 3) pa_nil)))))),
   (sim_seq (sim_ifS (sim_or (sim_test (sim_op2 o2_eqH (sim_oN (Nat.le_of_ble_eq_true rfl)) (sim_oE (sim_cb on_len (sim_ocons (sim_oN (Nat.le_of_ble_eq_true rfl)) sim_onil))))) (sim_not (sim_tru rfl (sim_oE (sim_callS (sim_aV (sim_sl (sim_oN (Nat.le_of_ble_eq_true rfl)) (sim_part (sim_var (Nat.le_of_ble_eq_true rfl))) (sim_part (sim_var (Nat.le_of_ble_eq_true rfl)))) (sim_aV (sim_op2 o2_ix (sim_oN (Nat.le_of_ble_eq_true rfl)) (sim_oN (Nat.le_of_ble_eq_true rfl))) sim_aNil))))))) (sim_ret (sim_c fun _ => .bl _)) sim_next)
  (sim_ret (sim_callS (sim_aV (sim_sl (sim_oN (Nat.le_of_ble_eq_true rfl)) (sim_part (sim_var (Nat.le_of_ble_eq_true rfl))) (sim_part (sim_op2 o2_add (sim_oN (Nat.le_of_ble_eq_true rfl)) (sim_oE (sim_c fun _ => .int _))))) (sim_aV (sim_var (Nat.le_of_ble_eq_true rfl)) sim_aNil)))))⟩
--CUT l_begun
theorem w_l_begun (T : Txt K mg a) {n : Nat} (I : Ok P w K mg base a n) : FnG P w K mg base (L2.CX P w) (n + 1 + 2) a.f_l_begun a.d_l_begun ["_law_text"] (SpM (cf K a) 1 (run (n + 1) 36)) := by
  refine fn_ok (k := n + 2) (nl := 5) (ms := m_l_begun (run n) (runF n)) T.h_l_begun.F sc_l_begun rfl fun cdv A outer s H E A0 F0 H0 ex hr hgd => ?_
  have tk : Takes (cxOf (L2.CX P w) P w K mg base ["_law_text", "_law_spot", "_law_last", "_law_turn", "_law_begin", "_law_good"] "_law_begun" (defScope s_l_begun) a.f_l_begun cdv A outer s H E) (fun cls d _ H => E cls d H) := takes_of rfl rfl rfl rfl
  exact ⟨_, (pss_cons (ps_asg (Mi.pe_tupF (pa_cons pe_int (pa_cons pe_str pa_nil))) (pg_tup rfl (pgs_cons (pg_name (i := 1) sc_l_begun.nd rfl (Or.inl rfl)) (pgs_cons (pg_name (i := 2) sc_l_begun.nd rfl (Or.inl rfl)) pgs_nil))))
  (pss_cons (ps_for (passes_of rfl) rfl (pi_range1 rfl T.z_range (pa_cons (pe_op (Mi.op_addG rfl) (pe_callB (Mi.call_lenG rfl) (by rfl) T.z_len (by decide +kernel) (pa_cons (pv 0) pa_nil)) pe_int) pa_nil)) (pg_name (i := 3) sc_l_begun.nd rfl (Or.inl rfl)) (pss_cons (ps_set (i := 4) sc_l_begun.nd rfl (Or.inl rfl) (pv 1))
  (pss_cons (ps_while (passes_of rfl) (pt_truth (Mi.pe_callSG (E := WE _) I.o_l_more hr hgd rfl T.h_l_more.g T.h_l_more.F.kp T.b_l_more (fun σ => passAt tk σ) (pa_cons (pv 0) (pa_cons (pv 4) (pa_cons (pv 1) (pa_cons (pv 2) pa_nil))))) (by intro _; rfl)) (pss_one (ps_set (i := 1) sc_l_begun.nd rfl (Or.inl rfl) (pe_op (Mi.op_addG rfl) (pv 1) pe_int))))
  (pss_cons (ps_if (PW.pt (pw_or (pt_not (pt_truth (Mi.pe_callSG (E := WE _) I.o_l_is_factor hr hgd rfl T.h_l_is_factor.g T.h_l_is_factor.F.kp T.b_l_is_factor (fun σ => passAt tk σ) (pa_cons (pe_slice (Mi.sl_G rfl) (pv 0) (po_some (pv 4)) (po_some (pv 1))) pa_nil)) (by intro _; rfl))) (pw_or1 (pt_not (pt_cmpR Mi.op_gtG (pe_slice (Mi.sl_G rfl) (pv 0) (po_some (pv 4)) (po_some (pv 1))) (pv 2) (nomark _)))))) (pss_one (ps_ret (Mi.pe_tupF (pa_cons (pv 1) (pa_cons pe_bl pa_nil))))) pss_nil)
  (pss_cons (ps_set (i := 2) sc_l_begun.nd rfl (Or.inl rfl) (pe_slice (Mi.sl_G rfl) (pv 0) (po_some (pv 4)) (po_some (pv 1))))
  (pss_cons (ps_if (PW.pt (pw_and (pt_cmpR Mi.op_ltG (pv 1) (pe_callB (Mi.call_lenG rfl) (by rfl) T.z_len (by decide +kernel) (pa_cons (pv 0) pa_nil)) (nomark _)) (pw_and1 (pt_cmpR (Mi.op_eqH rfl (hw_of hr)) (pe_ix (Mi.ix_G rfl (hu_of hr)) (pv 0) (pv 1) (fun _ _ => rfl)) pe_str (nomark _))))) (pss_cons (ps_asg (Mi.pe_callSG (E := WE _) I.o_l_power_end hr hgd rfl T.h_l_power_end.g T.h_l_power_end.F.kp T.b_l_power_end (fun σ => passAt tk σ) (pa_cons (pv 0) (pa_cons (pe_op (Mi.op_addG rfl) (pv 1) pe_int) pa_nil))) (pg_tup rfl (pgs_cons (pg_name (i := 1) sc_l_begun.nd rfl (Or.inl rfl)) (pgs_cons (pg_name (i := 5) sc_l_begun.nd rfl (Or.inl rfl)) pgs_nil))))
  (pss_one (ps_if (pt_not (pt_truth (pv 5) (by intro _; rfl))) (pss_one (ps_ret (Mi.pe_tupF (pa_cons (pv 1) (pa_cons pe_bl pa_nil))))) pss_nil))) pss_nil)
  (pss_cons (ps_if (pt_cmpR (Mi.op_eqH rfl (hw_of hr)) (pv 1) (pe_callB (Mi.call_lenG rfl) (by rfl) T.z_len (by decide +kernel) (pa_cons (pv 0) pa_nil)) (nomark _)) (pss_one (ps_ret (Mi.pe_tupF (pa_cons (pv 1) (pa_cons pe_bl pa_nil))))) pss_nil)
  (pss_cons (ps_if (PW.pt (pw_or (pt_cmpR (Mi.op_neH rfl (hw_of hr)) (pe_ix (Mi.ix_G rfl (hu_of hr)) (pv 0) (pv 1) (fun _ _ => rfl)) pe_str (nomark _)) (pw_or1 (pt_not (pt_truth (Mi.pe_callSG (E := WE _) I.o_l_can_follow hr hgd rfl T.h_l_can_follow.g T.h_l_can_follow.F.kp T.b_l_can_follow (fun σ => passAt tk σ) (pa_cons pe_str (pa_cons (pv 2) pa_nil))) (by intro _; rfl)))))) (pss_one (ps_ret (Mi.pe_tupF (pa_cons (pv 1) (pa_cons pe_bl pa_nil))))) pss_nil)
  (pss_one (ps_set (i := 1) sc_l_begun.nd rfl (Or.inl rfl) (pe_op (Mi.op_addG rfl) (pv 1) pe_int)))))))))))
  (pss_one (ps_ret (Mi.pe_tupF (pa_cons (pv 1) (pa_cons pe_bl pa_nil))))))),
   (sim_seq (sim_asg (vs := [1, 2]) (sim_tup (sim_cons (sim_c fun _ => .int _) (sim_cons (sim_c fun _ => .str _) sim_nil))) (sim_gTup (sim_gsCons (sim_gName (Nat.le_of_ble_eq_true rfl) (by decide)) (sim_gsCons (sim_gName (Nat.le_of_ble_eq_true rfl) (by decide)) sim_gsNil))))
  (sim_seq (sim_for (vs := [3]) (sim_range1 (sim_op2 o2_add (sim_oE (sim_cb on_len (sim_ocons (sim_oN (Nat.le_of_ble_eq_true rfl)) sim_onil))) (sim_oE (sim_c fun _ => .int _)))) (sim_gName (Nat.le_of_ble_eq_true rfl) (by decide)) (sim_seq (sim_asg (vs := [4]) (sim_var (Nat.le_of_ble_eq_true rfl)) (sim_gName (Nat.le_of_ble_eq_true rfl) (by decide)))
  (sim_seq (sim_while wf (sim_tru rfl (sim_oE (sim_callS (sim_aV (sim_var (Nat.le_of_ble_eq_true rfl)) (sim_aV (sim_var (Nat.le_of_ble_eq_true rfl)) (sim_aV (sim_var (Nat.le_of_ble_eq_true rfl)) (sim_aV (sim_var (Nat.le_of_ble_eq_true rfl)) sim_aNil))))))) (sim_asg (vs := [1]) (sim_op2 o2_add (sim_oN (Nat.le_of_ble_eq_true rfl)) (sim_oE (sim_c fun _ => .int _))) (sim_gName (Nat.le_of_ble_eq_true rfl) (by decide))))
  (sim_seq (sim_ifS (sim_or (sim_not (sim_tru rfl (sim_oE (sim_callS (sim_aV (sim_sl (sim_oN (Nat.le_of_ble_eq_true rfl)) (sim_part (sim_var (Nat.le_of_ble_eq_true rfl))) (sim_part (sim_var (Nat.le_of_ble_eq_true rfl)))) sim_aNil))))) (sim_not (sim_test (sim_op2 o2_gt (sim_oE (sim_sl (sim_oN (Nat.le_of_ble_eq_true rfl)) (sim_part (sim_var (Nat.le_of_ble_eq_true rfl))) (sim_part (sim_var (Nat.le_of_ble_eq_true rfl))))) (sim_oN (Nat.le_of_ble_eq_true rfl)))))) (sim_ret (sim_tup (sim_cons (sim_var (Nat.le_of_ble_eq_true rfl)) (sim_cons (sim_c fun _ => .bl _) sim_nil)))) sim_next)
  (sim_seq (sim_asg (vs := [2]) (sim_sl (sim_oN (Nat.le_of_ble_eq_true rfl)) (sim_part (sim_var (Nat.le_of_ble_eq_true rfl))) (sim_part (sim_var (Nat.le_of_ble_eq_true rfl)))) (sim_gName (Nat.le_of_ble_eq_true rfl) (by decide)))
  (sim_seq (sim_ifS (sim_and (sim_test (sim_op2 o2_lt (sim_oN (Nat.le_of_ble_eq_true rfl)) (sim_oE (sim_cb on_len (sim_ocons (sim_oN (Nat.le_of_ble_eq_true rfl)) sim_onil))))) (sim_test (sim_op2 o2_eqH (sim_oE (sim_op2 o2_ix (sim_oN (Nat.le_of_ble_eq_true rfl)) (sim_oN (Nat.le_of_ble_eq_true rfl)))) (sim_oE (sim_c fun _ => .str _))))) (sim_seq (sim_asg (vs := [1, 5]) (sim_callS (sim_aV (sim_var (Nat.le_of_ble_eq_true rfl)) (sim_aV (sim_op2 o2_add (sim_oN (Nat.le_of_ble_eq_true rfl)) (sim_oE (sim_c fun _ => .int _))) sim_aNil))) (sim_gTup (sim_gsCons (sim_gName (Nat.le_of_ble_eq_true rfl) (by decide)) (sim_gsCons (sim_gName (Nat.le_of_ble_eq_true rfl) (by decide)) sim_gsNil))))
  (sim_ifS (sim_not (sim_tru rfl (sim_oN (Nat.le_of_ble_eq_true rfl)))) (sim_ret (sim_tup (sim_cons (sim_var (Nat.le_of_ble_eq_true rfl)) (sim_cons (sim_c fun _ => .bl _) sim_nil)))) sim_next)) sim_next)
  (sim_seq (sim_ifS (sim_test (sim_op2 o2_eqH (sim_oN (Nat.le_of_ble_eq_true rfl)) (sim_oE (sim_cb on_len (sim_ocons (sim_oN (Nat.le_of_ble_eq_true rfl)) sim_onil))))) (sim_ret (sim_tup (sim_cons (sim_var (Nat.le_of_ble_eq_true rfl)) (sim_cons (sim_c fun _ => .bl _) sim_nil)))) sim_next)
  (sim_seq (sim_ifS (sim_or (sim_test (sim_op2 o2_neH (sim_oE (sim_op2 o2_ix (sim_oN (Nat.le_of_ble_eq_true rfl)) (sim_oN (Nat.le_of_ble_eq_true rfl)))) (sim_oE (sim_c fun _ => .str _)))) (sim_not (sim_tru rfl (sim_oE (sim_callS (sim_aV (sim_c fun _ => .str _) (sim_aV (sim_var (Nat.le_of_ble_eq_true rfl)) sim_aNil))))))) (sim_ret (sim_tup (sim_cons (sim_var (Nat.le_of_ble_eq_true rfl)) (sim_cons (sim_c fun _ => .bl _) sim_nil)))) sim_next)
  (sim_asg (vs := [1]) (sim_op2 o2_add (sim_oN (Nat.le_of_ble_eq_true rfl)) (sim_oE (sim_c fun _ => .int _))) (sim_gName (Nat.le_of_ble_eq_true rfl) (by decide)))))))))))
  (sim_ret (sim_tup (sim_cons (sim_var (Nat.le_of_ble_eq_true rfl)) (sim_cons (sim_c fun _ => .bl _) sim_nil))))))⟩
--CUT l_goes_on
theorem w_l_goes_on (T : Txt K mg a) {n : Nat} (I : Ok P w K mg base a n) : FnG P w K mg base (L2.CX P w) (n + 1 + 2) a.f_l_goes_on a.d_l_goes_on ["_law_text", "_law_sign"] (SpM (cf K a) 2 (run (n + 1) 37)) := by
  refine fn_ok (k := n + 2) (nl := 0) (ms := m_l_goes_on (run n) (runF n)) T.h_l_goes_on.F sc_l_goes_on rfl fun cdv A outer s H E A0 F0 H0 ex hr hgd => ?_
  have tk : Takes (cxOf (L2.CX P w) P w K mg base ["_law_text", "_law_sign"] "_law_goes_on" (defScope s_l_goes_on) a.f_l_goes_on cdv A outer s H E) (fun cls d _ H => E cls d H) := takes_of rfl rfl rfl rfl
  exact ⟨_, (pss_one (ps_ret (pe_cmpR (Mi.op_inG rfl (hu_of hr)) (pv 1) (Mi.pe_callSG (E := WE _) I.o_l_next hr hgd rfl T.h_l_next.g T.h_l_next.F.kp T.b_l_next (fun σ => passAt tk σ) (pa_cons (pv 0) pa_nil)) rfl))),
   (sim_ret (sim_op2 o2_in (sim_oN (Nat.le_of_ble_eq_true rfl)) (sim_oE (sim_callS (sim_aV (sim_var (Nat.le_of_ble_eq_true rfl)) sim_aNil)))))⟩
--CUT l_power_end
theorem w_l_power_end (T : Txt K mg a) {n : Nat} (I : Ok P w K mg base a n) : FnG P w K mg base (L2.CX P w) (n + 1 + 2) a.f_l_power_end a.d_l_power_end ["_law_text", "_law_spot"] (SpM (cf K a) 2 (run (n + 1) 38)) := by
  refine fn_ok (k := n + 2) (nl := 1) (ms := m_l_power_end (run n) (runF n)) T.h_l_power_end.F sc_l_power_end rfl fun cdv A outer s H E A0 F0 H0 ex hr hgd => ?_
  have tk : Takes (cxOf (L2.CX P w) P w K mg base ["_law_text", "_law_spot", "_law_begin"] "_law_power_end" (defScope s_l_power_end) a.f_l_power_end cdv A outer s H E) (fun cls d _ H => E cls d H) := takes_of rfl rfl rfl rfl
  exact ⟨_, (pss_cons (ps_set (i := 2) sc_l_power_end.nd rfl (Or.inl rfl) (pv 1))
  (pss_cons (ps_if (pt_cmpR (Mi.op_eqH rfl (hw_of hr)) (pe_slice (Mi.sl_G rfl) (pv 0) (po_some (pv 1)) (po_some (pe_op (Mi.op_addG rfl) (pv 1) pe_int))) pe_str (nomark _)) (pss_one (ps_set (i := 1) sc_l_power_end.nd rfl (Or.inl rfl) (pe_op (Mi.op_addG rfl) (pv 1) pe_int))) pss_nil)
  (pss_cons (ps_if (PW.pt (pw_or (pt_cmpR (Mi.op_eqH rfl (hw_of hr)) (pv 1) (pe_callB (Mi.call_lenG rfl) (by rfl) T.z_len (by decide +kernel) (pa_cons (pv 0) pa_nil)) (nomark _)) (pw_or1 (pt_cmpR (Mi.op_notInG rfl (hu_of hr)) (pe_ix (Mi.ix_G rfl (hu_of hr)) (pv 0) (pv 1) (fun _ _ => rfl)) pe_str rfl)))) (pss_one (ps_ret (Mi.pe_tupF (pa_cons (pv 1) (pa_cons pe_bl pa_nil))))) pss_nil)
  (pss_cons (ps_while (passes_of rfl) (PW.pt (pw_and (pt_cmpR Mi.op_ltG (pv 1) (pe_callB (Mi.call_lenG rfl) (by rfl) T.z_len (by decide +kernel) (pa_cons (pv 0) pa_nil)) (nomark _)) (pw_and1 (pt_cmpR (Mi.op_inG rfl (hu_of hr)) (pe_ix (Mi.ix_G rfl (hu_of hr)) (pv 0) (pv 1) (fun _ _ => rfl)) pe_str rfl)))) (pss_one (ps_set (i := 1) sc_l_power_end.nd rfl (Or.inl rfl) (pe_op (Mi.op_addG rfl) (pv 1) pe_int))))
  (pss_one (ps_ret (Mi.pe_tupF (pa_cons (pv 1) (pa_cons (pe_cmpR (Mi.op_neH rfl (hw_of hr)) (pe_slice (Mi.sl_G rfl) (pv 0) (po_some (pv 2)) (po_some (pv 1))) pe_str (nomark _)) pa_nil))))))))),
   (sim_seq (sim_asg (vs := [2]) (sim_var (Nat.le_of_ble_eq_true rfl)) (sim_gName (Nat.le_of_ble_eq_true rfl) (by decide)))
  (sim_seq (sim_ifS (sim_test (sim_op2 o2_eqH (sim_oE (sim_sl (sim_oN (Nat.le_of_ble_eq_true rfl)) (sim_part (sim_var (Nat.le_of_ble_eq_true rfl))) (sim_part (sim_op2 o2_add (sim_oN (Nat.le_of_ble_eq_true rfl)) (sim_oE (sim_c fun _ => .int _)))))) (sim_oE (sim_c fun _ => .str _)))) (sim_asg (vs := [1]) (sim_op2 o2_add (sim_oN (Nat.le_of_ble_eq_true rfl)) (sim_oE (sim_c fun _ => .int _))) (sim_gName (Nat.le_of_ble_eq_true rfl) (by decide))) sim_next)
  (sim_seq (sim_ifS (sim_or (sim_test (sim_op2 o2_eqH (sim_oN (Nat.le_of_ble_eq_true rfl)) (sim_oE (sim_cb on_len (sim_ocons (sim_oN (Nat.le_of_ble_eq_true rfl)) sim_onil))))) (sim_test (sim_op2 o2_notIn (sim_oE (sim_op2 o2_ix (sim_oN (Nat.le_of_ble_eq_true rfl)) (sim_oN (Nat.le_of_ble_eq_true rfl)))) (sim_oE (sim_c fun _ => .str _))))) (sim_ret (sim_tup (sim_cons (sim_var (Nat.le_of_ble_eq_true rfl)) (sim_cons (sim_c fun _ => .bl _) sim_nil)))) sim_next)
  (sim_seq (sim_while wf (sim_and (sim_test (sim_op2 o2_lt (sim_oN (Nat.le_of_ble_eq_true rfl)) (sim_oE (sim_cb on_len (sim_ocons (sim_oN (Nat.le_of_ble_eq_true rfl)) sim_onil))))) (sim_test (sim_op2 o2_in (sim_oE (sim_op2 o2_ix (sim_oN (Nat.le_of_ble_eq_true rfl)) (sim_oN (Nat.le_of_ble_eq_true rfl)))) (sim_oE (sim_c fun _ => .str _))))) (sim_asg (vs := [1]) (sim_op2 o2_add (sim_oN (Nat.le_of_ble_eq_true rfl)) (sim_oE (sim_c fun _ => .int _))) (sim_gName (Nat.le_of_ble_eq_true rfl) (by decide))))
  (sim_ret (sim_tup (sim_cons (sim_var (Nat.le_of_ble_eq_true rfl)) (sim_cons (sim_op2 o2_neH (sim_oE (sim_sl (sim_oN (Nat.le_of_ble_eq_true rfl)) (sim_part (sim_var (Nat.le_of_ble_eq_true rfl))) (sim_part (sim_var (Nat.le_of_ble_eq_true rfl))))) (sim_oE (sim_c fun _ => .str _))) sim_nil))))))))⟩
--CUT l_told
theorem w_l_told (T : Txt K mg a) {n : Nat} (I : Ok P w K mg base a n) : FnG P w K mg base (L2.CX P w) (n + 1 + 2) a.f_l_told a.d_l_told ["_law_text"] (SpM (cf K a) 1 (run (n + 1) 39)) := by
  refine fn_ok (k := n + 2) (nl := 1) (ms := m_l_told (run n) (runF n)) T.h_l_told.F sc_l_told rfl fun cdv A outer s H E A0 F0 H0 ex hr hgd => ?_
  have tk : Takes (cxOf (L2.CX P w) P w K mg base ["_law_text", "e"] "_law_told" (defScope s_l_told) a.f_l_told cdv A outer s H E) (fun cls d _ H => E cls d H) := takes_of rfl rfl rfl rfl
  exact ⟨_, (pss_one (ps_try_as (i := 1) rfl rfl sc_l_told.nd rfl rfl ⟨rfl, by decide, .inl T.e_BadText.g⟩ tk (fun W pn xe tk1 _ => (pss_one (ps_ret (pe_lst (pa_cons pe_str (pa_cons (Mi.pe_callSG (E := WE _) I.o_read_measure hr hgd rfl T.h_read_measure.g T.h_read_measure.F.kp T.b_read_measure (fun σ => passAt tk1 σ) (pa_cons (pv 0) pa_nil)) pa_nil)))))) (fun a oe cls d pn hz hfl => (pss_one (ps_ret (pe_lst (pa_cons pe_str (pa_cons (pe_xf T.e_BadText.xf T.n_BadText_at hz hfl (pv 1) rfl) pa_nil)))))))),
   (sim_try (Nat.le_of_ble_eq_true rfl) rfl (x_BadText T) (by decide) (fun W' => (sim_ret (sim_frz (sim_fLst (sim_cons (sim_c fun _ => .str _) (sim_cons (sim_callS (sim_aV (sim_var (Nat.le_of_ble_eq_true rfl)) sim_aNil)) sim_nil)))))) (fun x a cls d F0 hxc hx => (sim_ret (sim_frz (sim_fLst (sim_cons (sim_c fun _ => .str _) (sim_cons (sim_xf (Nat.le_of_ble_eq_true rfl) rfl hx (by rw [hxc]; rfl) (by rw [hxc]; rfl)) sim_nil)))))))⟩
--CUT l_spoiled
theorem w_l_spoiled (T : Txt K mg a) {n : Nat} (I : Ok P w K mg base a n) : FnG P w K mg base (L2.CX P w) (n + 1 + 2) a.f_l_spoiled a.d_l_spoiled ["_law_box_here", "_law_text"] (SpM (cf K a) 2 (run (n + 1) 40)) := by
  refine fn_ok (k := n + 2) (nl := 5) (ms := m_l_spoiled (run n) (runF n)) T.h_l_spoiled.F sc_l_spoiled rfl fun cdv A outer s H E A0 F0 H0 ex hr hgd => ?_
  have tk : Takes (cxOf (L2.CX P w) P w K mg base ["_law_box_here", "_law_text", "_law_k", "_law_odd", "_law_way", "_law_words", "_law_j"] "_law_spoiled" (defScope s_l_spoiled) a.f_l_spoiled cdv A outer s H E) (fun cls d _ H => E cls d H) := takes_of rfl rfl rfl rfl
  exact ⟨_, (pss_cons (ps_set (i := 2) sc_l_spoiled.nd rfl (Or.inl rfl) (Mi.pe_callSG (E := WE _) I.o_l_take hr hgd rfl T.h_l_take.g T.h_l_take.F.kp T.b_l_take (fun σ => passAt tk σ) (pa_cons (pv 0) (pa_cons (pe_op (Mi.op_addG rfl) (pe_callB (Mi.call_lenG rfl) (by rfl) T.z_len (by decide +kernel) (pa_cons (pv 1) pa_nil)) pe_int) pa_nil))))
  (pss_cons (ps_set (i := 3) sc_l_spoiled.nd rfl (Or.inl rfl) (pe_ix (Mi.ix_G rfl (hu_of hr)) (pe_lst (pa_cons pe_str (pa_cons pe_str (pa_cons pe_str (pa_cons pe_str (pa_cons pe_str (pa_cons pe_str (pa_cons pe_str (pa_cons pe_str (pa_cons pe_str (pa_cons pe_str (pa_cons pe_str (pa_cons pe_str (pa_cons pe_str (pa_cons pe_str (pa_cons pe_str (pa_cons pe_str pa_nil))))))))))))))))) (Mi.pe_callSG (E := WE _) I.o_l_take hr hgd rfl T.h_l_take.g T.h_l_take.F.kp T.b_l_take (fun σ => passAt tk σ) (pa_cons (pv 0) (pa_cons pe_int pa_nil))) (fun _ _ => rfl)))
  (pss_cons (ps_par (i := 4) (j := 5) (by rfl) sc_l_spoiled.nd rfl rfl (by decide) rfl rfl (pa_cons (Mi.pe_callSG (E := WE _) I.o_l_take hr hgd rfl T.h_l_take.g T.h_l_take.F.kp T.b_l_take (fun σ => passAt tk σ) (pa_cons (pv 0) (pa_cons pe_int pa_nil))) (pa_cons (pe_m1 PySem.F.slot_str_split PySem.F.type_str_split Mi.mt_splitG (pv 1) pe_str) pa_nil)) (by rfl))
  (pss_cons (ps_if (pt_cmpR (Mi.op_eqH rfl (hw_of hr)) (pv 4) pe_int (nomark _)) (pss_one (ps_ret (pe_slice (Mi.sl_G rfl) (pv 1) po_none (po_some (pv 2))))) pss_nil)
  (pss_cons (ps_if (pt_cmpR (Mi.op_eqH rfl (hw_of hr)) (pv 4) pe_int (nomark _)) (pss_one (ps_ret (pe_op (Mi.op_addG rfl) (pe_op (Mi.op_addG rfl) (pe_slice (Mi.sl_G rfl) (pv 1) po_none (po_some (pv 2))) (pv 3)) (pe_slice (Mi.sl_G rfl) (pv 1) (po_some (pv 2)) po_none)))) pss_nil)
  (pss_cons (ps_if (pt_cmpR (Mi.op_eqH rfl (hw_of hr)) (pv 4) pe_int (nomark _)) (pss_cons (ps_set (i := 6) sc_l_spoiled.nd rfl (Or.inl rfl) (Mi.pe_callSG (E := WE _) I.o_l_take hr hgd rfl T.h_l_take.g T.h_l_take.F.kp T.b_l_take (fun σ => passAt tk σ) (pa_cons (pv 0) (pa_cons (pe_callB (Mi.call_lenG rfl) (by rfl) T.z_len (by decide +kernel) (pa_cons (pv 5) pa_nil)) pa_nil))))
  (pss_one (ps_ret (pe_m1 PySem.F.slot_str_join PySem.F.type_str_join (Mi.mt_joinG rfl) pe_str (pe_op (Mi.op_addG rfl) (pe_slice (Mi.sl_G rfl) (pv 5) po_none (po_some (pe_op (Mi.op_addG rfl) (pv 6) pe_int))) (pe_slice (Mi.sl_G rfl) (pv 5) (po_some (pv 6)) po_none)))))) pss_nil)
  (pss_cons (ps_if (pt_cmpR (Mi.op_eqH rfl (hw_of hr)) (pv 4) pe_int (nomark _)) (pss_one (ps_ret (pe_m1 PySem.F.slot_str_join PySem.F.type_str_join (Mi.mt_joinG rfl) pe_str (Mi.pe_revG rfl (pv 5))))) pss_nil)
  (pss_one (ps_ret (pe_op (Mi.op_addG rfl) (pe_op (Mi.op_addG rfl) (pe_slice (Mi.sl_G rfl) (pv 1) po_none (po_some (pv 2))) (pv 3)) (pe_slice (Mi.sl_G rfl) (pv 1) (po_some (pe_op (Mi.op_addG rfl) (pe_op (Mi.op_addG rfl) (pv 2) pe_int) (pe_op Mi.op_modG (pv 4) pe_int))) po_none))))))))))),
   (sim_seq (sim_asg (vs := [2]) (sim_callS (sim_aS (Nat.le_of_ble_eq_true rfl) (sim_aV (sim_op2 o2_add (sim_oE (sim_cb on_len (sim_ocons (sim_oN (Nat.le_of_ble_eq_true rfl)) sim_onil))) (sim_oE (sim_c fun _ => .int _))) sim_aNil))) (sim_gName (Nat.le_of_ble_eq_true rfl) (by decide)))
  (sim_seq (sim_asg (vs := [3]) (sim_op2 o2_ix (sim_oE (sim_frz (sim_fLst (sim_cons (sim_c fun _ => .str _) (sim_cons (sim_c fun _ => .str _) (sim_cons (sim_c fun _ => .str _) (sim_cons (sim_c fun _ => .str _) (sim_cons (sim_c fun _ => .str _) (sim_cons (sim_c fun _ => .str _) (sim_cons (sim_c fun _ => .str _) (sim_cons (sim_c fun _ => .str _) (sim_cons (sim_c fun _ => .str _) (sim_cons (sim_c fun _ => .str _) (sim_cons (sim_c fun _ => .str _) (sim_cons (sim_c fun _ => .str _) (sim_cons (sim_c fun _ => .str _) (sim_cons (sim_c fun _ => .str _) (sim_cons (sim_c fun _ => .str _) (sim_cons (sim_c fun _ => .str _) sim_nil))))))))))))))))))) (sim_oE (sim_callS (sim_aS (Nat.le_of_ble_eq_true rfl) (sim_aV (sim_c fun _ => .int _) sim_aNil))))) (sim_gName (Nat.le_of_ble_eq_true rfl) (by decide)))
  (sim_seq (sim_par (Nat.le_of_ble_eq_true rfl) (Nat.le_of_ble_eq_true rfl) (sim_aV (sim_callS (sim_aS (Nat.le_of_ble_eq_true rfl) (sim_aV (sim_c fun _ => .int _) sim_aNil))) (sim_aV (sim_m1 om_split (sim_var (Nat.le_of_ble_eq_true rfl)) (sim_oE (sim_c fun _ => .str _))) sim_aNil)))
  (sim_seq (sim_ifS (sim_test (sim_op2 o2_eqH (sim_oN (Nat.le_of_ble_eq_true rfl)) (sim_oE (sim_c fun _ => .int _)))) (sim_ret (sim_sl (sim_oN (Nat.le_of_ble_eq_true rfl)) sim_noPart (sim_part (sim_var (Nat.le_of_ble_eq_true rfl))))) sim_next)
  (sim_seq (sim_ifS (sim_test (sim_op2 o2_eqH (sim_oN (Nat.le_of_ble_eq_true rfl)) (sim_oE (sim_c fun _ => .int _)))) (sim_ret (sim_op2 o2_add (sim_oE (sim_op2 o2_add (sim_oE (sim_sl (sim_oN (Nat.le_of_ble_eq_true rfl)) sim_noPart (sim_part (sim_var (Nat.le_of_ble_eq_true rfl))))) (sim_oN (Nat.le_of_ble_eq_true rfl)))) (sim_oE (sim_sl (sim_oN (Nat.le_of_ble_eq_true rfl)) (sim_part (sim_var (Nat.le_of_ble_eq_true rfl))) sim_noPart)))) sim_next)
  (sim_seq (sim_ifS (sim_test (sim_op2 o2_eqH (sim_oN (Nat.le_of_ble_eq_true rfl)) (sim_oE (sim_c fun _ => .int _)))) (sim_seq (sim_asg (vs := [6]) (sim_callS (sim_aS (Nat.le_of_ble_eq_true rfl) (sim_aV (sim_cb on_len (sim_ocons (sim_oN (Nat.le_of_ble_eq_true rfl)) sim_onil)) sim_aNil))) (sim_gName (Nat.le_of_ble_eq_true rfl) (by decide)))
  (sim_ret (sim_m1 om_join (sim_c fun _ => .str _) (sim_oE (sim_op2 o2_add (sim_oE (sim_sl (sim_oN (Nat.le_of_ble_eq_true rfl)) sim_noPart (sim_part (sim_op2 o2_add (sim_oN (Nat.le_of_ble_eq_true rfl)) (sim_oE (sim_c fun _ => .int _)))))) (sim_oE (sim_sl (sim_oN (Nat.le_of_ble_eq_true rfl)) (sim_part (sim_var (Nat.le_of_ble_eq_true rfl))) sim_noPart))))))) sim_next)
  (sim_seq (sim_ifS (sim_test (sim_op2 o2_eqH (sim_oN (Nat.le_of_ble_eq_true rfl)) (sim_oE (sim_c fun _ => .int _)))) (sim_ret (sim_m1 om_join (sim_c fun _ => .str _) (sim_oE (sim_frz (sim_fRev (sim_oN (Nat.le_of_ble_eq_true rfl))))))) sim_next)
  (sim_ret (sim_op2 o2_add (sim_oE (sim_op2 o2_add (sim_oE (sim_sl (sim_oN (Nat.le_of_ble_eq_true rfl)) sim_noPart (sim_part (sim_var (Nat.le_of_ble_eq_true rfl))))) (sim_oN (Nat.le_of_ble_eq_true rfl)))) (sim_oE (sim_sl (sim_oN (Nat.le_of_ble_eq_true rfl)) (sim_part (sim_op2 o2_add (sim_oE (sim_op2 o2_add (sim_oN (Nat.le_of_ble_eq_true rfl)) (sim_oE (sim_c fun _ => .int _)))) (sim_oE (sim_op2 o2_mod (sim_oN (Nat.le_of_ble_eq_true rfl)) (sim_oE (sim_c fun _ => .int _)))))) sim_noPart)))))))))))⟩
--CUT l_texts_right
theorem w_l_texts_right (T : Txt K mg a) {n : Nat} (I : Ok P w K mg base a n) : FnG P w K mg base (L2.CX P w) (n + 1 + 2) a.f_l_texts_right a.d_l_texts_right ["_law_box_here", "_law_measure_here"] (SpM (cf K a) 2 (run (n + 1) 41)) := by
  refine fn_ok (k := n + 2) (nl := 5) (ms := m_l_texts_right (run n) (runF n)) T.h_l_texts_right.F sc_l_texts_right rfl fun cdv A outer s H E A0 F0 H0 ex hr hgd => ?_
  have tk : Takes (cxOf (L2.CX P w) P w K mg base ["_law_box_here", "_law_measure_here", "_law_text", "_law_turn", "_law_heard", "_law_spot", "_law_good"] "_law_texts_right" (defScope s_l_texts_right) a.f_l_texts_right cdv A outer s H E) (fun cls d _ H => E cls d H) := takes_of rfl rfl rfl rfl
  exact ⟨_, (pss_cons (ps_set (i := 2) sc_l_texts_right.nd rfl (Or.inl rfl) (Mi.pe_callSG (E := WE _) I.o_l_shown hr hgd rfl T.h_l_shown.g T.h_l_shown.F.kp T.b_l_shown (fun σ => passAt tk σ) (pa_cons (pv 1) pa_nil)))
  (pss_cons (ps_if (PW.pt (pw_or (pt_cmpR (Mi.op_neH rfl (hw_of hr)) (Mi.pe_callSG (E := WE _) I.o_measure_text hr hgd rfl T.h_measure_text.g T.h_measure_text.F.kp T.b_measure_text (fun σ => passAt tk σ) (pa_cons (pv 1) pa_nil)) (pv 2) (nomark _)) (pw_or1 (pt_cmpR (Mi.op_neH rfl (hw_of hr)) (Mi.pe_callSG (E := WE _) I.o_l_told hr hgd rfl T.h_l_told.g T.h_l_told.F.kp T.b_l_told (fun σ => passAt tk σ) (pa_cons (pv 2) pa_nil)) (pe_lst (pa_cons pe_str (pa_cons (pv 1) pa_nil))) (nomark _))))) (pss_one (ps_ret pe_bl)) pss_nil)
  (pss_cons (ps_for (passes_of rfl) rfl (pi_range1 rfl T.z_range (pa_cons pe_int pa_nil)) (pg_name (i := 3) sc_l_texts_right.nd rfl (Or.inl rfl)) (pss_cons (ps_set (i := 2) sc_l_texts_right.nd rfl (Or.inl rfl) (Mi.pe_callSG (E := WE _) I.o_l_spoiled hr hgd rfl T.h_l_spoiled.g T.h_l_spoiled.F.kp T.b_l_spoiled (fun σ => passAt tk σ) (pa_cons (pv 0) (pa_cons (pv 2) pa_nil))))
  (pss_cons (ps_set (i := 4) sc_l_texts_right.nd rfl (Or.inl rfl) (Mi.pe_callSG (E := WE _) I.o_l_told hr hgd rfl T.h_l_told.g T.h_l_told.F.kp T.b_l_told (fun σ => passAt tk σ) (pa_cons (pv 2) pa_nil)))
  (pss_one (ps_if (pt_cmpR (Mi.op_eqH rfl (hw_of hr)) (pv 2) pe_str (nomark _)) (pss_one (ps_if (pt_cmpR (Mi.op_neH rfl (hw_of hr)) (pv 4) (pe_lst (pa_cons pe_str (pa_cons (Mi.pe_tupF pa_nil) pa_nil))) (nomark _)) (pss_one (ps_ret pe_bl)) pss_nil)) (pss_cons (ps_asg (Mi.pe_callSG (E := WE _) I.o_l_begun hr hgd rfl T.h_l_begun.g T.h_l_begun.F.kp T.b_l_begun (fun σ => passAt tk σ) (pa_cons (pv 2) pa_nil)) (pg_tup rfl (pgs_cons (pg_name (i := 5) sc_l_texts_right.nd rfl (Or.inl rfl)) (pgs_cons (pg_name (i := 6) sc_l_texts_right.nd rfl (Or.inl rfl)) pgs_nil))))
  (pss_one (ps_if (PW.pt (pw_or (PW.pt (pw_and (pt_truth (pv 6) (by intro _; rfl)) (pw_and1 (PW.pt (pw_or (pt_cmpR (Mi.op_neH rfl (hw_of hr)) (pe_ix (Mi.ix_G rfl (hu_of hr)) (pv 4) pe_int (fun _ _ => rfl)) pe_str (nomark _)) (pw_or1 (pt_cmpR (Mi.op_neH rfl (hw_of hr)) (Mi.pe_callSG (E := WE _) I.o_l_shown hr hgd rfl T.h_l_shown.g T.h_l_shown.F.kp T.b_l_shown (fun σ => passAt tk σ) (pa_cons (pe_ix (Mi.ix_G rfl (hu_of hr)) (pv 4) pe_int (fun _ _ => rfl)) pa_nil)) (pv 2) (nomark _)))))))) (pw_or1 (PW.pt (pw_and (pt_not (pt_truth (pv 6) (by intro _; rfl))) (pw_and1 (pt_cmpR (Mi.op_neH rfl (hw_of hr)) (pv 4) (pe_lst (pa_cons pe_str (pa_cons (pv 5) pa_nil))) (nomark _)))))))) (pss_one (ps_ret pe_bl)) pss_nil))))))))
  (pss_one (ps_ret pe_bl))))),
   (sim_seq (sim_asg (vs := [2]) (sim_callS (sim_aV (sim_var (Nat.le_of_ble_eq_true rfl)) sim_aNil)) (sim_gName (Nat.le_of_ble_eq_true rfl) (by decide)))
  (sim_seq (sim_ifS (sim_or (sim_test (sim_op2 o2_neH (sim_oE (sim_callS (sim_aV (sim_var (Nat.le_of_ble_eq_true rfl)) sim_aNil))) (sim_oN (Nat.le_of_ble_eq_true rfl)))) (sim_test (sim_op2 o2_neH (sim_oE (sim_callS (sim_aV (sim_var (Nat.le_of_ble_eq_true rfl)) sim_aNil))) (sim_oE (sim_frz (sim_fLst (sim_cons (sim_c fun _ => .str _) (sim_cons (sim_var (Nat.le_of_ble_eq_true rfl)) sim_nil)))))))) (sim_ret (sim_c fun _ => .bl _)) sim_next)
  (sim_seq (sim_for (vs := [3]) (sim_range1 (sim_c fun _ => .int _)) (sim_gName (Nat.le_of_ble_eq_true rfl) (by decide)) (sim_seq (sim_asg (vs := [2]) (sim_callS (sim_aS (Nat.le_of_ble_eq_true rfl) (sim_aV (sim_var (Nat.le_of_ble_eq_true rfl)) sim_aNil))) (sim_gName (Nat.le_of_ble_eq_true rfl) (by decide)))
  (sim_seq (sim_asg (vs := [4]) (sim_callS (sim_aV (sim_var (Nat.le_of_ble_eq_true rfl)) sim_aNil)) (sim_gName (Nat.le_of_ble_eq_true rfl) (by decide)))
  (sim_ifS (sim_test (sim_op2 o2_eqH (sim_oN (Nat.le_of_ble_eq_true rfl)) (sim_oE (sim_c fun _ => .str _)))) (sim_ifS (sim_test (sim_op2 o2_neH (sim_oN (Nat.le_of_ble_eq_true rfl)) (sim_oE (sim_frz (sim_fLst (sim_cons (sim_c fun _ => .str _) (sim_cons (sim_tup sim_nil) sim_nil))))))) (sim_ret (sim_c fun _ => .bl _)) sim_next) (sim_seq (sim_asg (vs := [5, 6]) (sim_callS (sim_aV (sim_var (Nat.le_of_ble_eq_true rfl)) sim_aNil)) (sim_gTup (sim_gsCons (sim_gName (Nat.le_of_ble_eq_true rfl) (by decide)) (sim_gsCons (sim_gName (Nat.le_of_ble_eq_true rfl) (by decide)) sim_gsNil))))
  (sim_ifS (sim_or (sim_and (sim_tru rfl (sim_oN (Nat.le_of_ble_eq_true rfl))) (sim_or (sim_test (sim_op2 o2_neH (sim_oE (sim_op2 o2_ix (sim_oN (Nat.le_of_ble_eq_true rfl)) (sim_oE (sim_c fun _ => .int _)))) (sim_oE (sim_c fun _ => .str _)))) (sim_test (sim_op2 o2_neH (sim_oE (sim_callS (sim_aV (sim_op2 o2_ix (sim_oN (Nat.le_of_ble_eq_true rfl)) (sim_oE (sim_c fun _ => .int _))) sim_aNil))) (sim_oN (Nat.le_of_ble_eq_true rfl)))))) (sim_and (sim_not (sim_tru rfl (sim_oN (Nat.le_of_ble_eq_true rfl)))) (sim_test (sim_op2 o2_neH (sim_oN (Nat.le_of_ble_eq_true rfl)) (sim_oE (sim_frz (sim_fLst (sim_cons (sim_c fun _ => .str _) (sim_cons (sim_var (Nat.le_of_ble_eq_true rfl)) sim_nil))))))))) (sim_ret (sim_c fun _ => .bl _)) sim_next))))))
  (sim_ret (sim_c fun _ => .bl _)))))⟩
--CUT l_odd_right
theorem w_l_odd_right (T : Txt K mg a) {n : Nat} (I : Ok P w K mg base a n) : FnG P w K mg base (L2.CX P w) (n + 1 + 2) a.f_l_odd_right a.d_l_odd_right ["_law_box_here", "_law_measure_here"] (SpM (cf K a) 2 (run (n + 1) 42)) := by
  refine fn_ok (k := n + 2) (nl := 2) (ms := m_l_odd_right (run n) (runF n)) T.h_l_odd_right.F sc_l_odd_right rfl fun cdv A outer s H E A0 F0 H0 ex hr hgd => ?_
  have tk : Takes (cxOf (L2.CX P w) P w K mg base ["_law_box_here", "_law_measure_here", "_law_some", "_law_odd"] "_law_odd_right" (defScope s_l_odd_right) a.f_l_odd_right cdv A outer s H E) (fun cls d _ H => E cls d H) := takes_of rfl rfl rfl rfl
  exact ⟨_, (pss_cons (ps_set (i := 2) sc_l_odd_right.nd rfl (Or.inl rfl) (pe_lst (pa_cons pe_non (pa_cons pe_int (pa_cons pe_str (pa_cons (pe_lst (pa_cons (Mi.pe_tupF (pa_cons pe_str (pa_cons pe_int pa_nil))) pa_nil)) (pa_cons (Mi.pe_tupF (pa_cons (Mi.pe_tupF (pa_cons pe_str (pa_cons pe_int pa_nil))) pa_nil)) (pa_cons (Mi.pe_tupF (pa_cons (Mi.pe_tupF (pa_cons pe_str (pa_cons pe_bl pa_nil))) pa_nil)) (pa_cons (Mi.pe_tupF (pa_cons (Mi.pe_tupF (pa_cons pe_str (pa_cons pe_int pa_nil))) (pa_cons (Mi.pe_tupF (pa_cons pe_str (pa_cons pe_int pa_nil))) pa_nil))) (pa_cons (Mi.pe_tupF (pa_cons (Mi.pe_tupF (pa_cons pe_str (pa_cons pe_int pa_nil))) (pa_cons (Mi.pe_tupF (pa_cons pe_str (pa_cons pe_int pa_nil))) pa_nil))) pa_nil))))))))))
  (pss_cons (ps_set (i := 2) sc_l_odd_right.nd rfl (Or.inl rfl) (pe_op (Mi.op_addG rfl) (pv 2) (pe_lst (pa_cons (Mi.pe_tupF (pa_cons (Mi.pe_tupF (pa_cons pe_str (pa_cons pe_int pa_nil))) pa_nil)) pa_nil))))
  (pss_cons (ps_set (i := 2) sc_l_odd_right.nd rfl (Or.inl rfl) (pe_op (Mi.op_addG rfl) (pv 2) (pe_lst (pa_cons (Mi.pe_tupF (pa_cons (Mi.pe_tupF (pa_cons pe_str (pa_cons pe_int (pa_cons pe_int pa_nil)))) pa_nil)) (pa_cons (Mi.pe_tupF (pa_cons (pe_lst (pa_cons pe_str (pa_cons pe_int pa_nil))) pa_nil)) (pa_cons (Mi.pe_tupF (pa_cons pe_str (pa_cons pe_int pa_nil))) (pa_cons (Mi.pe_tupF (pa_cons (Mi.pe_tupF (pa_cons pe_int (pa_cons pe_str pa_nil))) pa_nil)) (pa_cons (Mi.pe_tupF (pa_cons (Mi.pe_tupF (pa_cons pe_str (pa_cons pe_int pa_nil))) pa_nil)) (pa_cons (Mi.pe_tupF (pa_cons (Mi.pe_tupF (pa_cons pe_str (pa_cons pe_int pa_nil))) pa_nil)) pa_nil)))))))))
  (pss_cons (ps_set (i := 2) sc_l_odd_right.nd rfl (Or.inl rfl) (pe_op (Mi.op_addG rfl) (pv 2) (pe_lst (pa_cons (Mi.pe_tupF (pa_cons (Mi.pe_tupF (pa_cons pe_str (pa_cons pe_int pa_nil))) pa_nil)) (pa_cons (Mi.pe_tupF (pa_cons (Mi.pe_tupF (pa_cons pe_str (pa_cons pe_int pa_nil))) pa_nil)) pa_nil)))))
  (pss_cons (ps_set (i := 2) sc_l_odd_right.nd rfl (Or.inl rfl) (pe_op (Mi.op_addG rfl) (pv 2) (pe_lst (pa_cons (Mi.pe_tupF (pa_cons (Mi.pe_tupF (pa_cons pe_str (pa_cons pe_int pa_nil))) pa_nil)) (pa_cons (Mi.pe_tupF (pa_cons (Mi.pe_tupF (pa_cons pe_str (pa_cons pe_int pa_nil))) pa_nil)) (pa_cons (Mi.pe_tupF (pa_cons (Mi.pe_tupF (pa_cons pe_str (pa_cons pe_int pa_nil))) pa_nil)) (pa_cons (Mi.pe_tupF (pa_cons (Mi.pe_tupF (pa_cons pe_str (pa_cons pe_int pa_nil))) pa_nil)) (pa_cons (Mi.pe_tupF (pa_cons (Mi.pe_tupF (pa_cons pe_non (pa_cons pe_int pa_nil))) pa_nil)) (pa_cons (pe_callTy (Mi.call_listG rfl) (by rfl) T.z_list (by decide +kernel) (pa_cons (pv 1) pa_nil)) pa_nil)))))))))
  (pss_cons (ps_if (pt_cmpR (Mi.op_neH rfl (hw_of hr)) (pe_lc (own := [("_law_odd", 3)]) rfl sc_l_odd_right.nd (Mi.pi_u rfl (pv 2)) (blkOk_by (own := [("_law_odd", 3)]) (N := ["_law_box_here", "_law_measure_here", "_law_some", "_law_odd"]) (sc := defScope s_l_odd_right) (by decide +kernel)) (fun _ _ _ _ _ => (pg_name (i := 3) sc_l_odd_right.nd rfl (Or.inl rfl))) (fun _ _ _ _ _ => (pts_one (pt_cmpR Mi.op_notG (Wk.pe_callG I.o_is_measure hr hgd (by rfl) T.h_is_measure.g T.h_is_measure.F.kp T.b_is_measure .nil passL (pa_cons (pv 3) pa_nil)) pe_bl (nomark _)))) (fun _ _ _ _ _ => (pv 3))) (pe_lst pa_nil) (nomark _)) (pss_one (ps_ret pe_bl)) pss_nil)
  (pss_one (ps_ret (pe_and (pe_cmpR Mi.op_isG (Mi.pe_callSG (E := WE _) I.o_is_measure hr hgd rfl T.h_is_measure.g T.h_is_measure.F.kp T.b_is_measure (fun σ => passAt tk σ) (pa_cons (pv 1) pa_nil)) pe_bl (nomark _)) (pe_one (pe_cmpR Mi.op_isG (Mi.pe_callSG (E := WE _) I.o_is_measure hr hgd rfl T.h_is_measure.g T.h_is_measure.F.kp T.b_is_measure (fun σ => passAt tk σ) (pa_cons (Mi.pe_tupF pa_nil) pa_nil)) pe_bl (nomark _)))))))))))),
   (sim_seq (sim_asg (vs := [2]) (sim_frz (sim_fLst (sim_cons (sim_c fun _ => .non) (sim_cons (sim_c fun _ => .int _) (sim_cons (sim_c fun _ => .str _) (sim_cons (sim_frz (sim_fLst (sim_cons (sim_tup (sim_cons (sim_c fun _ => .str _) (sim_cons (sim_c fun _ => .int _) sim_nil))) sim_nil))) (sim_cons (sim_tup (sim_cons (sim_tup (sim_cons (sim_c fun _ => .str _) (sim_cons (sim_c fun _ => .int _) sim_nil))) sim_nil)) (sim_cons (sim_tup (sim_cons (sim_tup (sim_cons (sim_c fun _ => .str _) (sim_cons (sim_c fun _ => .bl _) sim_nil))) sim_nil)) (sim_cons (sim_tup (sim_cons (sim_tup (sim_cons (sim_c fun _ => .str _) (sim_cons (sim_c fun _ => .int _) sim_nil))) (sim_cons (sim_tup (sim_cons (sim_c fun _ => .str _) (sim_cons (sim_c fun _ => .int _) sim_nil))) sim_nil))) (sim_cons (sim_tup (sim_cons (sim_tup (sim_cons (sim_c fun _ => .str _) (sim_cons (sim_c fun _ => .int _) sim_nil))) (sim_cons (sim_tup (sim_cons (sim_c fun _ => .str _) (sim_cons (sim_c fun _ => .int _) sim_nil))) sim_nil))) sim_nil)))))))))) (sim_gName (Nat.le_of_ble_eq_true rfl) (by decide)))
  (sim_seq (sim_asg (vs := [2]) (sim_op2 o2_add (sim_oN (Nat.le_of_ble_eq_true rfl)) (sim_oE (sim_frz (sim_fLst (sim_cons (sim_tup (sim_cons (sim_tup (sim_cons (sim_c fun _ => .str _) (sim_cons (sim_c fun _ => .int _) sim_nil))) sim_nil)) sim_nil))))) (sim_gName (Nat.le_of_ble_eq_true rfl) (by decide)))
  (sim_seq (sim_asg (vs := [2]) (sim_op2 o2_add (sim_oN (Nat.le_of_ble_eq_true rfl)) (sim_oE (sim_frz (sim_fLst (sim_cons (sim_tup (sim_cons (sim_tup (sim_cons (sim_c fun _ => .str _) (sim_cons (sim_c fun _ => .int _) (sim_cons (sim_c fun _ => .int _) sim_nil)))) sim_nil)) (sim_cons (sim_tup (sim_cons (sim_frz (sim_fLst (sim_cons (sim_c fun _ => .str _) (sim_cons (sim_c fun _ => .int _) sim_nil)))) sim_nil)) (sim_cons (sim_tup (sim_cons (sim_c fun _ => .str _) (sim_cons (sim_c fun _ => .int _) sim_nil))) (sim_cons (sim_tup (sim_cons (sim_tup (sim_cons (sim_c fun _ => .int _) (sim_cons (sim_c fun _ => .str _) sim_nil))) sim_nil)) (sim_cons (sim_tup (sim_cons (sim_tup (sim_cons (sim_c fun _ => .str _) (sim_cons (sim_c fun _ => .int _) sim_nil))) sim_nil)) (sim_cons (sim_tup (sim_cons (sim_tup (sim_cons (sim_c fun _ => .str _) (sim_cons (sim_c fun _ => .int _) sim_nil))) sim_nil)) sim_nil)))))))))) (sim_gName (Nat.le_of_ble_eq_true rfl) (by decide)))
  (sim_seq (sim_asg (vs := [2]) (sim_op2 o2_add (sim_oN (Nat.le_of_ble_eq_true rfl)) (sim_oE (sim_frz (sim_fLst (sim_cons (sim_tup (sim_cons (sim_tup (sim_cons (sim_c fun _ => .str _) (sim_cons (sim_c fun _ => .int _) sim_nil))) sim_nil)) (sim_cons (sim_tup (sim_cons (sim_tup (sim_cons (sim_c fun _ => .str _) (sim_cons (sim_c fun _ => .int _) sim_nil))) sim_nil)) sim_nil)))))) (sim_gName (Nat.le_of_ble_eq_true rfl) (by decide)))
  (sim_seq (sim_asg (vs := [2]) (sim_op2 o2_add (sim_oN (Nat.le_of_ble_eq_true rfl)) (sim_oE (sim_frz (sim_fLst (sim_cons (sim_tup (sim_cons (sim_tup (sim_cons (sim_c fun _ => .str _) (sim_cons (sim_c fun _ => .int _) sim_nil))) sim_nil)) (sim_cons (sim_tup (sim_cons (sim_tup (sim_cons (sim_c fun _ => .str _) (sim_cons (sim_c fun _ => .int _) sim_nil))) sim_nil)) (sim_cons (sim_tup (sim_cons (sim_tup (sim_cons (sim_c fun _ => .str _) (sim_cons (sim_c fun _ => .int _) sim_nil))) sim_nil)) (sim_cons (sim_tup (sim_cons (sim_tup (sim_cons (sim_c fun _ => .str _) (sim_cons (sim_c fun _ => .int _) sim_nil))) sim_nil)) (sim_cons (sim_tup (sim_cons (sim_tup (sim_cons (sim_c fun _ => .non) (sim_cons (sim_c fun _ => .int _) sim_nil))) sim_nil)) (sim_cons (sim_frz (sim_fList (sim_oN (Nat.le_of_ble_eq_true rfl)))) sim_nil)))))))))) (sim_gName (Nat.le_of_ble_eq_true rfl) (by decide)))
  (sim_seq (sim_ifS (sim_test (sim_op2 o2_neH (sim_oE (sim_frz (sim_fLc rfl (sim_iU (sim_var (Nat.le_of_ble_eq_true rfl))) (sim_gName (Nat.le_of_ble_eq_true rfl) (by decide)) (sim_test (sim_op2 o2_isNot (sim_oE (sim_call0 (sim_aV (sim_var (Nat.le_of_ble_eq_true rfl)) sim_aNil))) (sim_oE (sim_c fun _ => .bl _)))) (sim_var (Nat.le_of_ble_eq_true rfl))))) (sim_oE (sim_frz (sim_fLst sim_nil))))) (sim_ret (sim_c fun _ => .bl _)) sim_next)
  (sim_ret (sim_andV (sim_op2 o2_is (sim_oE (sim_callS (sim_aV (sim_var (Nat.le_of_ble_eq_true rfl)) sim_aNil))) (sim_oE (sim_c fun _ => .bl _))) (sim_op2 o2_is (sim_oE (sim_callS (sim_aV (sim_tup sim_nil) sim_aNil))) (sim_oE (sim_c fun _ => .bl _)))))))))))⟩
--CUT law
theorem w_law (T : Txt K mg a) {n : Nat} (I : Ok P w K mg base a n) : FnG P w K mg base (L2.CX P w) (n + 1 + 2) a.f_law a.d_law ["_law_script"] (SpM (cf K a) 1 (run (n + 1) 43)) := by
  refine fn_ok (k := n + 2) (nl := 13) (ms := m_law (run n) (runF n)) T.h_law.F sc_law rfl fun cdv A outer s H E A0 F0 H0 ex hr hgd => ?_
  have tk : Takes (cxOf (L2.CX P w) P w K mg base ["_law_script", "_law_k", "_law_box_here", "_law_one", "_law_other", "_law_n", "_law_table", "_law_due", "_law_factor_here", "_law_number", "_law_keys", "_law_key", "_law_more_here", "_law_kept"] "law" (defScope s_law) a.f_law cdv A outer s H E) (fun cls d _ H => E cls d H) := takes_of rfl rfl rfl rfl
  exact ⟨_, (pss_cons (ps_for (passes_of rfl) rfl (pi_range1 rfl T.z_range (pa_cons (pe_callB (Mi.call_maxG rfl) (by rfl) T.z_max (by decide +kernel) (pa_cons pe_int (pa_cons (pe_callB (Mi.call_minG rfl) (by rfl) T.z_min (by decide +kernel) (pa_cons pe_int (pa_cons (pe_callB (Mi.call_lenG rfl) (by rfl) T.z_len (by decide +kernel) (pa_cons (pv 0) pa_nil)) pa_nil))) pa_nil))) pa_nil)) (pg_name (i := 1) sc_law.nd rfl (Or.inl rfl)) (pss_cons (ps_set (i := 2) sc_law.nd rfl (Or.inl rfl) (Mi.pe_callSG (E := WE _) I.o_l_box hr hgd rfl T.h_l_box.g T.h_l_box.F.kp T.b_l_box (fun σ => passAt tk σ) (pa_cons (Mi.pe_callSG (E := WE _) I.o_l_cell hr hgd rfl T.h_l_cell.g T.h_l_cell.F.kp T.b_l_cell (fun σ => passAt tk σ) (pa_cons (pv 0) (pa_cons (pv 1) pa_nil))) pa_nil)))
  (pss_cons (ps_par (i := 3) (j := 4) (by rfl) sc_law.nd rfl rfl (by decide) rfl rfl (pa_cons (Mi.pe_callSG (E := WE _) I.o_l_measure hr hgd rfl T.h_l_measure.g T.h_l_measure.F.kp T.b_l_measure (fun σ => passAt tk σ) (pa_cons (pv 2) (pa_cons pe_int pa_nil))) (pa_cons (Mi.pe_callSG (E := WE _) I.o_l_measure hr hgd rfl T.h_l_measure.g T.h_l_measure.F.kp T.b_l_measure (fun σ => passAt tk σ) (pa_cons (pv 2) (pa_cons pe_int pa_nil))) pa_nil)) (by rfl))
  (pss_cons (ps_if (pt_cmpR (Mi.op_eqH rfl (hw_of hr)) (Mi.pe_callSG (E := WE _) I.o_l_take hr hgd rfl T.h_l_take.g T.h_l_take.F.kp T.b_l_take (fun σ => passAt tk σ) (pa_cons (pv 2) (pa_cons pe_int pa_nil))) pe_int (nomark _)) (pss_one (ps_set (i := 3) sc_law.nd rfl (Or.inl rfl) (Mi.pe_callSG (E := WE _) I.o_l_product hr hgd rfl T.h_l_product.g T.h_l_product.F.kp T.b_l_product (fun σ => passAt tk σ) (pa_cons (pv 3) (pa_cons (Mi.pe_tupF (pa_cons (Mi.pe_tupF (pa_cons pe_str (pa_cons (pe_op (Mi.op_addG rfl) pe_int (Mi.pe_callSG (E := WE _) I.o_l_take hr hgd rfl T.h_l_take.g T.h_l_take.F.kp T.b_l_take (fun σ => passAt tk σ) (pa_cons (pv 2) (pa_cons pe_int pa_nil)))) pa_nil))) (pa_cons (Mi.pe_tupF (pa_cons pe_str (pa_cons (pe_un un_neg pe_int) pa_nil))) pa_nil))) (pa_cons pe_int pa_nil)))))) pss_nil)
  (pss_cons (ps_set (i := 5) sc_law.nd rfl (Or.inl rfl) (pe_ix (Mi.ix_G rfl (hu_of hr)) (pe_lst (pa_cons pe_int (pa_cons pe_int (pa_cons (pe_un un_neg pe_int) (pa_cons pe_int (pa_cons (pe_un un_neg pe_int) (pa_cons pe_int pa_nil))))))) (Mi.pe_callSG (E := WE _) I.o_l_take hr hgd rfl T.h_l_take.g T.h_l_take.F.kp T.b_l_take (fun σ => passAt tk σ) (pa_cons (pv 2) (pa_cons pe_int pa_nil))) (fun _ _ => rfl)))
  (pss_cons (ps_if (PW.pt (pw_or (pt_cmpR (Mi.op_neH rfl (hw_of hr)) (Mi.pe_callSG (E := WE _) I.o_times hr hgd rfl T.h_times.g T.h_times.F.kp T.b_times (fun σ => passAt tk σ) (pa_cons (pv 3) (pa_cons (pv 4) pa_nil))) (Mi.pe_callSG (E := WE _) I.o_l_product hr hgd rfl T.h_l_product.g T.h_l_product.F.kp T.b_l_product (fun σ => passAt tk σ) (pa_cons (pv 3) (pa_cons (pv 4) (pa_cons pe_int pa_nil)))) (nomark _)) (pw_or1 (pt_cmpR (Mi.op_neH rfl (hw_of hr)) (Mi.pe_callSG (E := WE _) I.o_power hr hgd rfl T.h_power.g T.h_power.F.kp T.b_power (fun σ => passAt tk σ) (pa_cons (pv 3) (pa_cons (pv 5) pa_nil))) (Mi.pe_callSG (E := WE _) I.o_l_product hr hgd rfl T.h_l_product.g T.h_l_product.F.kp T.b_l_product (fun σ => passAt tk σ) (pa_cons (Mi.pe_tupF pa_nil) (pa_cons (pv 3) (pa_cons (pv 5) pa_nil)))) (nomark _))))) (pss_one (ps_ret pe_bl)) pss_nil)
  (pss_cons (ps_par (i := 6) (j := 7) (by rfl) sc_law.nd rfl rfl (by decide) rfl rfl (pa_cons pe_dnewK (pa_cons (Mi.pe_tupF pa_nil) pa_nil)) (by rfl))
  (pss_cons (ps_for (passes_of rfl) rfl (Mi.pi_u rfl (pe_op (Mi.op_addG rfl) (pv 3) (Mi.pe_tupF (pa_cons (Mi.pe_tupF (pa_cons pe_str (pa_cons pe_int pa_nil))) pa_nil)))) (pg_tup rfl (pgs_cons (pg_name (i := 8) sc_law.nd rfl (Or.inl rfl)) (pgs_cons (pg_name (i := 9) sc_law.nd rfl (Or.inl rfl)) pgs_nil))) (pss_one (ps_if (PW.pt (pw_and (pt_cmpR (Mi.op_eqH rfl (hw_of hr)) (pe_ix (Mi.ix_G rfl (hu_of hr)) (pv 8) pe_int (fun _ _ => rfl)) pe_str (nomark _)) (pw_and1 (pt_cmpR Mi.op_gtG (Mi.pe_callSG (E := WE _) I.o_l_take hr hgd rfl T.h_l_take.g T.h_l_take.F.kp T.b_l_take (fun σ => passAt tk σ) (pa_cons (pv 2) (pa_cons pe_int pa_nil))) pe_int (nomark _))))) (pss_one (ps_dput (hu_of hr) (pv 6) (pv 8) (Mi.pe_callSG (E := WE _) I.o_l_measure hr hgd rfl T.h_l_measure.g T.h_l_measure.F.kp T.b_l_measure (fun σ => passAt tk σ) (pa_cons (pv 2) (pa_cons pe_int pa_nil))) rfl)) pss_nil)))
  (pss_cons (ps_set (i := 10) sc_law.nd rfl (Or.inl rfl) (pe_callB (Mi.call_sortedG rfl) (by rfl) T.z_sorted (by decide +kernel) (pa_cons (pv 6) pa_nil)))
  (pss_cons (ps_if (PW.pt (pw_and (pt_cmpR (Mi.op_neH rfl (hw_of hr)) (pv 10) (pe_lst pa_nil) (nomark _)) (pw_and1 (pt_cmpR Mi.op_gtG (Mi.pe_callSG (E := WE _) I.o_l_take hr hgd rfl T.h_l_take.g T.h_l_take.F.kp T.b_l_take (fun σ => passAt tk σ) (pa_cons (pv 2) (pa_cons pe_int pa_nil))) pe_int (nomark _))))) (pss_cons (ps_par (i := 11) (j := 12) (by rfl) sc_law.nd rfl rfl (by decide) rfl rfl (pa_cons (pe_ix (Mi.ix_G rfl (hu_of hr)) (pv 10) (Mi.pe_callSG (E := WE _) I.o_l_take hr hgd rfl T.h_l_take.g T.h_l_take.F.kp T.b_l_take (fun σ => passAt tk σ) (pa_cons (pv 2) (pa_cons (pe_callB (Mi.call_lenG rfl) (by rfl) T.z_len (by decide +kernel) (pa_cons (pv 10) pa_nil)) pa_nil))) (fun _ _ => rfl)) (pa_cons (pe_ix (Mi.ix_G rfl (hu_of hr)) (pv 10) (Mi.pe_callSG (E := WE _) I.o_l_take hr hgd rfl T.h_l_take.g T.h_l_take.F.kp T.b_l_take (fun σ => passAt tk σ) (pa_cons (pv 2) (pa_cons (pe_callB (Mi.call_lenG rfl) (by rfl) T.z_len (by decide +kernel) (pa_cons (pv 10) pa_nil)) pa_nil))) (fun _ _ => rfl)) pa_nil)) (by rfl))
  (pss_one (ps_dput (hu_of hr) (pv 6) (pv 11) (Mi.pe_callSG (E := WE _) I.o_l_product hr hgd rfl T.h_l_product.g T.h_l_product.F.kp T.b_l_product (fun σ => passAt tk σ) (pa_cons (pe_ix (Mi.ix_G rfl (hu_of hr)) (pv 6) (pv 11) (fun _ _ => rfl)) (pa_cons (Mi.pe_tupF (pa_cons (Mi.pe_tupF (pa_cons (pv 12) (pa_cons pe_int pa_nil))) pa_nil)) (pa_cons pe_int pa_nil)))) rfl))) pss_nil)
  (pss_cons (ps_for (passes_of rfl) rfl (Mi.pi_u rfl (pv 3)) (pg_tup rfl (pgs_cons (pg_name (i := 8) sc_law.nd rfl (Or.inl rfl)) (pgs_cons (pg_name (i := 9) sc_law.nd rfl (Or.inl rfl)) pgs_nil))) (pss_one (ps_set (i := 7) sc_law.nd rfl (Or.inl rfl) (Mi.pe_callSG (E := WE _) I.o_l_product hr hgd rfl T.h_l_product.g T.h_l_product.F.kp T.b_l_product (fun σ => passAt tk σ) (pa_cons (pv 7) (pa_cons (pe_dget2 (hu_of hr) (pv 6) (pv 8) (Mi.pe_tupF (pa_cons (Mi.pe_tupF (pa_cons (pv 8) (pa_cons pe_int pa_nil))) pa_nil)) ⟨rfl, rfl, rfl, rfl⟩) (pa_cons (pv 9) pa_nil)))))))
  (pss_cons (ps_set (i := 13) sc_law.nd rfl (Or.inl rfl) (pe_callTy (Mi.call_dictG rfl rfl) (by rfl) T.z_dict (by decide +kernel) (pa_cons (pv 6) pa_nil)))
  (pss_cons (ps_if (PW.pt (pw_or (pt_cmpR (Mi.op_neH rfl (hw_of hr)) (Mi.pe_callSG (E := WE _) I.o_fill_measure hr hgd rfl T.h_fill_measure.g T.h_fill_measure.F.kp T.b_fill_measure (fun σ => passAt tk σ) (pa_cons (pv 3) (pa_cons (pv 6) pa_nil))) (pv 7) (nomark _)) (pw_or1 (pt_cmpR (Mi.op_neH rfl (hw_of hr)) (pv 6) (pv 13) (nomark _))))) (pss_one (ps_ret pe_bl)) pss_nil)
  (pss_one (ps_if (PW.pt (pw_or (pt_not (pt_truth (Mi.pe_callSG (E := WE _) I.o_l_texts_right hr hgd rfl T.h_l_texts_right.g T.h_l_texts_right.F.kp T.b_l_texts_right (fun σ => passAt tk σ) (pa_cons (pv 2) (pa_cons (pv 3) pa_nil))) (by intro _; rfl))) (pw_or1 (pt_not (pt_truth (Mi.pe_callSG (E := WE _) I.o_l_odd_right hr hgd rfl T.h_l_odd_right.g T.h_l_odd_right.F.kp T.b_l_odd_right (fun σ => passAt tk σ) (pa_cons (pv 2) (pa_cons (pv 4) pa_nil))) (by intro _; rfl)))))) (pss_one (ps_ret pe_bl)) pss_nil)))))))))))))))
  (pss_one (ps_ret pe_bl))),
   (sim_seq (sim_for (vs := [1]) (sim_range1 (sim_cb on_max (sim_ocons (sim_oE (sim_c fun _ => .int _)) (sim_ocons (sim_oE (sim_cb on_min (sim_ocons (sim_oE (sim_c fun _ => .int _)) (sim_ocons (sim_oE (sim_cb on_len (sim_ocons (sim_oN (Nat.le_of_ble_eq_true rfl)) sim_onil))) sim_onil)))) sim_onil)))) (sim_gName (Nat.le_of_ble_eq_true rfl) (by decide)) (sim_seq (sim_asgO (sim_fCall (sim_aV (sim_callS (sim_aV (sim_var (Nat.le_of_ble_eq_true rfl)) (sim_aV (sim_var (Nat.le_of_ble_eq_true rfl)) sim_aNil))) sim_aNil)))
  (sim_seq (sim_par (Nat.le_of_ble_eq_true rfl) (Nat.le_of_ble_eq_true rfl) (sim_aV (sim_callS (sim_aS (Nat.le_of_ble_eq_true rfl) (sim_aV (sim_c fun _ => .int _) sim_aNil))) (sim_aV (sim_callS (sim_aS (Nat.le_of_ble_eq_true rfl) (sim_aV (sim_c fun _ => .int _) sim_aNil))) sim_aNil)))
  (sim_seq (sim_ifS (sim_test (sim_op2 o2_eqH (sim_oE (sim_callS (sim_aS (Nat.le_of_ble_eq_true rfl) (sim_aV (sim_c fun _ => .int _) sim_aNil)))) (sim_oE (sim_c fun _ => .int _)))) (sim_asg (vs := [3]) (sim_callS (sim_aV (sim_var (Nat.le_of_ble_eq_true rfl)) (sim_aV (sim_tup (sim_cons (sim_tup (sim_cons (sim_c fun _ => .str _) (sim_cons (sim_op2 o2_add (sim_oE (sim_c fun _ => .int _)) (sim_oE (sim_callS (sim_aS (Nat.le_of_ble_eq_true rfl) (sim_aV (sim_c fun _ => .int _) sim_aNil))))) sim_nil))) (sim_cons (sim_tup (sim_cons (sim_c fun _ => .str _) (sim_cons (sim_un o1_neg (sim_oE (sim_c fun _ => .int _))) sim_nil))) sim_nil))) (sim_aV (sim_c fun _ => .int _) sim_aNil)))) (sim_gName (Nat.le_of_ble_eq_true rfl) (by decide))) sim_next)
  (sim_seq (sim_asg (vs := [5]) (sim_op2 o2_ix (sim_oE (sim_frz (sim_fLst (sim_cons (sim_c fun _ => .int _) (sim_cons (sim_c fun _ => .int _) (sim_cons (sim_un o1_neg (sim_oE (sim_c fun _ => .int _))) (sim_cons (sim_c fun _ => .int _) (sim_cons (sim_un o1_neg (sim_oE (sim_c fun _ => .int _))) (sim_cons (sim_c fun _ => .int _) sim_nil))))))))) (sim_oE (sim_callS (sim_aS (Nat.le_of_ble_eq_true rfl) (sim_aV (sim_c fun _ => .int _) sim_aNil))))) (sim_gName (Nat.le_of_ble_eq_true rfl) (by decide)))
  (sim_seq (sim_ifS (sim_or (sim_test (sim_op2 o2_neH (sim_oE (sim_callS (sim_aV (sim_var (Nat.le_of_ble_eq_true rfl)) (sim_aV (sim_var (Nat.le_of_ble_eq_true rfl)) sim_aNil)))) (sim_oE (sim_callS (sim_aV (sim_var (Nat.le_of_ble_eq_true rfl)) (sim_aV (sim_var (Nat.le_of_ble_eq_true rfl)) (sim_aV (sim_c fun _ => .int _) sim_aNil))))))) (sim_test (sim_op2 o2_neH (sim_oE (sim_callS (sim_aV (sim_var (Nat.le_of_ble_eq_true rfl)) (sim_aV (sim_var (Nat.le_of_ble_eq_true rfl)) sim_aNil)))) (sim_oE (sim_callS (sim_aV (sim_tup sim_nil) (sim_aV (sim_var (Nat.le_of_ble_eq_true rfl)) (sim_aV (sim_var (Nat.le_of_ble_eq_true rfl)) sim_aNil)))))))) (sim_ret (sim_c fun _ => .bl _)) sim_next)
  (sim_seq (sim_par (Nat.le_of_ble_eq_true rfl) (Nat.le_of_ble_eq_true rfl) (sim_aT sim_fDk (sim_aV (sim_tup sim_nil) sim_aNil)))
  (sim_seq (sim_for (vs := [8, 9]) (sim_iU (sim_op2 o2_add (sim_oN (Nat.le_of_ble_eq_true rfl)) (sim_oE (sim_tup (sim_cons (sim_tup (sim_cons (sim_c fun _ => .str _) (sim_cons (sim_c fun _ => .int _) sim_nil))) sim_nil))))) (sim_gTup (sim_gsCons (sim_gName (Nat.le_of_ble_eq_true rfl) (by decide)) (sim_gsCons (sim_gName (Nat.le_of_ble_eq_true rfl) (by decide)) sim_gsNil))) (sim_ifS (sim_and (sim_test (sim_op2 o2_eqH (sim_oE (sim_op2 o2_ix (sim_oN (Nat.le_of_ble_eq_true rfl)) (sim_oE (sim_c fun _ => .int _)))) (sim_oE (sim_c fun _ => .str _)))) (sim_test (sim_op2 o2_gt (sim_oE (sim_callS (sim_aS (Nat.le_of_ble_eq_true rfl) (sim_aV (sim_c fun _ => .int _) sim_aNil)))) (sim_oE (sim_c fun _ => .int _))))) (sim_put (Nat.le_of_ble_eq_true rfl) (sim_callS (sim_aS (Nat.le_of_ble_eq_true rfl) (sim_aV (sim_c fun _ => .int _) sim_aNil))) (sim_var (Nat.le_of_ble_eq_true rfl))) sim_next))
  (sim_seq (sim_asg (vs := [10]) (sim_frz (sim_fSorted (sim_oN (Nat.le_of_ble_eq_true rfl)))) (sim_gName (Nat.le_of_ble_eq_true rfl) (by decide)))
  (sim_seq (sim_ifS (sim_and (sim_test (sim_op2 o2_neH (sim_oN (Nat.le_of_ble_eq_true rfl)) (sim_oE (sim_frz (sim_fLst sim_nil))))) (sim_test (sim_op2 o2_gt (sim_oE (sim_callS (sim_aS (Nat.le_of_ble_eq_true rfl) (sim_aV (sim_c fun _ => .int _) sim_aNil)))) (sim_oE (sim_c fun _ => .int _))))) (sim_seq (sim_par (Nat.le_of_ble_eq_true rfl) (Nat.le_of_ble_eq_true rfl) (sim_aV (sim_op2 o2_ix (sim_oN (Nat.le_of_ble_eq_true rfl)) (sim_oE (sim_callS (sim_aS (Nat.le_of_ble_eq_true rfl) (sim_aV (sim_cb on_len (sim_ocons (sim_oN (Nat.le_of_ble_eq_true rfl)) sim_onil)) sim_aNil))))) (sim_aV (sim_op2 o2_ix (sim_oN (Nat.le_of_ble_eq_true rfl)) (sim_oE (sim_callS (sim_aS (Nat.le_of_ble_eq_true rfl) (sim_aV (sim_cb on_len (sim_ocons (sim_oN (Nat.le_of_ble_eq_true rfl)) sim_onil)) sim_aNil))))) sim_aNil)))
  (sim_put (Nat.le_of_ble_eq_true rfl) (sim_callS (sim_aV (sim_op2 o2_ix (sim_oN (Nat.le_of_ble_eq_true rfl)) (sim_oN (Nat.le_of_ble_eq_true rfl))) (sim_aV (sim_tup (sim_cons (sim_tup (sim_cons (sim_var (Nat.le_of_ble_eq_true rfl)) (sim_cons (sim_c fun _ => .int _) sim_nil))) sim_nil)) (sim_aV (sim_c fun _ => .int _) sim_aNil)))) (sim_var (Nat.le_of_ble_eq_true rfl)))) sim_next)
  (sim_seq (sim_for (vs := [8, 9]) (sim_iU (sim_var (Nat.le_of_ble_eq_true rfl))) (sim_gTup (sim_gsCons (sim_gName (Nat.le_of_ble_eq_true rfl) (by decide)) (sim_gsCons (sim_gName (Nat.le_of_ble_eq_true rfl) (by decide)) sim_gsNil))) (sim_asg (vs := [7]) (sim_callS (sim_aV (sim_var (Nat.le_of_ble_eq_true rfl)) (sim_aV (sim_get2 (sim_oN (Nat.le_of_ble_eq_true rfl)) (sim_var (Nat.le_of_ble_eq_true rfl)) (sim_tup (sim_cons (sim_tup (sim_cons (sim_var (Nat.le_of_ble_eq_true rfl)) (sim_cons (sim_c fun _ => .int _) sim_nil))) sim_nil))) (sim_aV (sim_var (Nat.le_of_ble_eq_true rfl)) sim_aNil)))) (sim_gName (Nat.le_of_ble_eq_true rfl) (by decide))))
  (sim_seq (sim_asg (vs := [13]) (sim_frz (sim_fDict (sim_oN (Nat.le_of_ble_eq_true rfl)))) (sim_gName (Nat.le_of_ble_eq_true rfl) (by decide)))
  (sim_seq (sim_ifS (sim_or (sim_test (sim_op2 o2_neH (sim_oE (sim_callS (sim_aV (sim_var (Nat.le_of_ble_eq_true rfl)) (sim_aS (Nat.le_of_ble_eq_true rfl) sim_aNil)))) (sim_oN (Nat.le_of_ble_eq_true rfl)))) (sim_test (sim_op2 o2_neH (sim_oN (Nat.le_of_ble_eq_true rfl)) (sim_oN (Nat.le_of_ble_eq_true rfl))))) (sim_ret (sim_c fun _ => .bl _)) sim_next)
  (sim_ifS (sim_or (sim_not (sim_tru rfl (sim_oE (sim_callS (sim_aS (Nat.le_of_ble_eq_true rfl) (sim_aV (sim_var (Nat.le_of_ble_eq_true rfl)) sim_aNil)))))) (sim_not (sim_tru rfl (sim_oE (sim_callS (sim_aS (Nat.le_of_ble_eq_true rfl) (sim_aV (sim_var (Nat.le_of_ble_eq_true rfl)) sim_aNil))))))) (sim_ret (sim_c fun _ => .bl _)) sim_next))))))))))))))
  (sim_ret (sim_c fun _ => .bl _)))⟩
--CUT
theorem all (T : Txt K mg a) : ∀ n, Ok P w K mg base a n
  | 0 => ⟨fn_vac rfl, fn_vac rfl, fn_vac rfl, fn_vac rfl, fn_vac rfl, fn_vac rfl, fn_vac rfl, fn_vac rfl, fn_vac rfl, fn_vac rfl, fn_vac rfl, fn_vac rfl, fn_vac rfl, fn_vac rfl, fn_vac rfl, fn_vac rfl, fn_vac rfl, fn_vac rfl, fn_vac rfl, fn_vac rfl, fn_vac rfl, fn_vacF rfl, fn_vac rfl, fn_vac rfl, fn_vac rfl, fn_vac rfl, fn_vac rfl, fn_vac rfl, fn_vac rfl, fn_vac rfl, fn_vac rfl, fn_vac rfl, fn_vac rfl, fn_vac rfl, fn_vac rfl, fn_vac rfl, fn_vac rfl, fn_vac rfl, fn_vac rfl, fn_vac rfl, fn_vac rfl, fn_vac rfl, fn_vac rfl, fn_vac rfl⟩
  | n + 1 => ⟨w_is_integer T (all T n), w_letters_of T (all T n), w_is_begun_word T (all T n), w_is_word T (all T n), w_is_kind_name T (all T n), w_is_factor T (all T n), w_is_power T (all T n), w_is_measure T (all T n), w_measure_of T (all T n), w_times T (all T n), w_power T (all T n), w_product T (all T n), w_measure_text T (all T n), w_is_begun T (all T n), w_last_one T (all T n), w_may_follow T (all T n), w_read_factor T (all T n), w_read_power T (all T n), w_read_measure T (all T n), w_fill_measure T (all T n), w_l_cell T (all T n), w_l_box T (all T n), w_l_take T (all T n), w_l_word T (all T n), w_l_factor T (all T n), w_l_power T (all T n), w_l_measure T (all T n), w_l_of T (all T n), w_l_product T (all T n), w_l_shown T (all T n), w_l_is_word T (all T n), w_l_small T (all T n), w_l_is_factor T (all T n), w_l_next T (all T n), w_l_can_follow T (all T n), w_l_more T (all T n), w_l_begun T (all T n), w_l_goes_on T (all T n), w_l_power_end T (all T n), w_l_told T (all T n), w_l_spoiled T (all T n), w_l_texts_right T (all T n), w_l_odd_right T (all T n), w_law T (all T n)⟩
theorem law_end (fact : ∀ ns : List Int, ns.length ≤ 63 → ∃ cs, run 40 43 [scr ns] = .ok (.bl true) cs) {l : PySem.W.OpenLaw} {w : World} {K : PySem.W.Frag} {h : Heap} {mg : Str → Option Value} {fa : Addr} {a : Ad} (G : h.Ns mainGlobals mg) (hfa : mg "law" = some (.ref fa)) (T : Txt K mg a) :
    ∃ fd : FuncData, (∀ (s : Shared) (v : Value), BindsTo s fd ⟨[v], []⟩ [("_law_script", v)]) ∧ ∀ base : Heap, K.In base → base.Ns mainGlobals mg → FnG l.prog w K mg base (L2.CX l.prog w) 42 fa fd ["_law_script"] (Mi.sp_law K) := by
  have e := hfa.symm.trans T.h_law.g
  cases e
  obtain ⟨oc, od, kV, doc, pm, an, cdv, ct, osl, e1, e2, e3⟩ := T.h_law.F.ex
  refine ⟨a.d_law, fun s v => ?_, fun base _ _ => fn_law rfl (all T 40).o_law fact⟩
  rw [e1]
  exact .of_eq rfl
theorem txt_mk {K : PySem.W.Frag} {h : Heap} {mg : Str → Option Value} {CK C_BadText f_BadText_init f_is_integer f_letters_of f_is_begun_word f_is_word f_is_kind_name f_is_factor f_is_power f_is_measure f_measure_of f_times f_power f_product f_measure_text f_is_begun f_last_one f_may_follow f_read_factor f_read_power f_read_measure f_fill_measure f_l_cell f_l_box f_l_take f_l_word f_l_factor f_l_power f_l_measure f_l_of f_l_product f_l_shown f_l_is_word f_l_small f_l_is_factor f_l_next f_l_can_follow f_l_more f_l_begun f_l_goes_on f_l_power_end f_l_told f_l_spoiled f_l_texts_right f_l_odd_right f_law t_OWN_WORDS : Addr} {d_BadText_init d_is_integer d_letters_of d_is_begun_word d_is_word d_is_kind_name d_is_factor d_is_power d_is_measure d_measure_of d_times d_power d_product d_measure_text d_is_begun d_last_one d_may_follow d_read_factor d_read_power d_read_measure d_fill_measure d_l_cell d_l_box d_l_take d_l_word d_l_factor d_l_power d_l_measure d_l_of d_l_product d_l_shown d_l_is_word d_l_small d_l_is_factor d_l_next d_l_can_follow d_l_more d_l_begun d_l_goes_on d_l_power_end d_l_told d_l_spoiled d_l_texts_right d_l_odd_right d_law : FuncData} {t_LETTERS t_DIGITS t_MOST_LETTERS t_MOST_DIGITS : Tok} (X : K.In h) (G : h.Ns mainGlobals mg)
    (kb : Wk.KBase K mg CK)
    (e_BadText : Wk.ExcT K mg "BadText" C_BadText f_BadText_init)
    (F_BadText_init : Fun K "__init__" "BadText.__init__" s_BadText_init f_BadText_init d_BadText_init)
    (n_BadText_at : PySem.W.findIn K (.ref C_BadText) "at" = some none)
    (h_is_integer : Wk.FnT K mg "is_integer" s_is_integer f_is_integer d_is_integer)
    (h_letters_of : Wk.FnT K mg "letters_of" s_letters_of f_letters_of d_letters_of)
    (h_is_begun_word : Wk.FnT K mg "is_begun_word" s_is_begun_word f_is_begun_word d_is_begun_word)
    (h_is_word : Wk.FnT K mg "is_word" s_is_word f_is_word d_is_word)
    (h_is_kind_name : Wk.FnT K mg "is_kind_name" s_is_kind_name f_is_kind_name d_is_kind_name)
    (h_is_factor : Wk.FnT K mg "is_factor" s_is_factor f_is_factor d_is_factor)
    (h_is_power : Wk.FnT K mg "is_power" s_is_power f_is_power d_is_power)
    (h_is_measure : Wk.FnT K mg "is_measure" s_is_measure f_is_measure d_is_measure)
    (h_measure_of : Wk.FnT K mg "measure_of" s_measure_of f_measure_of d_measure_of)
    (h_times : Wk.FnT K mg "times" s_times f_times d_times)
    (h_power : Wk.FnT K mg "power" s_power f_power d_power)
    (h_product : Wk.FnT K mg "product" s_product f_product d_product)
    (h_measure_text : Wk.FnT K mg "measure_text" s_measure_text f_measure_text d_measure_text)
    (h_is_begun : Wk.FnT K mg "is_begun" s_is_begun f_is_begun d_is_begun)
    (h_last_one : Wk.FnT K mg "last_one" s_last_one f_last_one d_last_one)
    (h_may_follow : Wk.FnT K mg "may_follow" s_may_follow f_may_follow d_may_follow)
    (h_read_factor : Wk.FnT K mg "read_factor" s_read_factor f_read_factor d_read_factor)
    (h_read_power : Wk.FnT K mg "read_power" s_read_power f_read_power d_read_power)
    (h_read_measure : Wk.FnT K mg "read_measure" s_read_measure f_read_measure d_read_measure)
    (h_fill_measure : Wk.FnT K mg "fill_measure" s_fill_measure f_fill_measure d_fill_measure)
    (h_l_cell : Wk.FnT K mg "_law_cell" s_l_cell f_l_cell d_l_cell)
    (h_l_box : Wk.FnT K mg "_law_box" s_l_box f_l_box d_l_box)
    (h_l_take : Wk.FnT K mg "_law_take" s_l_take f_l_take d_l_take)
    (h_l_word : Wk.FnT K mg "_law_word" s_l_word f_l_word d_l_word)
    (h_l_factor : Wk.FnT K mg "_law_factor" s_l_factor f_l_factor d_l_factor)
    (h_l_power : Wk.FnT K mg "_law_power" s_l_power f_l_power d_l_power)
    (h_l_measure : Wk.FnT K mg "_law_measure" s_l_measure f_l_measure d_l_measure)
    (h_l_of : Wk.FnT K mg "_law_of" s_l_of f_l_of d_l_of)
    (h_l_product : Wk.FnT K mg "_law_product" s_l_product f_l_product d_l_product)
    (h_l_shown : Wk.FnT K mg "_law_shown" s_l_shown f_l_shown d_l_shown)
    (h_l_is_word : Wk.FnT K mg "_law_is_word" s_l_is_word f_l_is_word d_l_is_word)
    (h_l_small : Wk.FnT K mg "_law_small" s_l_small f_l_small d_l_small)
    (h_l_is_factor : Wk.FnT K mg "_law_is_factor" s_l_is_factor f_l_is_factor d_l_is_factor)
    (h_l_next : Wk.FnT K mg "_law_next" s_l_next f_l_next d_l_next)
    (h_l_can_follow : Wk.FnT K mg "_law_can_follow" s_l_can_follow f_l_can_follow d_l_can_follow)
    (h_l_more : Wk.FnT K mg "_law_more" s_l_more f_l_more d_l_more)
    (h_l_begun : Wk.FnT K mg "_law_begun" s_l_begun f_l_begun d_l_begun)
    (h_l_goes_on : Wk.FnT K mg "_law_goes_on" s_l_goes_on f_l_goes_on d_l_goes_on)
    (h_l_power_end : Wk.FnT K mg "_law_power_end" s_l_power_end f_l_power_end d_l_power_end)
    (h_l_told : Wk.FnT K mg "_law_told" s_l_told f_l_told d_l_told)
    (h_l_spoiled : Wk.FnT K mg "_law_spoiled" s_l_spoiled f_l_spoiled d_l_spoiled)
    (h_l_texts_right : Wk.FnT K mg "_law_texts_right" s_l_texts_right f_l_texts_right d_l_texts_right)
    (h_l_odd_right : Wk.FnT K mg "_law_odd_right" s_l_odd_right f_l_odd_right d_l_odd_right)
    (h_law : Wk.FnT K mg "law" s_law f_law d_law)
    (g_LETTERS : PySem.W.nsIn K mainGlobals "LETTERS" = some (some (.str "abcdefghijklmnopqrstuvwxyz" t_LETTERS)))
    (g_DIGITS : PySem.W.nsIn K mainGlobals "DIGITS" = some (some (.str "0123456789" t_DIGITS)))
    (g_MOST_LETTERS : PySem.W.nsIn K mainGlobals "MOST_LETTERS" = some (some (.int 6 t_MOST_LETTERS)))
    (g_MOST_DIGITS : PySem.W.nsIn K mainGlobals "MOST_DIGITS" = some (some (.int 3 t_MOST_DIGITS)))
    (g_OWN_WORDS : PySem.W.nsIn K mainGlobals "OWN_WORDS" = some (some (.ref t_OWN_WORDS)))
    (q_OWN_WORDS : ∀ H, SqT K H t_OWN_WORDS [V.str "fn", V.str "let", V.str "in", V.str "rec", V.str "match", V.str "with", V.str "fail", V.str "num"])
    (z_abs : PySem.W.nsIn K mainGlobals "abs" = some none)
    (z_all : PySem.W.nsIn K mainGlobals "all" = some none)
    (z_bool : PySem.W.nsIn K mainGlobals "bool" = some none)
    (z_dict : PySem.W.nsIn K mainGlobals "dict" = some none)
    (z_int : PySem.W.nsIn K mainGlobals "int" = some none)
    (z_isinstance : PySem.W.nsIn K mainGlobals "isinstance" = some none)
    (z_len : PySem.W.nsIn K mainGlobals "len" = some none)
    (z_list : PySem.W.nsIn K mainGlobals "list" = some none)
    (z_max : PySem.W.nsIn K mainGlobals "max" = some none)
    (z_min : PySem.W.nsIn K mainGlobals "min" = some none)
    (z_range : PySem.W.nsIn K mainGlobals "range" = some none)
    (z_sorted : PySem.W.nsIn K mainGlobals "sorted" = some none)
    (z_str : PySem.W.nsIn K mainGlobals "str" = some none)
    (z_tuple : PySem.W.nsIn K mainGlobals "tuple" = some none)
    (z_zip : PySem.W.nsIn K mainGlobals "zip" = some none) :
    Txt K mg ⟨CK, C_BadText, f_BadText_init, d_BadText_init, f_is_integer, d_is_integer, f_letters_of, d_letters_of, f_is_begun_word, d_is_begun_word, f_is_word, d_is_word, f_is_kind_name, d_is_kind_name, f_is_factor, d_is_factor, f_is_power, d_is_power, f_is_measure, d_is_measure, f_measure_of, d_measure_of, f_times, d_times, f_power, d_power, f_product, d_product, f_measure_text, d_measure_text, f_is_begun, d_is_begun, f_last_one, d_last_one, f_may_follow, d_may_follow, f_read_factor, d_read_factor, f_read_power, d_read_power, f_read_measure, d_read_measure, f_fill_measure, d_fill_measure, f_l_cell, d_l_cell, f_l_box, d_l_box, f_l_take, d_l_take, f_l_word, d_l_word, f_l_factor, d_l_factor, f_l_power, d_l_power, f_l_measure, d_l_measure, f_l_of, d_l_of, f_l_product, d_l_product, f_l_shown, d_l_shown, f_l_is_word, d_l_is_word, f_l_small, d_l_small, f_l_is_factor, d_l_is_factor, f_l_next, d_l_next, f_l_can_follow, d_l_can_follow, f_l_more, d_l_more, f_l_begun, d_l_begun, f_l_goes_on, d_l_goes_on, f_l_power_end, d_l_power_end, f_l_told, d_l_told, f_l_spoiled, d_l_spoiled, f_l_texts_right, d_l_texts_right, f_l_odd_right, d_l_odd_right, f_law, d_law, t_LETTERS, t_DIGITS, t_MOST_LETTERS, t_MOST_DIGITS, t_OWN_WORDS⟩ :=
  { kb := kb,
    e_BadText := e_BadText,
    F_BadText_init := F_BadText_init,
    b_BadText_init := F_BadText_init.binds (ps := ["self", "at"]) fun _ _ _ _ _ _ us hl => match us, hl with | [_, _], _ => rfl,
    n_BadText_at := n_BadText_at,
    h_is_integer := h_is_integer,
    b_is_integer := h_is_integer.F.binds (ps := ["value"]) fun _ _ _ _ _ _ us hl => match us, hl with | [_], _ => rfl,
    h_letters_of := h_letters_of,
    b_letters_of := h_letters_of.F.binds (ps := ["text"]) fun _ _ _ _ _ _ us hl => match us, hl with | [_], _ => rfl,
    h_is_begun_word := h_is_begun_word,
    b_is_begun_word := h_is_begun_word.F.binds (ps := ["text"]) fun _ _ _ _ _ _ us hl => match us, hl with | [_], _ => rfl,
    h_is_word := h_is_word,
    b_is_word := h_is_word.F.binds (ps := ["value"]) fun _ _ _ _ _ _ us hl => match us, hl with | [_], _ => rfl,
    h_is_kind_name := h_is_kind_name,
    b_is_kind_name := h_is_kind_name.F.binds (ps := ["value"]) fun _ _ _ _ _ _ us hl => match us, hl with | [_], _ => rfl,
    h_is_factor := h_is_factor,
    b_is_factor := h_is_factor.F.binds (ps := ["value"]) fun _ _ _ _ _ _ us hl => match us, hl with | [_], _ => rfl,
    h_is_power := h_is_power,
    b_is_power := h_is_power.F.binds (ps := ["value"]) fun _ _ _ _ _ _ us hl => match us, hl with | [_], _ => rfl,
    h_is_measure := h_is_measure,
    b_is_measure := h_is_measure.F.binds (ps := ["value"]) fun _ _ _ _ _ _ us hl => match us, hl with | [_], _ => rfl,
    h_measure_of := h_measure_of,
    b_measure_of := h_measure_of.F.binds (ps := ["powers"]) fun _ _ _ _ _ _ us hl => match us, hl with | [_], _ => rfl,
    h_times := h_times,
    b_times := h_times.F.binds (ps := ["one", "other"]) fun _ _ _ _ _ _ us hl => match us, hl with | [_, _], _ => rfl,
    h_power := h_power,
    b_power := h_power.F.binds (ps := ["measure", "n"]) fun _ _ _ _ _ _ us hl => match us, hl with | [_, _], _ => rfl,
    h_product := h_product,
    b_product := h_product.F.binds (ps := ["measures"]) fun _ _ _ _ _ _ us hl => match us, hl with | [_], _ => rfl,
    h_measure_text := h_measure_text,
    b_measure_text := h_measure_text.F.binds (ps := ["measure"]) fun _ _ _ _ _ _ us hl => match us, hl with | [_], _ => rfl,
    h_is_begun := h_is_begun,
    b_is_begun := h_is_begun.F.binds (ps := ["text"]) fun _ _ _ _ _ _ us hl => match us, hl with | [_], _ => rfl,
    h_last_one := h_last_one,
    b_last_one := h_last_one.F.binds (ps := ["text"]) fun _ _ _ _ _ _ us hl => match us, hl with | [_], _ => rfl,
    h_may_follow := h_may_follow,
    b_may_follow := h_may_follow.F.binds (ps := ["text", "last"]) fun _ _ _ _ _ _ us hl => match us, hl with | [_, _], _ => rfl,
    h_read_factor := h_read_factor,
    b_read_factor := h_read_factor.F.binds (ps := ["text", "begin", "last"]) fun _ _ _ _ _ _ us hl => match us, hl with | [_, _, _], _ => rfl,
    h_read_power := h_read_power,
    b_read_power := h_read_power.F.binds (ps := ["text", "begin"]) fun _ _ _ _ _ _ us hl => match us, hl with | [_, _], _ => rfl,
    h_read_measure := h_read_measure,
    b_read_measure := h_read_measure.F.binds (ps := ["text"]) fun _ _ _ _ _ _ us hl => match us, hl with | [_], _ => rfl,
    h_fill_measure := h_fill_measure,
    b_fill_measure := h_fill_measure.F.binds (ps := ["measure", "table"]) fun _ _ _ _ _ _ us hl => match us, hl with | [_, _], _ => rfl,
    h_l_cell := h_l_cell,
    b_l_cell := h_l_cell.F.binds (ps := ["_law_script", "_law_k"]) fun _ _ _ _ _ _ us hl => match us, hl with | [_, _], _ => rfl,
    h_l_box := h_l_box,
    b_l_box := h_l_box.F.binds (ps := ["_law_cell_here"]) fun _ _ _ _ _ _ us hl => match us, hl with | [_], _ => rfl,
    h_l_take := h_l_take,
    b_l_take := h_l_take.F.binds (ps := ["_law_box_here", "_law_many"]) fun _ _ _ _ _ _ us hl => match us, hl with | [_, _], _ => rfl,
    h_l_word := h_l_word,
    b_l_word := h_l_word.F.binds (ps := ["_law_box_here"]) fun _ _ _ _ _ _ us hl => match us, hl with | [_], _ => rfl,
    h_l_factor := h_l_factor,
    b_l_factor := h_l_factor.F.binds (ps := ["_law_box_here"]) fun _ _ _ _ _ _ us hl => match us, hl with | [_], _ => rfl,
    h_l_power := h_l_power,
    b_l_power := h_l_power.F.binds (ps := ["_law_box_here"]) fun _ _ _ _ _ _ us hl => match us, hl with | [_], _ => rfl,
    h_l_measure := h_l_measure,
    b_l_measure := h_l_measure.F.binds (ps := ["_law_box_here", "_law_most"]) fun _ _ _ _ _ _ us hl => match us, hl with | [_, _], _ => rfl,
    h_l_of := h_l_of,
    b_l_of := h_l_of.F.binds (ps := ["_law_powers"]) fun _ _ _ _ _ _ us hl => match us, hl with | [_], _ => rfl,
    h_l_product := h_l_product,
    b_l_product := h_l_product.F.binds (ps := ["_law_one", "_law_other", "_law_n"]) fun _ _ _ _ _ _ us hl => match us, hl with | [_, _, _], _ => rfl,
    h_l_shown := h_l_shown,
    b_l_shown := h_l_shown.F.binds (ps := ["_law_measure_here"]) fun _ _ _ _ _ _ us hl => match us, hl with | [_], _ => rfl,
    h_l_is_word := h_l_is_word,
    b_l_is_word := h_l_is_word.F.binds (ps := ["_law_text"]) fun _ _ _ _ _ _ us hl => match us, hl with | [_], _ => rfl,
    h_l_small := h_l_small,
    b_l_small := h_l_small.F.binds (ps := ["_law_text"]) fun _ _ _ _ _ _ us hl => match us, hl with | [_], _ => rfl,
    h_l_is_factor := h_l_is_factor,
    b_l_is_factor := h_l_is_factor.F.binds (ps := ["_law_text"]) fun _ _ _ _ _ _ us hl => match us, hl with | [_], _ => rfl,
    h_l_next := h_l_next,
    b_l_next := h_l_next.F.binds (ps := ["_law_text"]) fun _ _ _ _ _ _ us hl => match us, hl with | [_], _ => rfl,
    h_l_can_follow := h_l_can_follow,
    b_l_can_follow := h_l_can_follow.F.binds (ps := ["_law_text", "_law_last"]) fun _ _ _ _ _ _ us hl => match us, hl with | [_, _], _ => rfl,
    h_l_more := h_l_more,
    b_l_more := h_l_more.F.binds (ps := ["_law_text", "_law_begin", "_law_spot", "_law_last"]) fun _ _ _ _ _ _ us hl => match us, hl with | [_, _, _, _], _ => rfl,
    h_l_begun := h_l_begun,
    b_l_begun := h_l_begun.F.binds (ps := ["_law_text"]) fun _ _ _ _ _ _ us hl => match us, hl with | [_], _ => rfl,
    h_l_goes_on := h_l_goes_on,
    b_l_goes_on := h_l_goes_on.F.binds (ps := ["_law_text", "_law_sign"]) fun _ _ _ _ _ _ us hl => match us, hl with | [_, _], _ => rfl,
    h_l_power_end := h_l_power_end,
    b_l_power_end := h_l_power_end.F.binds (ps := ["_law_text", "_law_spot"]) fun _ _ _ _ _ _ us hl => match us, hl with | [_, _], _ => rfl,
    h_l_told := h_l_told,
    b_l_told := h_l_told.F.binds (ps := ["_law_text"]) fun _ _ _ _ _ _ us hl => match us, hl with | [_], _ => rfl,
    h_l_spoiled := h_l_spoiled,
    b_l_spoiled := h_l_spoiled.F.binds (ps := ["_law_box_here", "_law_text"]) fun _ _ _ _ _ _ us hl => match us, hl with | [_, _], _ => rfl,
    h_l_texts_right := h_l_texts_right,
    b_l_texts_right := h_l_texts_right.F.binds (ps := ["_law_box_here", "_law_measure_here"]) fun _ _ _ _ _ _ us hl => match us, hl with | [_, _], _ => rfl,
    h_l_odd_right := h_l_odd_right,
    b_l_odd_right := h_l_odd_right.F.binds (ps := ["_law_box_here", "_law_measure_here"]) fun _ _ _ _ _ _ us hl => match us, hl with | [_, _], _ => rfl,
    h_law := h_law,
    g_LETTERS := PySem.W.mg_of X G g_LETTERS,
    g_DIGITS := PySem.W.mg_of X G g_DIGITS,
    g_MOST_LETTERS := PySem.W.mg_of X G g_MOST_LETTERS,
    g_MOST_DIGITS := PySem.W.mg_of X G g_MOST_DIGITS,
    g_OWN_WORDS := PySem.W.mg_of X G g_OWN_WORDS,
    q_OWN_WORDS := q_OWN_WORDS,
    z_abs := PySem.W.mg_none_of X G z_abs,
    z_all := PySem.W.mg_none_of X G z_all,
    z_bool := PySem.W.mg_none_of X G z_bool,
    z_dict := PySem.W.mg_none_of X G z_dict,
    z_int := PySem.W.mg_none_of X G z_int,
    z_isinstance := PySem.W.mg_none_of X G z_isinstance,
    z_len := PySem.W.mg_none_of X G z_len,
    z_list := PySem.W.mg_none_of X G z_list,
    z_max := PySem.W.mg_none_of X G z_max,
    z_min := PySem.W.mg_none_of X G z_min,
    z_range := PySem.W.mg_none_of X G z_range,
    z_sorted := PySem.W.mg_none_of X G z_sorted,
    z_str := PySem.W.mg_none_of X G z_str,
    z_tuple := PySem.W.mg_none_of X G z_tuple,
    z_zip := PySem.W.mg_none_of X G z_zip }
end
end Mea
set_option Elab.async false
set_option linter.all false
set_option maxRecDepth 100000
set_option maxHeartbeats 4000000
namespace Mea
open PySem L2 Wk Mi
theorem atI_0 {α : Type} {x : α} {l : List α} : atI (x :: l) 0 = some x := by
  unfold atI ixN
  rw [if_pos (by decide), if_pos (by simp only [List.length_cons]; omega)]
  rfl
theorem atI_1 {α : Type} {x y : α} {l : List α} : atI (x :: y :: l) 1 = some y := by
  unfold atI ixN
  rw [if_pos (by decide), if_pos (by simp only [List.length_cons]; omega)]
  rfl
theorem atI_2 {α : Type} {x y z : α} {l : List α} : atI (x :: y :: z :: l) 2 = some z := by
  unfold atI ixN
  rw [if_pos (by decide), if_pos (by simp only [List.length_cons]; omega)]
  rfl
theorem ixN_3_0 : ixN 3 0 = some 0 := by decide
theorem ixN_3_2 : ixN 3 2 = some 2 := by decide
local macro_rules | `(tactic| walk_at "rd") => `(tactic| simp only [mBody, mBodyF, fin, finF, finC, mSeq, seqK, mAsg, mAsgO, mRet, mRetN, mDrop, mNext, mIf, mTest, mTru, mAnd, mOr, mNot, mB, mAndV, mOrV, mNotV, mChain, mNil, mCons, mTup, mOp2, mUn, mSl, mPart, mNoPart, mC, mVar, oE, oN, oNil, oCons, mCB, rsv, rsvs, content, lift, setv, gmNil, gmCons, gmTup, mFrz, OD.d, mIter, walkD, mRange1, mRange2, mYes, aNil, aV, aS, aT, mCall, fCall, Mi.cellOf, cellsOf, apart, aparts, back, samePars, mPar, mAug, mRaise, mRaise0, mGet2, mSetIx, mPut, mAppend, mFor, Cell.isPar, Cell.olst, Cell.odk, Cell.put, fLst, fDk, fDict, fMove, bind_ok, bind_no, bind_err, List.cons_append, List.nil_append, List.replicate_succ, List.replicate_zero, List.getElem?_cons_zero, List.getElem?_cons_succ, List.getElem?_nil, List.set_cons_zero, List.set_cons_succ, List.length_cons, List.length_nil, List.take_succ_cons, List.take_zero, List.take_nil, Option.bind_some, Option.bind_none, Option.map_some, Option.map_none, List.all_nil, List.all_cons, Bool.and_true, Bool.true_and, Bool.and_false, Bool.false_and, Bool.not_true, Bool.not_false, decide_true, decide_false, reduceIte, Bool.false_eq_true, Bool.true_eq_false, if_true, if_false, beq_self_eq_true, Nat.reduceAdd, Nat.reduceEqDiff, Nat.reduceLeDiff, dAdd, dSub, dMulH, dMul, dDiv, dMod, dPow, dGt, dLt, dLe, dGe, dIx, ixL, dNeg, dAbs, dMax, dMin, dLen, dEqH, dNeH, eqH, eqB, eqS, atI_0, atI_1, atI_2, ixN_3_0, ixN_3_2, ne_eq, Int.reduceEq, Int.reduceNe, not_false_eq_true, not_true_eq_false, Int.reduceLT, Int.reduceLE, and_true, true_and, and_false, false_and, Int.reduceToNat, lim, Mi.key, fSorted, mM1, dStarts])
theorem run_s (n : Nat) : run (n + 1) = prog (run n) (runF n) := rfl
theorem runF_s (n : Nat) : runF (n + 1) = progF (run n) (runF n) := rfl
/-- at least k draws left -/
structure Bx (k : Nat) (o : OD) : Prop where
  ex : ∃ a b c : Int, o = .lst [.int a, .int b, .int c] ∧ 0 ≤ a ∧ 0 ≤ b ∧ b < 2147483629 ∧ 0 ≤ c ∧ c + k ≤ 1000000
theorem Bx.mono {k j : Nat} {o : OD} (h : Bx k o) (l : j ≤ k) : Bx j o := by
  obtain ⟨a, b, c, h1, h2, h3, h4, h5, h6⟩ := h.ex
  exact ⟨a, b, c, h1, h2, h3, h4, h5, by omega⟩
theorem log_small {m : Int} {k : Nat} (h : m.natAbs < 2 ^ 64) (hk : 64 ≤ k) : m.natAbs.log2 < k := by
  by_cases z : m.natAbs = 0
  · rw [z]
    exact Nat.lt_of_lt_of_le (by decide) hk
  · exact Nat.lt_of_lt_of_le ((Nat.log2_lt z).mpr h) hk
theorem take_ok {k : Nat} {o : OD} (h : Bx (k + 1) o) (n : Nat) (m : Int) (h0 : 0 < m) (h1 : m < 1000) : ∃ (o' : OD) (r : Int), Bx k o' ∧ 0 ≤ r ∧ r < m ∧ run (n + 1) 22 [.par o, .val (.int m)] = .ok (.int r) [.par o', .val (.int m)] := by
  obtain ⟨a, b, c, rfl, ha, hb, hb2, hc, hk⟩ := h.ex
  have hm0 : m ≠ 0 := by omega
  have hl : m.natAbs.log2 < 9000 := log_small (by omega) (by decide)
  have t1 : (0 < m ∧ m.natAbs.log2 < 9000) = True := by simp [h0, hl]
  have t2 : (m ≠ 0) = True := by simp [hm0]
  by_cases z : 0 < a
  · refine ⟨.lst [.int (a / m), .int b, .int c], a.fmod m, ⟨_, _, _, rfl, Int.ediv_nonneg ha (by omega), hb, hb2, hc, by omega⟩, Int.fmod_nonneg ha (by omega), Int.fmod_lt_of_pos _ h0, ?_⟩
    show mBody 2 (m_l_take (run n) (runF n)) _ = _
    unfold m_l_take
    iterate 5 (first | (walk_at "rd"; done) | (try walk_at "rd"; try simp only [z, t1, t2, hm0, decide_true, if_true, not_false_eq_true]))
  · have d0 : decide (0 < a) = false := decide_eq_false z
    generalize hx : (((b + 6599 * (c + 1) + 1019) ^ 5).fmod 2147483647) = x
    have x0 : 0 ≤ x := by rw [← hx]; exact Int.fmod_nonneg (Int.pow_nonneg (by omega)) (by decide)
    have x1 : x < 2147483647 := by rw [← hx]; exact Int.fmod_lt_of_pos _ (by decide)
    generalize hy : (((x + 104717 * (c + 1)) ^ 3).fmod 2147483549) = y
    have y0 : 0 ≤ y := by rw [← hy]; exact Int.fmod_nonneg (Int.pow_nonneg (by omega)) (by decide)
    have y1 : y < 2147483549 := by rw [← hy]; exact Int.fmod_lt_of_pos _ (by decide)
    have c1 : (Nat.log2 (Int.natAbs 6599) + (c + 1).natAbs.log2 < 1000000) = True := by
      have := log_small (m := c + 1) (k := 64) (by omega) (by decide)
      have e : Nat.log2 (Int.natAbs 6599) = 12 := by decide
      simp only [e, eq_iff_iff, iff_true]
      omega
    have c2 : (Nat.log2 (Int.natAbs 104717) + (c + 1).natAbs.log2 < 1000000) = True := by
      have := log_small (m := c + 1) (k := 64) (by omega) (by decide)
      have e : Nat.log2 (Int.natAbs 104717) = 16 := by decide
      simp only [e, eq_iff_iff, iff_true]
      omega
    have p1 : ((b + 6599 * (c + 1) + 1019).natAbs < 2 ^ 64) = True := by
      simp only [eq_iff_iff, iff_true]
      omega
    have p2 : ((x + 104717 * (c + 1)).natAbs < 2 ^ 64) = True := by
      simp only [eq_iff_iff, iff_true]
      omega
    have n1 : ((2147483647 : Int) ≠ 0) = True := by simp
    have n2 : ((2147483549 : Int) ≠ 0) = True := by simp
    have e5 : Int.toNat 5 = 5 := rfl
    have e3 : Int.toNat 3 = 3 := rfl
    have q1 : (Nat.log2 (Int.natAbs 16) < 9000) = True := by simp; decide
    refine ⟨.lst [.int a, .int b, .int (c + 1)], (y / 16).fmod m, ⟨_, _, _, rfl, ha, hb, hb2, by omega, by omega⟩, Int.fmod_nonneg (Int.ediv_nonneg y0 (by decide)) (by omega), Int.fmod_lt_of_pos _ h0, ?_⟩
    show mBody 2 (m_l_take (run n) (runF n)) _ = _
    unfold m_l_take
    iterate 12 (first | (walk_at "rd"; done) | (try walk_at "rd"; try simp only [d0, c1, p1, hx, c2, p2, hy, q1, hm0, e5, e3, if_true, not_false_eq_true]))
end Mea
set_option Elab.async false
set_option linter.all false
set_option maxRecDepth 100000
set_option maxHeartbeats 4000000
namespace Mea
open PySem L2 Wk Mi
local macro_rules | `(tactic| walk_at "rd") => `(tactic| simp only [mBody, mBodyF, fin, finF, finC, mSeq, seqK, mAsg, mAsgO, mRet, mRetN, mDrop, mNext, mIf, mTest, mTru, mAnd, mOr, mNot, mB, mAndV, mOrV, mNotV, mChain, mNil, mCons, mTup, mOp2, mUn, mSl, mPart, mNoPart, mC, mVar, oE, oN, oNil, oCons, mCB, rsv, rsvs, content, lift, setv, gmNil, gmCons, gmTup, mFrz, OD.d, mIter, walkD, mRange1, mRange2, mYes, aNil, aV, aS, aT, mCall, fCall, Mi.cellOf, cellsOf, apart, aparts, back, samePars, mPar, mAug, mRaise, mRaise0, mGet2, mSetIx, mPut, mAppend, mFor, Cell.isPar, Cell.olst, Cell.odk, Cell.put, fLst, fDk, fDict, fMove, bind_ok, bind_no, bind_err, List.cons_append, List.nil_append, List.replicate_succ, List.replicate_zero, List.getElem?_cons_zero, List.getElem?_cons_succ, List.getElem?_nil, List.set_cons_zero, List.set_cons_succ, List.length_cons, List.length_nil, List.take_succ_cons, List.take_zero, List.take_nil, Option.bind_some, Option.bind_none, Option.map_some, Option.map_none, List.all_nil, List.all_cons, Bool.and_true, Bool.true_and, Bool.and_false, Bool.false_and, Bool.not_true, Bool.not_false, decide_true, decide_false, reduceIte, Bool.false_eq_true, Bool.true_eq_false, if_true, if_false, beq_self_eq_true, Nat.reduceAdd, Nat.reduceEqDiff, Nat.reduceLeDiff, dAdd, dSub, dMulH, dMul, dDiv, dMod, dPow, dGt, dLt, dLe, dGe, dIx, ixL, dNeg, dAbs, dMax, dMin, dLen, dEqH, dNeH, eqH, eqB, eqS, atI_0, atI_1, atI_2, ixN_3_0, ixN_3_2, ne_eq, Int.reduceEq, Int.reduceNe, not_false_eq_true, not_true_eq_false, Int.reduceLT, Int.reduceLE, and_true, true_and, and_false, false_and, Int.reduceToNat, lim, Mi.key, fSorted, mM1, dStarts])
theorem atI_lt {α : Type} {l : List α} {r : Int} (h0 : 0 ≤ r) (h1 : r < l.length) : ∃ x, x ∈ l ∧ atI l r = some x := by
  have hl : r.toNat < l.length := by omega
  refine ⟨l[r.toNat], List.getElem_mem hl, ?_⟩
  unfold atI ixN
  rw [if_pos h0, if_pos h1]
  show l[r.toNat]? = _
  rw [List.getElem?_eq_getElem hl]
def words : List Str := ["m", "s", "kg", "m1", "m12", "m999", "mm", "abcdef", "abcdef1", "fnx", "a", "zz9", "fn1", "lets", "n"]
theorem word_ok {k : Nat} {o : OD} (h : Bx (k + 1) o) (n : Nat) : ∃ (o' : OD) (z : Str), Bx k o' ∧ z ∈ words ∧ run (n + 2) 23 [.par o] = .ok (.str z) [.par o'] := by
  obtain ⟨o', r, h1, h2, h3, h4⟩ := take_ok h n 15 (by decide) (by decide)
  obtain ⟨d, hd, e⟩ := atI_lt (l := words.map D.str) h2 (by simpa [words] using h3)
  obtain ⟨z, hz, rfl⟩ := List.mem_map.mp hd
  refine ⟨o', z, h1, hz, ?_⟩
  simp only [words, List.map_cons, List.map_nil] at e
  show mBody 1 (m_l_word (run (n + 1)) (runF (n + 1))) _ = _
  unfold m_l_word
  iterate 7 (first | (walk_at "rd"; done) | (try walk_at "rd"; try simp only [h4, e]))
/-- a factor: a word of the list, perhaps behind a quote -/
def quotes : List Str := ["", "", "'"]
def factors : List Str := words ++ words.map fun z => (("'" : Str) ++ z)
theorem quotes_len : ∀ q ∈ quotes, q.length ≤ 1 := by decide +kernel
theorem str_len_words : ∀ z ∈ words, z.length ≤ 7 := by decide +kernel
theorem factor_ok {k : Nat} {o : OD} (h : Bx (k + 2) o) (n : Nat) : ∃ (o' : OD) (q z : Str), Bx k o' ∧ q ∈ quotes ∧ z ∈ words ∧ run (n + 3) 24 [.par o] = .ok (.str (q ++ z)) [.par o'] := by
  obtain ⟨o1, r, h1, h2, h3, h4⟩ := take_ok (k := k + 1) h (n + 1) 3 (by decide) (by decide)
  obtain ⟨o2, z, g1, g2, g3⟩ := word_ok h1 n
  obtain ⟨d, hd, e⟩ := atI_lt (l := quotes.map D.str) h2 (by simpa [quotes] using h3)
  obtain ⟨q, hq, rfl⟩ := List.mem_map.mp hd
  refine ⟨o2, q, z, g1, hq, g2, ?_⟩
  simp only [quotes, List.map_cons, List.map_nil] at e
  have hl : (q.length + z.length ≤ 100000) = True := by
    have a := str_len_words z g2
    have b := quotes_len q hq
    simp only [eq_iff_iff, iff_true]
    omega
  show mBody 0 (m_l_factor (run (n + 2)) (runF (n + 2))) _ = _
  unfold m_l_factor
  iterate 7 (first | (walk_at "rd"; done) | (try walk_at "rd"; try simp only [h4, g3, e, hl]))
def powersL : List Int := [1, 1, -1, 2, -2, 10, -37, 100, 12345, 3]
theorem power_ok {k : Nat} {o : OD} (h : Bx (k + 1) o) (n : Nat) : ∃ (o' : OD) (i : Int), Bx k o' ∧ i ∈ powersL ∧ run (n + 2) 25 [.par o] = .ok (.int i) [.par o'] := by
  obtain ⟨o', r, h1, h2, h3, h4⟩ := take_ok h n 10 (by decide) (by decide)
  obtain ⟨d, hd, e⟩ := atI_lt (l := powersL.map D.int) h2 (by simpa [powersL] using h3)
  obtain ⟨z, hz, rfl⟩ := List.mem_map.mp hd
  refine ⟨o', z, h1, hz, ?_⟩
  simp only [powersL, List.map_cons, List.map_nil] at e
  show mBody 0 (m_l_power (run (n + 1)) (runF (n + 1))) _ = _
  unfold m_l_power
  iterate 7 (first | (walk_at "rd"; done) | (try walk_at "rd"; try simp only [h4, e]))
theorem box_ok (n : Nat) (i : Int) : ∃ o, Bx 1000000 o ∧ runF (n + 1) 21 [.val (.int i)] = .ok o [.val (.int i)] := by
  generalize hv : (if i < 0 then -i else i) = v
  have hv0 : 0 ≤ v := by rw [← hv]; split <;> omega
  generalize ha : (if v - 10 ^ 18 > 0 then v - 10 ^ 18 else 0) = a
  have ha0 : 0 ≤ a := by rw [← ha]; split <;> omega
  refine ⟨.lst [.int a, .int (v.fmod 2147483629), .int 0], ⟨_, _, _, rfl, ha0, Int.fmod_nonneg hv0 (by decide), Int.fmod_lt_of_pos _ (by decide), by decide, by decide⟩, ?_⟩
  have p1 : (Int.natAbs 10 < 2 ^ 64) = True := by simp
  have e : runF (n + 1) 21 = mBodyF 0 (m_l_box (run n) (runF n)) := rfl
  rw [e]
  unfold m_l_box
  iterate 7 (first | (walk_at "rd"; done) | (try walk_at "rd"; try simp only [hv, ha, p1]))
theorem cell_ok (n : Nat) (ns : List Int) (k : Nat) (hk : k < 100) : ∃ i : Int, run (n + 1) 20 [scr ns, .val (.int k)] = .ok (.int i) [scr ns, .val (.int k)] := by
  by_cases z : k < ns.length
  · obtain ⟨d, hd, e⟩ := atI_lt (l := ns.map D.int) (r := (k : Int)) (by omega) (by simpa using z)
    obtain ⟨i, hi, rfl⟩ := List.mem_map.mp hd
    refine ⟨i, ?_⟩
    have d1 : decide ((k : Int) < ((ns.map D.int).length : Int)) = true := by simp [z]
    show mBody 0 (m_l_cell (run n) (runF n)) _ = _
    unfold m_l_cell scr
    iterate 7 (first | (walk_at "rd"; done) | (try walk_at "rd"; try simp only [e, d1]))
  · refine ⟨15485917 * k + 353, ?_⟩
    have d1 : decide ((k : Int) < ((ns.map D.int).length : Int)) = false := by simp; omega
    have c1 : (Nat.log2 (Int.natAbs 15485917) + (k : Int).natAbs.log2 < 1000000) = True := by
      have := log_small (m := (k : Int)) (k := 64) (by omega) (by decide)
      have e : Nat.log2 (Int.natAbs 15485917) = 23 := by decide
      simp only [e, eq_iff_iff, iff_true]
      omega
    show mBody 0 (m_l_cell (run n) (runF n)) _ = _
    unfold m_l_cell scr
    iterate 7 (first | (walk_at "rd"; done) | (try walk_at "rd"; try simp only [d1, c1]))
end Mea
set_option Elab.async false
set_option linter.all false
set_option maxRecDepth 100000
set_option maxHeartbeats 4000000
namespace Mea
open PySem L2 Wk Mi
local macro_rules | `(tactic| walk_at "rd") => `(tactic| simp only [mBody, mBodyF, fin, finF, finC, mSeq, seqK, mAsg, mAsgO, mRet, mRetN, mDrop, mNext, mIf, mTest, mTru, mAnd, mOr, mNot, mB, mAndV, mOrV, mNotV, mChain, mNil, mCons, mTup, mOp2, mUn, mSl, mPart, mNoPart, mC, mVar, oE, oN, oNil, oCons, mCB, rsv, rsvs, content, lift, setv, gmNil, gmCons, gmTup, mFrz, OD.d, mIter, walkD, mRange1, mRange2, mYes, aNil, aV, aS, aT, mCall, fCall, Mi.cellOf, cellsOf, apart, aparts, back, samePars, mPar, mAug, mRaise, mRaise0, mGet2, mSetIx, mPut, mAppend, mFor, Cell.isPar, Cell.olst, Cell.odk, Cell.put, fLst, fDk, fDict, fMove, bind_ok, bind_no, bind_err, List.cons_append, List.nil_append, List.replicate_succ, List.replicate_zero, List.getElem?_cons_zero, List.getElem?_cons_succ, List.getElem?_nil, List.set_cons_zero, List.set_cons_succ, List.length_cons, List.length_nil, List.take_succ_cons, List.take_zero, List.take_nil, Option.bind_some, Option.bind_none, Option.map_some, Option.map_none, List.all_nil, List.all_cons, Bool.and_true, Bool.true_and, Bool.and_false, Bool.false_and, Bool.not_true, Bool.not_false, decide_true, decide_false, reduceIte, Bool.false_eq_true, Bool.true_eq_false, if_true, if_false, beq_self_eq_true, Nat.reduceAdd, Nat.reduceEqDiff, Nat.reduceLeDiff, dAdd, dSub, dMulH, dMul, dDiv, dMod, dPow, dGt, dLt, dLe, dGe, dIx, ixL, dNeg, dAbs, dMax, dMin, dLen, dEqH, dNeH, eqH, eqB, eqS, atI_0, atI_1, atI_2, ixN_3_0, ixN_3_2, ne_eq, Int.reduceEq, Int.reduceNe, not_false_eq_true, not_true_eq_false, Int.reduceLT, Int.reduceLE, and_true, true_and, and_false, false_and, Int.reduceToNat, lim, Mi.key, fSorted, mM1, dStarts])
abbrev Ms := List (Str × Int)
def lookS (l : Ms) (k : Str) : Int := match l.find? fun p => decide (p.1 = k) with
  | some p => p.2
  | none => 0
def dkE (l : Ms) : List (Key × D) := l.map fun p => (.inr p.1, .int p.2)
def ofP (l : Ms) : Ms := ((sortS (l.map (·.1))).filter fun k => decide (lookS l k ≠ 0)).map fun k => (k, lookS l k)
def encP (p : Str × Int) : D := .tup [.str p.1, .int p.2]
def encM (m : Ms) : D := .tup (m.map encP)
theorem fget_dkE (l : Ms) (k : Str) : fget (dkE l) (.inr k) = (l.find? fun p => decide (p.1 = k)).map fun p => .int p.2 := by
  unfold fget dkE
  rw [List.find?_map, Option.map_map]
  congr 1
  congr 1
  funext p
  simp
theorem strKeys_dkE : ∀ l : Ms, strKeys (dkE l) = some (l.map (·.1))
  | [] => rfl
  | p :: l => by
    show (strKeys (dkE l)).map (p.1 :: ·) = _
    rw [strKeys_dkE l]
    rfl
theorem fget_mem {l : Ms} {k : Str} (h : k ∈ l.map (·.1)) : fget (dkE l) (.inr k) = some (.int (lookS l k)) := by
  rw [fget_dkE]
  unfold lookS
  cases e : l.find? fun p => decide (p.1 = k) with
  | some p => rfl
  | none =>
    obtain ⟨p, hp, rfl⟩ := List.mem_map.mp h
    have := List.find?_eq_none.mp e p hp
    simp at this
def pOf (l : Ms) : D → Bool
  | .str k => decide (lookS l k ≠ 0)
  | _ => false
def gOf (l : Ms) : D → D
  | .str k => encP (k, lookS l k)
  | d => d
abbrev tOf : Mi.Env → Out Bool := mTest (mOp2 dNeH (oE (mOp2 dIx (oN 0) (oN 1))) (oE (mC (.int 0))))
abbrev eOf : Mi.Env → Out D := mTup (mCons (mVar 1) (mCons (mOp2 dIx (oN 0) (oN 1)) mNil))
abbrev iOf : Mi.Env → Out (List D) := mIter (mFrz (fSorted (oN 0)))
theorem of_key {l : Ms} (hl : l.length < 64) {c : Cell} (hc : c = .par (.dk (dkE l)) ∨ c = .val (.dk (dkE l))) :
    fLc [1] iOf (setv 1) tOf eOf [c, .no] = .ok (.lst ((((sortS (l.map (·.1))).map D.str).filter (pOf l)).map (gOf l))) [c, .no] := by
  have hks : (l.map (·.1)).length < 64 := by simpa using hl
  have hsl : (sortS (l.map (·.1))).length = l.length := by rw [(sortS_perm _).length_eq, List.length_map]
  have mem : ∀ d ∈ (sortS (l.map (·.1))).map D.str, ∃ k, d = .str k ∧ fget (dkE l) (.inr k) = some (.int (lookS l k)) := fun d hd => by
    obtain ⟨k, hk, rfl⟩ := List.mem_map.mp hd
    exact ⟨k, rfl, fget_mem ((sortS_perm _).mem_iff.mp hk)⟩
  rcases hc with rfl | rfl
  all_goals
    refine fLc_pure (fun d => [_, .val d]) ?_ rfl (by simp) (fun d _ => ⟨rfl, rfl, rfl⟩) rfl ?_ ?_ ?_ ?_
    · unfold iOf
      walk_at "rd"
      simp only [strKeys_dkE, if_pos hks]
      walk_at "rd"
    · intro d _ c'
      rfl
    · intro d hd c'
      obtain ⟨k, rfl, e⟩ := mem d hd
      unfold tOf
      iterate 4 (first | (walk_at "rd"; done) | (try walk_at "rd"; try simp only [e, pOf, decide_not]))
    · intro d hd q c'
      obtain ⟨k, rfl, e⟩ := mem d hd
      unfold eOf
      iterate 4 (first | (walk_at "rd"; done) | (try walk_at "rd"; try simp only [e, gOf, encP]))
    · rw [List.length_map, hsl]
      show l.length ≤ 100000
      omega
theorem filter_str (l : Ms) : ∀ ks : List Str, ((ks.map D.str).filter (pOf l)).map (gOf l) = ((ks.filter fun k => decide (lookS l k ≠ 0)).map fun k => (k, lookS l k)).map encP
  | [] => rfl
  | k :: ks => by
    have ih := filter_str l ks
    by_cases q : lookS l k ≠ 0
    · rw [List.map_cons, List.filter_cons_of_pos (by show decide (lookS l k ≠ 0) = true; exact decide_eq_true q), List.map_cons, ih, List.filter_cons_of_pos (by exact decide_eq_true q), List.map_cons, List.map_cons]
      rfl
    · rw [List.map_cons, List.filter_cons_of_neg (by show ¬ decide (lookS l k ≠ 0) = true; simpa using q), ih, List.filter_cons_of_neg (by simpa using q)]
theorem ofP_len (l : Ms) : (ofP l).length ≤ l.length := by
  unfold ofP
  rw [List.length_map]
  refine Nat.le_trans (List.length_filter_le _ _) ?_
  rw [(sortS_perm _).length_eq, List.length_map]
  exact Nat.le_refl _
theorem of_core {l : Ms} (hl : l.length < 64) {c : Cell} (hc : c = .par (.dk (dkE l)) ∨ c = .val (.dk (dkE l))) :
    mBody 1 (mRet (mCB dTuple (oCons (oE (mFrz (fLc [1] iOf (setv 1) tOf eOf))) oNil))) [c] = .ok (encM (ofP l)) [c] := by
  have key : fLc [1] iOf (setv 1) tOf eOf [c, .no] = .ok (.lst ((ofP l).map encP)) [c, .no] := by
    rw [of_key hl hc, filter_str]
    rfl
  have tu : dTuple [.lst ((ofP l).map encP)] = some (encM (ofP l)) := by
    have h := ofP_len l
    unfold dTuple
    first
      | rfl
      | (rw [if_pos (by rw [List.length_map]; show _ ≤ 100000; omega)]; rfl)
  have e0 : ([c] ++ List.replicate 1 Cell.no : Mi.Env) = [c, .no] := rfl
  unfold mBody
  rw [e0]
  rcases hc with rfl | rfl
  all_goals
    walk_at "rd"
    simp only [key]
    walk_at "rd"
    simp only [tu]
    walk_at "rd"
theorem of_ok (n : Nat) {l : Ms} (hl : l.length < 64) {c : Cell} (hc : c = .par (.dk (dkE l)) ∨ c = .val (.dk (dkE l))) : run (n + 1) 27 [c] = .ok (encM (ofP l)) [c] := of_core hl hc
theorem measure_of_ok (n : Nat) {l : Ms} (hl : l.length < 64) {c : Cell} (hc : c = .par (.dk (dkE l)) ∨ c = .val (.dk (dkE l))) : run (n + 1) 8 [c] = .ok (encM (ofP l)) [c] := of_core hl hc
/-- a dict's entry put -/
def putM (l : Ms) (k : Str) (v : Int) : Ms := if l.any fun p => decide (p.1 = k) then l.map fun p => if p.1 = k then (p.1, v) else p else l ++ [(k, v)]
theorem putD_dkE (l : Ms) (k : Str) (v : Int) : putD (dkE l) (.inr k) (.int v) = dkE (putM l k v) := by
  unfold putD putM dkE
  have e : ((l.map fun p => ((Sum.inr p.1 : Key), D.int p.2)).any fun kv => decide (kv.1 = Sum.inr k)) = l.any fun p => decide (p.1 = k) := by
    rw [List.any_map]
    congr 1
    funext p
    simp
  rw [e]
  split
  · rw [List.map_map, List.map_map]
    refine List.map_congr_left fun p _ => ?_
    simp only [Function.comp]
    by_cases q : p.1 = k
    · simp [q]
    · simp [q]
  · rw [List.map_append]
    rfl
def foldM (n : Int) (l m : Ms) : Ms := m.foldl (fun acc p => putM acc p.1 (lookS acc p.1 + n * p.2)) l
theorem pairsD_enc : ∀ m : Ms, pairsD (m.map encP) = some (dkE m)
  | [] => rfl
  | p :: m => by
    rw [List.map_cons]
    unfold pairsD
    rw [pairsD_enc m]
    rfl
end Mea
set_option Elab.async false
set_option linter.all false
set_option maxRecDepth 100000
set_option maxHeartbeats 4000000
namespace Mea
open PySem L2 Wk Mi
local macro_rules | `(tactic| walk_at "rd") => `(tactic| simp only [mBody, mBodyF, fin, finF, finC, mSeq, seqK, mAsg, mAsgO, mRet, mRetN, mDrop, mNext, mIf, mTest, mTru, mAnd, mOr, mNot, mB, mAndV, mOrV, mNotV, mChain, mNil, mCons, mTup, mOp2, mUn, mSl, mPart, mNoPart, mC, mVar, oE, oN, oNil, oCons, mCB, rsv, rsvs, content, lift, setv, gmNil, gmCons, gmTup, mFrz, OD.d, mIter, walkD, mRange1, mRange2, mYes, aNil, aV, aS, aT, mCall, fCall, Mi.cellOf, cellsOf, apart, aparts, back, samePars, mPar, mAug, mRaise, mRaise0, mGet2, mSetIx, mPut, mAppend, mFor, Cell.isPar, Cell.olst, Cell.odk, Cell.put, fLst, fDk, fDict, fMove, bind_ok, bind_no, bind_err, List.cons_append, List.nil_append, List.replicate_succ, List.replicate_zero, List.getElem?_cons_zero, List.getElem?_cons_succ, List.getElem?_nil, List.set_cons_zero, List.set_cons_succ, List.length_cons, List.length_nil, List.take_succ_cons, List.take_zero, List.take_nil, Option.bind_some, Option.bind_none, Option.map_some, Option.map_none, List.all_nil, List.all_cons, Bool.and_true, Bool.true_and, Bool.and_false, Bool.false_and, Bool.not_true, Bool.not_false, decide_true, decide_false, reduceIte, Bool.false_eq_true, Bool.true_eq_false, if_true, if_false, beq_self_eq_true, Nat.reduceAdd, Nat.reduceEqDiff, Nat.reduceLeDiff, dAdd, dSub, dMulH, dMul, dDiv, dMod, dPow, dGt, dLt, dLe, dGe, dIx, ixL, dNeg, dAbs, dMax, dMin, dLen, dEqH, dNeH, eqH, eqB, eqS, atI_0, atI_1, atI_2, ixN_3_0, ixN_3_2, ne_eq, Int.reduceEq, Int.reduceNe, not_false_eq_true, not_true_eq_false, Int.reduceLT, Int.reduceLE, and_true, true_and, and_false, false_and, Int.reduceToNat, lim, Mi.key, fSorted, mM1, dStarts])
def mergeM (l m : Ms) : Ms := m.foldl (fun acc p => putM acc p.1 p.2) l
theorem mergeD_dkE : ∀ (m l : Ms), mergeD (dkE l) (dkE m) = dkE (mergeM l m)
  | [], _ => rfl
  | p :: m, l => by
    have e : mergeD (dkE l) (dkE (p :: m)) = mergeD (putD (dkE l) (.inr p.1) (.int p.2)) (dkE m) := rfl
    rw [e, putD_dkE, mergeD_dkE m]
    rfl
theorem putM_len (l : Ms) (k : Str) (v : Int) : (putM l k v).length ≤ l.length + 1 := by
  unfold putM
  split
  · rw [List.length_map]; omega
  · rw [List.length_append]; simp
theorem mergeM_len : ∀ (m l : Ms), (mergeM l m).length ≤ l.length + m.length
  | [], _ => Nat.le_refl _
  | p :: m, l => by
    have := mergeM_len m (putM l p.1 p.2)
    have h := putM_len l p.1 p.2
    show (mergeM (putM l p.1 p.2) m).length ≤ _
    rw [List.length_cons]
    omega
theorem get2_dkE (l : Ms) (k : Str) : (fget (dkE l) (.inr k)).getD (.int 0) = .int (lookS l k) := by
  rw [fget_dkE]
  unfold lookS
  cases l.find? fun p => decide (p.1 = k) <;> rfl
def blank (x y : Cell) : Prop := (x = .no ∧ y = .no) ∨ ∃ d e, x = .val d ∧ y = .val e
theorem prod_loop {a b : Cell} {nn : Int} (hn : nn.natAbs < 2 ^ 64) : ∀ (m : Ms) (acc : Ms) (x y : Cell), (∀ p ∈ m, p.2.natAbs < 2 ^ 64) → acc.length + m.length ≤ 1000 → blank x y →
    ∃ x' y', blank x' y' ∧ forL (gmTup 2 (gmCons (setv 4) (gmCons (setv 5) gmNil))) (mPut 3 (mVar 4) (mOp2 dAdd (oE (mGet2 (oN 3) (mVar 4) (mC (.int 0)))) (oE (mOp2 dMulH (oN 2) (oN 5))))) (m.map encP)
      [a, b, .val (.int nn), .own (.dk (dkE acc)), x, y] = .ok .nx [a, b, .val (.int nn), .own (.dk (dkE (foldM nn acc m))), x', y']
  | [], acc, x, y, _, _, hb => ⟨x, y, hb, rfl⟩
  | p :: m, acc, x, y, hm, hl, hb => by
    have hp := hm p (by simp)
    have c1 : (nn.natAbs.log2 + p.2.natAbs.log2 < 1000000) = True := by
      have h1 := log_small (m := nn) (k := 64) hn (by decide)
      have h2 := log_small (m := p.2) (k := 64) hp (by decide)
      simp only [eq_iff_iff, iff_true]
      omega
    rw [List.length_cons] at hl
    have c2 : ((dkE acc).length < 100000) = True := by
      unfold dkE
      rw [List.length_map]
      simp only [eq_iff_iff, iff_true]
      omega
    have hq := putM_len acc p.1 (lookS acc p.1 + nn * p.2)
    obtain ⟨x', y', k1, k2⟩ := prod_loop (a := a) (b := b) hn m (putM acc p.1 (lookS acc p.1 + nn * p.2)) (.val (.str p.1)) (.val (.int p.2)) (fun q h => hm q (List.mem_cons_of_mem _ h)) (by omega) (.inr ⟨_, _, rfl, rfl⟩)
    refine ⟨x', y', k1, ?_⟩
    show _ = Out.ok Fl.nx [a, b, .val (.int nn), .own (.dk (dkE (foldM nn (putM acc p.1 (lookS acc p.1 + nn * p.2)) m))), x', y']
    rw [List.map_cons, ← k2]
    refine forL_cons (ρ1 := [a, b, .val (.int nn), .own (.dk (dkE acc)), .val (.str p.1), .val (.int p.2)]) ?_ ?_
    · rcases hb with ⟨rfl, rfl⟩ | ⟨d, e, rfl, rfl⟩
      · rfl
      · rfl
    · iterate 6 (first | (walk_at "rd"; done) | (try walk_at "rd"; try simp only [c1, c2, get2_dkE, putD_dkE]))
theorem product_ok (n : Nat) {one other : Ms} {nn : Int} (hn : nn.natAbs < 2 ^ 64) (hm : ∀ p ∈ other, p.2.natAbs < 2 ^ 64) (hl : one.length + other.length < 64) (hf : (foldM nn (mergeM [] one) other).length < 64) :
    run (n + 2) 28 [.val (encM one), .val (encM other), .val (.int nn)] = .ok (encM (ofP (foldM nn (mergeM [] one) other))) [.val (encM one), .val (encM other), .val (.int nn)] := by
  have h1 := mergeM_len one []
  obtain ⟨x, y, hb, e⟩ := prod_loop (a := .val (encM one)) (b := .val (encM other)) hn other (mergeM [] one) .no .no hm (by simp only [List.length_nil] at h1; omega) (.inl ⟨rfl, rfl⟩)
  have e2 := of_ok n hf (.inl rfl)
  have e3 : mergeD [] (dkE one) = dkE (mergeM [] one) := mergeD_dkE one []
  show mBody 3 (m_l_product (run (n + 1)) (runF (n + 1))) _ = _
  unfold m_l_product
  unfold encM at e ⊢
  iterate 6 (first | (walk_at "rd"; done) | (try walk_at "rd"; try simp only [pairsD_enc, e3, e, e2]))
  rfl
theorem times_loop {a b : Cell} : ∀ (m : Ms) (acc : Ms) (x y : Cell), acc.length + m.length ≤ 1000 → blank x y →
    ∃ x' y', blank x' y' ∧ forL (gmTup 2 (gmCons (setv 3) (gmCons (setv 4) gmNil))) (mPut 2 (mVar 3) (mOp2 dAdd (oE (mGet2 (oN 2) (mVar 3) (mC (.int 0)))) (oN 4))) (m.map encP)
      [a, b, .own (.dk (dkE acc)), x, y] = .ok .nx [a, b, .own (.dk (dkE (foldM 1 acc m))), x', y']
  | [], acc, x, y, _, hb => ⟨x, y, hb, rfl⟩
  | p :: m, acc, x, y, hl, hb => by
    rw [List.length_cons] at hl
    have c2 : ((dkE acc).length < 100000) = True := by
      unfold dkE
      rw [List.length_map]
      simp only [eq_iff_iff, iff_true]
      omega
    have hq := putM_len acc p.1 (lookS acc p.1 + 1 * p.2)
    obtain ⟨x', y', k1, k2⟩ := times_loop (a := a) (b := b) m (putM acc p.1 (lookS acc p.1 + 1 * p.2)) (.val (.str p.1)) (.val (.int p.2)) (by omega) (.inr ⟨_, _, rfl, rfl⟩)
    refine ⟨x', y', k1, ?_⟩
    show _ = Out.ok Fl.nx [a, b, .own (.dk (dkE (foldM 1 (putM acc p.1 (lookS acc p.1 + 1 * p.2)) m))), x', y']
    rw [List.map_cons, ← k2]
    refine forL_cons (ρ1 := [a, b, .own (.dk (dkE acc)), .val (.str p.1), .val (.int p.2)]) ?_ ?_
    · rcases hb with ⟨rfl, rfl⟩ | ⟨d, e, rfl, rfl⟩
      · rfl
      · rfl
    · rw [Int.one_mul]
      iterate 6 (first | (walk_at "rd"; done) | (try walk_at "rd"; try simp only [c2, get2_dkE, putD_dkE]))
theorem times_ok (n : Nat) {one other : Ms} (hl : one.length + other.length < 64) (hf : (foldM 1 (mergeM [] one) other).length < 64) :
    run (n + 2) 9 [.val (encM one), .val (encM other)] = .ok (encM (ofP (foldM 1 (mergeM [] one) other))) [.val (encM one), .val (encM other)] := by
  have h1 := mergeM_len one []
  obtain ⟨x, y, hb, e⟩ := times_loop (a := .val (encM one)) (b := .val (encM other)) other (mergeM [] one) .no .no (by simp only [List.length_nil] at h1; omega) (.inl ⟨rfl, rfl⟩)
  have e2 := measure_of_ok n hf (.inl rfl)
  have e3 : mergeD [] (dkE one) = dkE (mergeM [] one) := mergeD_dkE one []
  show mBody 3 (m_times (run (n + 1)) (runF (n + 1))) _ = _
  unfold m_times
  unfold encM at e ⊢
  iterate 6 (first | (walk_at "rd"; done) | (try walk_at "rd"; try simp only [pairsD_enc, e3, e, e2]))
  rfl
end Mea
set_option Elab.async false
set_option linter.all false
set_option maxRecDepth 100000
set_option maxHeartbeats 4000000
namespace Mea
open PySem L2 Wk Mi
local macro_rules | `(tactic| walk_at "rd") => `(tactic| simp only [mBody, mBodyF, fin, finF, finC, mSeq, seqK, mAsg, mAsgO, mRet, mRetN, mDrop, mNext, mIf, mTest, mTru, mAnd, mOr, mNot, mB, mAndV, mOrV, mNotV, mChain, mNil, mCons, mTup, mOp2, mUn, mSl, mPart, mNoPart, mC, mVar, oE, oN, oNil, oCons, mCB, rsv, rsvs, content, lift, setv, gmNil, gmCons, gmTup, mFrz, OD.d, mIter, walkD, mRange1, mRange2, mYes, aNil, aV, aS, aT, mCall, fCall, Mi.cellOf, cellsOf, apart, aparts, back, samePars, mPar, mAug, mRaise, mRaise0, mGet2, mSetIx, mPut, mAppend, mFor, Cell.isPar, Cell.olst, Cell.odk, Cell.put, fLst, fDk, fDict, fMove, bind_ok, bind_no, bind_err, List.cons_append, List.nil_append, List.replicate_succ, List.replicate_zero, List.getElem?_cons_zero, List.getElem?_cons_succ, List.getElem?_nil, List.set_cons_zero, List.set_cons_succ, List.length_cons, List.length_nil, List.take_succ_cons, List.take_zero, List.take_nil, Option.bind_some, Option.bind_none, Option.map_some, Option.map_none, List.all_nil, List.all_cons, Bool.and_true, Bool.true_and, Bool.and_false, Bool.false_and, Bool.not_true, Bool.not_false, decide_true, decide_false, reduceIte, Bool.false_eq_true, Bool.true_eq_false, if_true, if_false, beq_self_eq_true, Nat.reduceAdd, Nat.reduceEqDiff, Nat.reduceLeDiff, dAdd, dSub, dMulH, dMul, dDiv, dMod, dPow, dGt, dLt, dLe, dGe, dIx, ixL, dNeg, dAbs, dMax, dMin, dLen, dEqH, dNeH, eqH, eqB, eqS, atI_0, atI_1, atI_2, ixN_3_0, ixN_3_2, ne_eq, Int.reduceEq, Int.reduceNe, not_false_eq_true, not_true_eq_false, Int.reduceLT, Int.reduceLE, and_true, true_and, and_false, false_and, Int.reduceToNat, lim, Mi.key, fSorted, mM1, dStarts])
def powM (nn : Int) (m : Ms) : Ms := m.foldl (fun acc p => putM acc p.1 (p.2 * nn)) []
def unP : D → Str × Int
  | .tup [.str k, .int v] => (k, v)
  | _ => ("", 0)
theorem foldl_putD (nn : Int) : ∀ (m acc : Ms), (m.map encP).foldl (fun a d => putD a (.inr (unP d).1) (.int ((unP d).2 * nn))) (dkE acc) = dkE (m.foldl (fun acc p => putM acc p.1 (p.2 * nn)) acc)
  | [], _ => rfl
  | p :: m, acc => by
    rw [List.map_cons, List.foldl_cons, List.foldl_cons]
    have e : unP (encP p) = p := rfl
    rw [e, putD_dkE, foldl_putD nn m]
theorem power_key {m : Ms} {nn : Int} (hn : nn.natAbs < 2 ^ 64) (hm : ∀ p ∈ m, p.2.natAbs < 2 ^ 64) (hl : m.length < 64) :
    fDc [2, 3] (mIter (mVar 0)) (gmTup 2 (gmCons (setv 2) (gmCons (setv 3) gmNil))) mYes (mVar 2) (mOp2 dMulH (oN 3) (oN 1)) [.val (encM m), .val (.int nn), .no, .no] = .ok (.dk (dkE (powM nn m))) [.val (encM m), .val (.int nn), .no, .no] := by
  have mem : ∀ d ∈ m.map encP, ∃ p ∈ m, d = encP p := fun d hd => by
    obtain ⟨p, hp, rfl⟩ := List.mem_map.mp hd
    exact ⟨p, hp, rfl⟩
  have key := fDc_pure (vs := [2, 3]) (mi := mIter (mVar 0)) (mg := gmTup 2 (gmCons (setv 2) (gmCons (setv 3) gmNil))) (mk := mVar 2) (me := mOp2 dMulH (oN 3) (oN 1)) (ρ := [.val (encM m), .val (.int nn), .no, .no]) (ρ1 := [.val (encM m), .val (.int nn), .no, .no]) (ds := m.map encP)
    (kd := fun d => .str (unP d).1) (kk := fun d => .inr (unP d).1) (g := fun d => .int ((unP d).2 * nn)) (fun d => [.val (encM m), .val (.int nn), .val (.str (unP d).1), .val (.int (unP d).2)]) rfl rfl (by simp) (fun d _ => ⟨rfl, rfl, rfl⟩) rfl
    (fun d hd c => by
      obtain ⟨p, hp, rfl⟩ := mem d hd
      rfl) (fun d hd c => rfl) (fun d hd => rfl) (fun d hd c => by
      obtain ⟨p, hp, rfl⟩ := mem d hd
      have c1 : (p.2.natAbs.log2 + nn.natAbs.log2 < 1000000) = True := by
        have h1 := log_small (m := nn) (k := 64) hn (by decide)
        have h2 := log_small (m := p.2) (k := 64) (hm p hp) (by decide)
        simp only [eq_iff_iff, iff_true]
        omega
      have e : unP (encP p) = p := rfl
      simp only [e]
      iterate 4 (first | (walk_at "rd"; done) | (try walk_at "rd"; try simp only [c1]))) (by rw [List.length_map]; show _ ≤ 100000; omega)
  rw [key]
  have := foldl_putD nn m []
  have e0 : dkE [] = [] := rfl
  rw [e0] at this
  rw [this]
  rfl
theorem powM_len_aux (nn : Int) : ∀ (m acc : Ms), (m.foldl (fun acc p => putM acc p.1 (p.2 * nn)) acc).length ≤ acc.length + m.length
  | [], _ => Nat.le_refl _
  | p :: m, acc => by
    have h := putM_len acc p.1 (p.2 * nn)
    have := powM_len_aux nn m (putM acc p.1 (p.2 * nn))
    rw [List.foldl_cons, List.length_cons]
    omega
theorem power_fn_ok (n : Nat) {m : Ms} {nn : Int} (hn : nn.natAbs < 2 ^ 64) (hm : ∀ p ∈ m, p.2.natAbs < 2 ^ 64) (hl : m.length < 64) :
    run (n + 2) 10 [.val (encM m), .val (.int nn)] = .ok (encM (ofP (powM nn m))) [.val (encM m), .val (.int nn)] := by
  have key := power_key hn hm hl
  have hp : (powM nn m).length < 64 := by
    have := powM_len_aux nn m []
    simp only [List.length_nil] at this
    unfold powM
    omega
  have e2 := measure_of_ok n hp (.inr rfl)
  show mBody 2 (m_power (run (n + 1)) (runF (n + 1))) _ = _
  unfold m_power
  iterate 6 (first | (walk_at "rd"; done) | (try walk_at "rd"; try simp only [key, e2]))
end Mea
set_option Elab.async false
set_option linter.all false
set_option maxRecDepth 100000
set_option maxHeartbeats 4000000
namespace Mea
open PySem L2 Wk Mi
local macro_rules | `(tactic| walk_at "rd") => `(tactic| simp only [mBody, mBodyF, fin, finF, finC, mSeq, seqK, mAsg, mAsgO, mRet, mRetN, mDrop, mNext, mIf, mTest, mTru, mAnd, mOr, mNot, mB, mAndV, mOrV, mNotV, mChain, mNil, mCons, mTup, mOp2, mUn, mSl, mPart, mNoPart, mC, mVar, oE, oN, oNil, oCons, mCB, rsv, rsvs, content, lift, setv, gmNil, gmCons, gmTup, mFrz, OD.d, mIter, walkD, mRange1, mRange2, mYes, aNil, aV, aS, aT, mCall, fCall, Mi.cellOf, cellsOf, apart, aparts, back, samePars, mPar, mAug, mRaise, mRaise0, mGet2, mSetIx, mPut, mAppend, mFor, Cell.isPar, Cell.olst, Cell.odk, Cell.put, fLst, fDk, fDict, fMove, bind_ok, bind_no, bind_err, List.cons_append, List.nil_append, List.replicate_succ, List.replicate_zero, List.getElem?_cons_zero, List.getElem?_cons_succ, List.getElem?_nil, List.set_cons_zero, List.set_cons_succ, List.length_cons, List.length_nil, List.take_succ_cons, List.take_zero, List.take_nil, Option.bind_some, Option.bind_none, Option.map_some, Option.map_none, List.all_nil, List.all_cons, Bool.and_true, Bool.true_and, Bool.and_false, Bool.false_and, Bool.not_true, Bool.not_false, decide_true, decide_false, reduceIte, Bool.false_eq_true, Bool.true_eq_false, if_true, if_false, beq_self_eq_true, Nat.reduceAdd, Nat.reduceEqDiff, Nat.reduceLeDiff, dAdd, dSub, dMulH, dMul, dDiv, dMod, dPow, dGt, dLt, dLe, dGe, dIx, ixL, dNeg, dAbs, dMax, dMin, dLen, dEqH, dNeH, eqH, eqB, eqS, atI_0, atI_1, atI_2, ixN_3_0, ixN_3_2, ne_eq, Int.reduceEq, Int.reduceNe, not_false_eq_true, not_true_eq_false, Int.reduceLT, Int.reduceLE, and_true, true_and, and_false, false_and, Int.reduceToNat, lim, Mi.key, fSorted, mM1, dStarts])
/-! ### measures as functions -/
def Nd (l : Ms) : Prop := (l.map (·.1)).Nodup
theorem lookS_nil (k : Str) : lookS [] k = 0 := rfl
theorem lookS_cons (p : Str × Int) (l : Ms) (k : Str) : lookS (p :: l) k = if p.1 = k then p.2 else lookS l k := by
  unfold lookS
  rw [List.find?_cons]
  by_cases e : p.1 = k
  · simp [e]
  · simp [e]
theorem lookS_out {l : Ms} {k : Str} (h : k ∉ l.map (·.1)) : lookS l k = 0 := by
  induction l with
  | nil => rfl
  | cons p l ih =>
    rw [List.map_cons, List.mem_cons, not_or] at h
    rw [lookS_cons, if_neg (Ne.symm h.1), ih h.2]
theorem lookS_app {l m : Ms} {k : Str} (h : k ∉ l.map (·.1)) : lookS (l ++ m) k = lookS m k := by
  induction l with
  | nil => rfl
  | cons p l ih =>
    rw [List.map_cons, List.mem_cons, not_or] at h
    rw [List.cons_append, lookS_cons, if_neg (Ne.symm h.1), ih h.2]
theorem any_key {l : Ms} {k : Str} : (l.any fun p => decide (p.1 = k)) = true ↔ k ∈ l.map (·.1) := by
  rw [List.any_eq_true, List.mem_map]
  exact ⟨fun ⟨p, h1, h2⟩ => ⟨p, h1, of_decide_eq_true h2⟩, fun ⟨p, h1, h2⟩ => ⟨p, h1, decide_eq_true h2⟩⟩
theorem putM_keys (l : Ms) (k : Str) (v : Int) : (putM l k v).map (·.1) = if k ∈ l.map (·.1) then l.map (·.1) else l.map (·.1) ++ [k] := by
  unfold putM
  by_cases h : k ∈ l.map (·.1)
  · rw [if_pos (any_key.mpr h), if_pos h, List.map_map]
    refine List.map_congr_left fun p _ => ?_
    simp only [Function.comp]
    split <;> rfl
  · rw [if_neg (fun z => h (any_key.mp z)), if_neg h, List.map_append]
    rfl
theorem putM_nd {l : Ms} (h : Nd l) (k : Str) (v : Int) : Nd (putM l k v) := by
  unfold Nd
  rw [putM_keys]
  split
  · exact h
  · rename_i z
    exact List.nodup_append.mpr ⟨h, by simp, fun a ha b hb => by
      rw [List.mem_singleton] at hb
      subst hb
      exact fun e => z (e ▸ ha)⟩
theorem lookS_map (k : Str) (v : Int) (j : Str) : ∀ l : Ms, lookS (l.map fun p => if p.1 = k then (p.1, v) else p) j = if j = k ∧ k ∈ l.map (·.1) then v else lookS l j
  | [] => by simp [lookS_nil]
  | p :: l => by
    rw [List.map_cons, lookS_cons, lookS_map k v j l, lookS_cons]
    by_cases e : p.1 = k
    · rw [if_pos e]
      by_cases z : j = k
      · subst z
        simp [e]
      · have : ¬ p.1 = j := fun y => z (y ▸ e)
        simp [z, this]
    · rw [if_neg e]
      by_cases z : p.1 = j
      · have : ¬ j = k := fun y => e (z.trans y)
        simp [z, this]
      · have hm : (k ∈ (p :: l).map (·.1)) ↔ k ∈ l.map (·.1) := by
          rw [List.map_cons, List.mem_cons]
          exact ⟨fun h => h.elim (fun y => absurd y.symm e) id, .inr⟩
        simp only [z, if_false, hm]
theorem lookS_put (l : Ms) (k : Str) (v : Int) (j : Str) : lookS (putM l k v) j = if j = k then v else lookS l j := by
  unfold putM
  by_cases h : k ∈ l.map (·.1)
  · rw [if_pos (any_key.mpr h), lookS_map]
    by_cases z : j = k
    · rw [if_pos ⟨z, h⟩, if_pos z]
    · rw [if_neg (fun y => z y.1), if_neg z]
  · rw [if_neg (fun z => h (any_key.mp z))]
    by_cases z : j = k
    · subst z
      rw [lookS_app h, lookS_cons, if_pos rfl, if_pos rfl]
    · rw [if_neg z]
      by_cases m : j ∈ l.map (·.1)
      · clear h
        induction l with
        | nil => simp at m
        | cons p l ih =>
          rw [List.cons_append, lookS_cons, lookS_cons]
          by_cases y : p.1 = j
          · rw [if_pos y, if_pos y]
          · rw [if_neg y, if_neg y]
            refine ih ?_
            rw [List.map_cons, List.mem_cons] at m
            exact m.elim (fun q => absurd q.symm y) id
      · rw [lookS_app m, lookS_cons, if_neg (Ne.symm z), lookS_nil, lookS_out m]
theorem foldM_nd (n : Int) : ∀ (m l : Ms), Nd l → Nd (foldM n l m)
  | [], _, h => h
  | p :: m, l, h => foldM_nd n m _ (putM_nd h _ _)
theorem look_foldM (n : Int) (k : Str) : ∀ (m l : Ms), Nd m → lookS (foldM n l m) k = lookS l k + n * lookS m k
  | [], l, _ => by show lookS l k = _; rw [lookS_nil]; omega
  | p :: m, l, h => by
    have h' := List.nodup_cons.mp (show (p.1 :: m.map (·.1)).Nodup from h)
    show lookS (foldM n (putM l p.1 (lookS l p.1 + n * p.2)) m) k = _
    rw [look_foldM n k m _ h'.2, lookS_put, lookS_cons]
    by_cases e : k = p.1
    · subst e
      rw [if_pos rfl, if_pos rfl, lookS_out h'.1]
      omega
    · rw [if_neg e, if_neg (Ne.symm e)]
theorem powM_aux (n : Int) (k : Str) : ∀ (m l : Ms), Nd m → Nd l → Nd (m.foldl (fun acc p => putM acc p.1 (p.2 * n)) l) ∧ lookS (m.foldl (fun acc p => putM acc p.1 (p.2 * n)) l) k = if k ∈ m.map (·.1) then n * lookS m k else lookS l k
  | [], l, _, hl => ⟨hl, by simp⟩
  | p :: m, l, h, hl => by
    have h' := List.nodup_cons.mp (show (p.1 :: m.map (·.1)).Nodup from h)
    obtain ⟨a, b⟩ := powM_aux n k m (putM l p.1 (p.2 * n)) h'.2 (putM_nd hl _ _)
    refine ⟨a, ?_⟩
    rw [List.foldl_cons, b, lookS_put, lookS_cons, List.map_cons]
    by_cases e : k = p.1
    · subst e
      rw [if_neg h'.1, if_pos rfl, if_pos rfl, if_pos (List.mem_cons_self ..), Int.mul_comm]
    · rw [if_neg e, if_neg (Ne.symm e)]
      by_cases z : k ∈ m.map (·.1)
      · rw [if_pos z, if_pos (List.mem_cons_of_mem _ z)]
      · rw [if_neg z, if_neg (by rw [List.mem_cons]; exact fun y => y.elim e z)]
theorem powM_nd (n : Int) {m : Ms} (h : Nd m) : Nd (powM n m) := (powM_aux n "" m [] h List.nodup_nil).1
theorem look_powM (n : Int) {m : Ms} (h : Nd m) (k : Str) : lookS (powM n m) k = n * lookS m k := by
  show lookS (m.foldl _ []) k = _
  rw [(powM_aux n k m [] h List.nodup_nil).2]
  split
  · rfl
  · rename_i z
    rw [lookS_nil, lookS_out z, Int.mul_zero]
/-- the measure of a dict hangs on its numbers alone -/
theorem ofP_ext {l l' : Ms} (h : Nd l) (h' : Nd l') (e : ∀ k, lookS l k = lookS l' k) : ofP l = ofP l' := by
  have key : (sortS (l.map (·.1))).filter (fun k => decide (lookS l k ≠ 0)) = (sortS (l'.map (·.1))).filter (fun k => decide (lookS l k ≠ 0)) := by
    have nd : ∀ {m : Ms}, Nd m → (sortS (m.map (·.1))).Nodup := fun {m} q => (sortS_perm _).nodup_iff.mpr q
    refine List.Perm.eq_of_pairwise (le := fun a b => leS a b = true) (fun _ _ _ _ => leS_anti) ((sortS_pw _).filter _) ((sortS_pw _).filter _) ?_
    refine (List.perm_ext_iff_of_nodup ((nd h).filter _) ((nd h').filter _)).mpr fun k => ?_
    rw [List.mem_filter, List.mem_filter, (sortS_perm _).mem_iff, (sortS_perm _).mem_iff]
    have a : lookS l k ≠ 0 → k ∈ l.map (·.1) := fun q => Decidable.byContradiction fun z => q (lookS_out z)
    have b : lookS l k ≠ 0 → k ∈ l'.map (·.1) := fun q => Decidable.byContradiction fun z => q ((e k).trans (lookS_out z))
    constructor
    · rintro ⟨_, q⟩
      exact ⟨b (of_decide_eq_true q), q⟩
    · rintro ⟨_, q⟩
      exact ⟨a (of_decide_eq_true q), q⟩
  have ef : (fun k => decide (lookS l' k ≠ 0)) = fun k => decide (lookS l k ≠ 0) := by
    funext k
    rw [e k]
  have eg : (fun k => (k, lookS l' k)) = fun k => (k, lookS l k) := by
    funext k
    rw [e k]
  unfold ofP
  rw [ef, eg, key]
theorem ofP_keys (l : Ms) : (ofP l).map (·.1) = (sortS (l.map (·.1))).filter fun k => decide (lookS l k ≠ 0) := by
  unfold ofP
  rw [List.map_map]
  exact List.map_id _
theorem ofP_nd {l : Ms} (h : Nd l) : Nd (ofP l) := by
  unfold Nd
  rw [ofP_keys]
  exact ((sortS_perm _).nodup_iff.mpr h).filter _
theorem look_pairs (f : Str → Int) (k : Str) : ∀ ks : List Str, lookS (ks.map fun j => (j, f j)) k = if k ∈ ks then f k else 0
  | [] => by simp [lookS_nil]
  | j :: ks => by
    rw [List.map_cons, lookS_cons, look_pairs f k ks]
    by_cases e : j = k
    · subst e; simp
    · have : ¬ k = j := fun y => e y.symm
      simp [e, this]
theorem look_ofP {l : Ms} (k : Str) : lookS (ofP l) k = lookS l k := by
  unfold ofP
  rw [look_pairs (lookS l)]
  split
  · rfl
  · rename_i z
    rw [List.mem_filter, (sortS_perm _).mem_iff] at z
    by_cases q : lookS l k = 0
    · exact q.symm
    · exact absurd ⟨Decidable.byContradiction fun y => q (lookS_out y), decide_eq_true q⟩ z
theorem mergeM_app : ∀ (m l : Ms), Nd (l ++ m) → mergeM l m = l ++ m
  | [], l, _ => (List.append_nil l).symm
  | p :: m, l, h => by
    have h2 : (l.map (·.1) ++ (p.1 :: m.map (·.1))).Nodup := by
      have := h
      unfold Nd at this
      rw [List.map_append] at this
      exact this
    have hp : p.1 ∉ l.map (·.1) := fun z => (List.nodup_append.mp h2).2.2 _ z _ (List.mem_cons_self ..) rfl
    show mergeM (putM l p.1 p.2) m = _
    have e : putM l p.1 p.2 = l ++ [p] := by
      unfold putM
      rw [if_neg (fun z => hp (any_key.mp z))]
    rw [e, mergeM_app m (l ++ [p]) (by rw [List.append_assoc]; exact h), List.append_assoc]
    rfl
theorem mergeM_nil {m : Ms} (h : Nd m) : mergeM [] m = m := mergeM_app m [] h
end Mea
set_option Elab.async false
set_option linter.all false
set_option maxRecDepth 100000
set_option maxHeartbeats 4000000
namespace Mea
open PySem L2 Wk Mi
local macro_rules | `(tactic| walk_at "rd") => `(tactic| simp only [mBody, mBodyF, fin, finF, finC, mSeq, seqK, mAsg, mAsgO, mRet, mRetN, mDrop, mNext, mIf, mTest, mTru, mAnd, mOr, mNot, mB, mAndV, mOrV, mNotV, mChain, mNil, mCons, mTup, mOp2, mUn, mSl, mPart, mNoPart, mC, mVar, oE, oN, oNil, oCons, mCB, rsv, rsvs, content, lift, setv, gmNil, gmCons, gmTup, mFrz, OD.d, mIter, walkD, mRange1, mRange2, mYes, aNil, aV, aS, aT, mCall, fCall, Mi.cellOf, cellsOf, apart, aparts, back, samePars, mPar, mAug, mRaise, mRaise0, mGet2, mSetIx, mPut, mAppend, mFor, Cell.isPar, Cell.olst, Cell.odk, Cell.put, fLst, fDk, fDict, fMove, bind_ok, bind_no, bind_err, List.cons_append, List.nil_append, List.replicate_succ, List.replicate_zero, List.getElem?_cons_zero, List.getElem?_cons_succ, List.getElem?_nil, List.set_cons_zero, List.set_cons_succ, List.length_cons, List.length_nil, List.take_succ_cons, List.take_zero, List.take_nil, Option.bind_some, Option.bind_none, Option.map_some, Option.map_none, List.all_nil, List.all_cons, Bool.and_true, Bool.true_and, Bool.and_false, Bool.false_and, Bool.not_true, Bool.not_false, decide_true, decide_false, reduceIte, Bool.false_eq_true, Bool.true_eq_false, if_true, if_false, beq_self_eq_true, Nat.reduceAdd, Nat.reduceEqDiff, Nat.reduceLeDiff, dAdd, dSub, dMulH, dMul, dDiv, dMod, dPow, dGt, dLt, dLe, dGe, dIx, ixL, dNeg, dAbs, dMax, dMin, dLen, dEqH, dNeH, eqH, eqB, eqS, atI_0, atI_1, atI_2, ixN_3_0, ixN_3_2, ne_eq, Int.reduceEq, Int.reduceNe, not_false_eq_true, not_true_eq_false, Int.reduceLT, Int.reduceLE, and_true, true_and, and_false, false_and, Int.reduceToNat, lim, Mi.key, fSorted, mM1, dStarts])
def fac (z : Str) : Prop := ∃ q ∈ quotes, ∃ w ∈ words, z = q ++ w
structure DG (l : Ms) (c : Nat) : Prop where
  nd : Nd l
  len : l.length ≤ c
  all : ∀ p ∈ l, fac p.1 ∧ p.2 ∈ powersL
theorem DG.put {l : Ms} {c : Nat} (h : DG l c) {k : Str} {v : Int} (hk : fac k) (hv : v ∈ powersL) : DG (putM l k v) (c + 1) := by
  refine ⟨putM_nd h.nd k v, Nat.le_trans (putM_len l k v) (by have := h.len; omega), fun p hp => ?_⟩
  unfold putM at hp
  split at hp
  · obtain ⟨q, hq, rfl⟩ := List.mem_map.mp hp
    split
    · exact ⟨(h.all q hq).1, hv⟩
    · exact h.all q hq
  · rcases List.mem_append.mp hp with z | z
    · exact h.all p z
    · rw [List.mem_singleton] at z
      subst z
      exact ⟨hk, hv⟩
def plain1 (x : Cell) : Prop := x = .no ∨ ∃ d, x = .val d
theorem meas_loop {b : Cell} {n k : Nat} : ∀ (js : List D) (acc : Ms) (c : Nat) (o : OD) (x : Cell), Bx (k + 3 * js.length) o → DG acc c → c + js.length ≤ 1000 → plain1 x →
    ∃ (o' : OD) (acc' : Ms) (x' : Cell), Bx k o' ∧ DG acc' (c + js.length) ∧ plain1 x' ∧ forL (setv 3) (mPut 2 (mCall 1 (run (n + 3) 24) (aS 0 aNil)) (mCall 1 (run (n + 3) 25) (aS 0 aNil))) js [.par o, b, .own (.dk (dkE acc)), x] = .ok .nx [.par o', b, .own (.dk (dkE acc')), x']
  | [], acc, c, o, x, h1, h2, _, h4 => ⟨o, acc, x, h1, h2, h4, rfl⟩
  | d :: js, acc, c, o, x, h1, h2, h3, h4 => by
    rw [List.length_cons] at h1 h3 ⊢
    obtain ⟨o1, v, g1, g2, g3⟩ := power_ok (k := k + 3 * js.length + 2) (h1.mono (by omega)) (n + 1)
    obtain ⟨o2, q, z, f1, f2, f3, f4⟩ := factor_ok (k := k + 3 * js.length) g1 n
    have hd := h2.put (k := q ++ z) (v := v) ⟨q, f2, z, f3, rfl⟩ g2
    obtain ⟨o', acc', x', a1, a2, a3, a4⟩ := meas_loop (b := b) (n := n) (k := k) js (putM acc (q ++ z) v) (c + 1) o2 (.val d) f1 hd (by omega) (.inr ⟨_, rfl⟩)
    have e : c + (js.length + 1) = c + 1 + js.length := by omega
    refine ⟨o', acc', x', a1, by rw [e]; exact a2, a3, ?_⟩
    rw [← a4]
    have c2 : ((dkE acc).length < 100000) = True := by
      have := h2.len
      unfold dkE
      rw [List.length_map]
      simp only [eq_iff_iff, iff_true]
      omega
    refine forL_cons (ρ1 := [.par o, b, .own (.dk (dkE acc)), .val d]) ?_ ?_
    · rcases h4 with rfl | ⟨d', rfl⟩
      · rfl
      · rfl
    · iterate 6 (first | (walk_at "rd"; done) | (try walk_at "rd"; try simp only [g3, f4, c2, putD_dkE]))
theorem measure_ok (n k most : Nat) (hm : most < 20) {o : OD} (h : Bx (k + 1 + 3 * most) o) : ∃ (o' : OD) (l : Ms), Bx k o' ∧ DG l most ∧ run (n + 4) 26 [.par o, .val (.int (most : Nat))] = .ok (encM (ofP l)) [.par o', .val (.int (most : Nat))] := by
  obtain ⟨o1, r, h1, h2, h3, h4⟩ := take_ok (k := k + 3 * most) (h.mono (by omega)) (n + 2) ((most : Nat) + 1) (by omega) (by omega)
  have hr : (rngD 0 r.toNat).length = r.toNat := by unfold rngD; rw [List.length_map, List.length_range]
  obtain ⟨o2, l, x, a1, a2, a3, a4⟩ := meas_loop (b := .val (.int (most : Nat))) (n := n) (k := k) (rngD 0 r.toNat) [] 0 o1 .no (h1.mono (by rw [hr]; omega)) ⟨List.nodup_nil, Nat.le_refl _, fun p hp => by simp at hp⟩ (by rw [hr]; omega) (.inl rfl)
  rw [hr, Nat.zero_add] at a2
  have dg : DG l most := ⟨a2.nd, Nat.le_trans a2.len (by omega), a2.all⟩
  refine ⟨o2, l, a1, dg, ?_⟩
  have e2 := of_ok (n + 2) (l := l) (by have := dg.len; omega) (.inl rfl)
  have c1 : (-(2 ^ 62) ≤ r ∧ r < 2 ^ 62) = True := by
    simp only [eq_iff_iff, iff_true]
    omega
  have e0 : dkE [] = [] := rfl
  rw [e0] at a4
  show mBody 2 (m_l_measure (run (n + 3)) (runF (n + 3))) _ = _
  unfold m_l_measure
  iterate 7 (first | (walk_at "rd"; done) | (try walk_at "rd"; try simp only [h4, c1, a4, e2]))
end Mea
set_option Elab.async false
set_option linter.all false
set_option maxRecDepth 100000
set_option maxHeartbeats 4000000
namespace Mea
open PySem L2 Wk Mi
local macro_rules | `(tactic| walk_at "rd") => `(tactic| simp only [mBody, mBodyF, fin, finF, finC, mSeq, seqK, mAsg, mAsgO, mRet, mRetN, mDrop, mNext, mIf, mTest, mTru, mAnd, mOr, mNot, mB, mAndV, mOrV, mNotV, mChain, mNil, mCons, mTup, mOp2, mUn, mSl, mPart, mNoPart, mC, mVar, oE, oN, oNil, oCons, mCB, rsv, rsvs, content, lift, setv, gmNil, gmCons, gmTup, mFrz, OD.d, mIter, walkD, mRange1, mRange2, mYes, aNil, aV, aS, aT, mCall, fCall, Mi.cellOf, cellsOf, apart, aparts, back, samePars, mPar, mAug, mRaise, mRaise0, mGet2, mSetIx, mPut, mAppend, mFor, Cell.isPar, Cell.olst, Cell.odk, Cell.put, fLst, fDk, fDict, fMove, bind_ok, bind_no, bind_err, List.cons_append, List.nil_append, List.replicate_succ, List.replicate_zero, List.getElem?_cons_zero, List.getElem?_cons_succ, List.getElem?_nil, List.set_cons_zero, List.set_cons_succ, List.length_cons, List.length_nil, List.take_succ_cons, List.take_zero, List.take_nil, Option.bind_some, Option.bind_none, Option.map_some, Option.map_none, List.all_nil, List.all_cons, Bool.and_true, Bool.true_and, Bool.and_false, Bool.false_and, Bool.not_true, Bool.not_false, decide_true, decide_false, reduceIte, Bool.false_eq_true, Bool.true_eq_false, if_true, if_false, beq_self_eq_true, Nat.reduceAdd, Nat.reduceEqDiff, Nat.reduceLeDiff, dAdd, dSub, dMulH, dMul, dDiv, dMod, dPow, dGt, dLt, dLe, dGe, dIx, ixL, dNeg, dAbs, dMax, dMin, dLen, dEqH, dNeH, eqH, eqB, eqS, atI_0, atI_1, atI_2, ixN_3_0, ixN_3_2, ne_eq, Int.reduceEq, Int.reduceNe, not_false_eq_true, not_true_eq_false, Int.reduceLT, Int.reduceLE, and_true, true_and, and_false, false_and, Int.reduceToNat, lim, Mi.key, fSorted, mM1, dStarts])
/-! ### texts as lists of signs -/
def S (l : List Nat) : Str := ⟨l.toArray⟩
theorem S_list (z : Str) : S z.cps.toList = z := by cases z; rfl
theorem S_len (l : List Nat) : (S l).length = l.length := by show l.toArray.size = _; simp
theorem S_cps (l : List Nat) : (S l).cps.toList = l := rfl
theorem cut_to (l : List Nat) (j : Nat) : cutS (S l) none (some (j : Int)) = S (l.take j) := by
  unfold cutS
  rw [HT.sIx_nat, S_len, S_cps]
  have e : HT.sIx l.length 0 none = 0 := rfl
  rw [e, List.drop_zero, Nat.sub_zero]
  show S _ = _
  congr 1
  by_cases h : j ≤ l.length
  · rw [Nat.min_eq_left h]
  · rw [Nat.min_eq_right (by omega), List.take_of_length_le (Nat.le_refl _), List.take_of_length_le (by omega)]
theorem cut_from (l : List Nat) (j : Nat) : cutS (S l) (some (j : Int)) none = S (l.drop j) := by
  unfold cutS
  rw [HT.sIx_nat, S_len, S_cps]
  have e : HT.sIx l.length l.length none = l.length := rfl
  rw [e]
  show S _ = _
  congr 1
  by_cases h : j ≤ l.length
  · rw [Nat.min_eq_left h, List.take_of_length_le (by rw [List.length_drop]; omega)]
  · rw [Nat.min_eq_right (by omega), Nat.sub_self, List.take_zero, List.drop_of_length_le (by omega)]
def letters : Str := "abcdefghijklmnopqrstuvwxyz"
def isL (c : Nat) : Bool := decide (c ∈ letters.cps.toList)
theorem atI_nat {α : Type} {l : List α} {j : Nat} (h : j < l.length) : atI l (j : Int) = some l[j] := by
  unfold atI ixN
  rw [if_pos (by omega), if_pos (by omega)]
  show l[(j : Int).toNat]? = _
  rw [Int.toNat_natCast, List.getElem?_eq_getElem h]
theorem takeWhile_lt {p : Nat → Bool} : ∀ (l : List Nat) (j : Nat) (h : j < (l.takeWhile p).length), ∃ h' : j < l.length, p l[j] = true
  | [], j, h => by simp at h
  | c :: l, j, h => by
    rw [List.takeWhile_cons] at h
    split at h
    · rename_i e
      cases j with
      | zero => exact ⟨by simp, e⟩
      | succ j =>
        obtain ⟨h1, h2⟩ := takeWhile_lt l j (by simpa using h)
        exact ⟨by simpa using h1, by simpa using h2⟩
    · simp at h
theorem takeWhile_end {p : Nat → Bool} : ∀ (l : List Nat) (h : (l.takeWhile p).length < l.length), p l[(l.takeWhile p).length] = false
  | [], h => by simp at h
  | c :: l, h => by
    by_cases e : p c = true
    · have ih := takeWhile_end (p := p) l (by simpa [List.takeWhile_cons, e] using h)
      simpa [List.takeWhile_cons, e] using ih
    · simpa [List.takeWhile_cons, e] using e
theorem take_takeWhile {p : Nat → Bool} (l : List Nat) : l.take (l.takeWhile p).length = l.takeWhile p := by
  induction l with
  | nil => rfl
  | cons c l ih =>
    by_cases e : p c = true
    · simp [List.takeWhile_cons, e, ih]
    · simp [List.takeWhile_cons, e]
theorem letters_ok (n : Nat) (l : List Nat) (hl : l.length ≤ 1000) : run (n + 1) 1 [.val (.str (S l))] = .ok (.str (S (l.takeWhile isL))) [.val (.str (S l))] := by
  have hz : (S l).length = l.length := S_len l
  have c0 : ((S l).length ≤ 100000) = True := by simp only [eq_iff_iff, iff_true]; omega
  have hk : (l.takeWhile isL).length ≤ l.length := by
    have := congrArg List.length (take_takeWhile (p := isL) l)
    rw [List.length_take] at this
    omega
  have loop := whileL_run (mc := mAnd (mTest (mOp2 dLt (oN 1) (oE (mCB dLen (oCons (oN 0) oNil))))) (mTest (mOp2 dIn (oE (mOp2 dIx (oN 0) (oN 1))) (oE (mC (.str "abcdefghijklmnopqrstuvwxyz"))))))
    (mb := mAug 1 (· + ·) (mC (.int 1))) (fun j => [.val (.str (S l)), .val (.int (j : Nat))]) (l.takeWhile isL).length 0 wf (by unfold wf; omega) (fun j _ hj => ?_) ?_
  · have e0 : (0 : Nat) + (l.takeWhile isL).length = (l.takeWhile isL).length := Nat.zero_add _
    rw [e0] at loop
    have loop' := loop
    simp only [Int.natCast_zero, Int.ofNat_zero, Int.cast_ofNat_Int] at loop'
    show mBody 1 (m_letters_of (run n) (runF n)) _ = _
    unfold m_letters_of
    have cu : cutS (S l) none (some ((l.takeWhile isL).length : Int)) = S (l.takeWhile isL) := by rw [cut_to, take_takeWhile]
    iterate 5 (first | (walk_at "rd"; done) | (try walk_at "rd"; try simp only [loop', c0, dSl, cu, if_true]))
  · obtain ⟨h1, h2⟩ := takeWhile_lt (p := isL) l j (by omega)
    have d1 : decide ((j : Int) < ((S l).length : Int)) = true := by rw [hz]; exact decide_eq_true (by omega)
    have a1 : atI (S l).cps.toList (j : Int) = some l[j] := atI_nat h1
    have h3 : decide (l[j] ∈ (Str.ofString "abcdefghijklmnopqrstuvwxyz").cps.toList) = true := h2
    refine ⟨?_, ?_⟩
    · iterate 6 (first | (walk_at "rd"; done) | (try walk_at "rd"; try simp only [c0, d1, a1, dIn, inB, h3]))
    · iterate 3 (first | (walk_at "rd"; done) | (try walk_at "rd"))
      rfl
  · rw [Nat.zero_add]
    by_cases h : (l.takeWhile isL).length < l.length
    · have d1 : decide (((l.takeWhile isL).length : Int) < ((S l).length : Int)) = true := by rw [hz]; exact decide_eq_true (by omega)
      have a1 : atI (S l).cps.toList ((l.takeWhile isL).length : Int) = some l[(l.takeWhile isL).length] := atI_nat h
      have h3 : decide (l[(l.takeWhile isL).length] ∈ (Str.ofString "abcdefghijklmnopqrstuvwxyz").cps.toList) = false := takeWhile_end l h
      iterate 6 (first | (walk_at "rd"; done) | (try walk_at "rd"; try simp only [c0, d1, a1, dIn, inB, h3]))
    · have d1 : decide (((l.takeWhile isL).length : Int) < ((S l).length : Int)) = false := by rw [hz]; exact decide_eq_false (by omega)
      iterate 6 (first | (walk_at "rd"; done) | (try walk_at "rd"; try simp only [c0, d1]))
end Mea
set_option Elab.async false
set_option linter.all false
set_option maxRecDepth 100000
set_option maxHeartbeats 4000000
namespace Mea
open PySem L2 Wk Mi
local macro_rules | `(tactic| walk_at "rd") => `(tactic| simp only [mBody, mBodyF, fin, finF, finC, mSeq, seqK, mAsg, mAsgO, mRet, mRetN, mDrop, mNext, mIf, mTest, mTru, mAnd, mOr, mNot, mB, mAndV, mOrV, mNotV, mChain, mNil, mCons, mTup, mOp2, mUn, mSl, mPart, mNoPart, mC, mVar, oE, oN, oNil, oCons, mCB, rsv, rsvs, content, lift, setv, gmNil, gmCons, gmTup, mFrz, OD.d, mIter, walkD, mRange1, mRange2, mYes, aNil, aV, aS, aT, mCall, fCall, Mi.cellOf, cellsOf, apart, aparts, back, samePars, mPar, mAug, mRaise, mRaise0, mGet2, mSetIx, mPut, mAppend, mFor, Cell.isPar, Cell.olst, Cell.odk, Cell.put, fLst, fDk, fDict, fMove, bind_ok, bind_no, bind_err, List.cons_append, List.nil_append, List.replicate_succ, List.replicate_zero, List.getElem?_cons_zero, List.getElem?_cons_succ, List.getElem?_nil, List.set_cons_zero, List.set_cons_succ, List.length_cons, List.length_nil, List.take_succ_cons, List.take_zero, List.take_nil, Option.bind_some, Option.bind_none, Option.map_some, Option.map_none, List.all_nil, List.all_cons, Bool.and_true, Bool.true_and, Bool.and_false, Bool.false_and, Bool.not_true, Bool.not_false, decide_true, decide_false, reduceIte, Bool.false_eq_true, Bool.true_eq_false, if_true, if_false, beq_self_eq_true, Nat.reduceAdd, Nat.reduceEqDiff, Nat.reduceLeDiff, dAdd, dSub, dMulH, dMul, dDiv, dMod, dPow, dGt, dLt, dLe, dGe, dIx, ixL, dNeg, dAbs, dMax, dMin, dLen, dEqH, dNeH, eqH, eqB, eqS, atI_0, atI_1, atI_2, ixN_3_0, ixN_3_2, ne_eq, Int.reduceEq, Int.reduceNe, not_false_eq_true, not_true_eq_false, Int.reduceLT, Int.reduceLE, and_true, true_and, and_false, false_and, Int.reduceToNat, lim, Mi.key, fSorted, mM1, dStarts])
def digitsS : Str := "0123456789"
def isD (c : Nat) : Bool := decide (c ∈ digitsS.cps.toList)
def gD : D → D
  | .str z => match z.cps.toList with
    | [c] => .bl (isD c)
    | _ => .bl false
  | _ => .bl false
theorem bls_map : ∀ d : List Nat, bls ((strL (S d)).map gD) = some (d.map isD)
  | [] => rfl
  | c :: d => by
    have e : strL (S (c :: d)) = .str ⟨#[c]⟩ :: strL (S d) := rfl
    rw [e, List.map_cons]
    have e2 : gD (.str ⟨#[c]⟩) = .bl (isD c) := rfl
    rw [e2]
    unfold bls
    rw [bls_map d]
    rfl
/-- the text of a word, perhaps one of the own words -/
def begunW (l : List Nat) : Bool :=
  let k := (l.takeWhile isL).length
  decide (1 ≤ k ∧ k ≤ 6) && decide ((l.drop k).length ≤ 3) && (l.drop k).all isD && !Txt.startswith (S (l.drop k)) "0"
theorem begunW_ok (n : Nat) (l : List Nat) (hl : l.length ≤ 1000) : run (n + 2) 2 [.val (.str (S l))] = .ok (.bl (begunW l)) [.val (.str (S l))] := by
  have e1 := letters_ok n l hl
  generalize hk : (l.takeWhile isL) = a at e1
  generalize hd : l.drop a.length = d
  have hb : begunW l = (decide (1 ≤ a.length ∧ a.length ≤ 6) && decide (d.length ≤ 3) && d.all isD && !Txt.startswith (S d) "0") := by
    unfold begunW
    simp only [hk, hd]
  have hdl : d.length ≤ l.length := by rw [← hd, List.length_drop]; omega
  have hal : a.length ≤ l.length := by
    have := congrArg List.length (take_takeWhile (p := isL) l)
    rw [List.length_take, hk] at this
    omega
  have c0 : ((S l).length ≤ 100000) = True := by rw [S_len]; simp only [eq_iff_iff, iff_true]; omega
  have c1 : ((S a).length ≤ 100000) = True := by rw [S_len]; simp only [eq_iff_iff, iff_true]; omega
  have c2 : ((S d).length ≤ 100000) = True := by rw [S_len]; simp only [eq_iff_iff, iff_true]; omega
  have cu : cutS (S l) (some ((S a).length : Int)) none = S d := by rw [S_len, cut_from, hd]
  have comp : ∀ x : Cell, plain1 x → fLc [3] (mIter (mVar 2)) (setv 3) mYes (mOp2 dIn (oN 3) (oE (mC (.str "0123456789")))) [.val (.str (S l)), .val (.str (S a)), .val (.str (S d)), .no] = .ok (.lst ((strL (S d)).map gD)) [.val (.str (S l)), .val (.str (S a)), .val (.str (S d)), .no] := by
    intro x _
    have key := fLc_pure (vs := [3]) (mi := mIter (mVar 2)) (mg := setv 3) (mt := mYes) (me := mOp2 dIn (oN 3) (oE (mC (.str "0123456789")))) (ρ := [.val (.str (S l)), .val (.str (S a)), .val (.str (S d)), .no]) (ρ1 := [.val (.str (S l)), .val (.str (S a)), .val (.str (S d)), .no]) (ds := strL (S d)) (p := fun _ => true) (g := gD)
      (fun x => [.val (.str (S l)), .val (.str (S a)), .val (.str (S d)), .val x]) rfl rfl (by simp) (fun _ _ => ⟨rfl, rfl, rfl⟩) rfl (fun _ _ _ => rfl) (fun _ _ _ => rfl) (fun x hx _ c => by
        unfold strL at hx
        obtain ⟨j, hj, rfl⟩ := List.mem_map.mp hx
        rfl) (by unfold strL; rw [List.length_map, S_cps]; show _ ≤ 100000; omega)
    rw [key, List.filter_eq_self.mpr fun _ _ => rfl]
  have cm := comp .no (.inl rfl)
  have al : dAll [.lst ((strL (S d)).map gD)] = some (.bl (d.all isD)) := by
    unfold dAll
    simp only [bls_map, Option.map_some, List.all_map, Function.id_comp]
  rw [hb]
  show mBody 3 (m_is_begun_word (run (n + 1)) (runF (n + 1))) _ = _
  unfold m_is_begun_word
  have q1 : ((S a).length : Int) = (a.length : Int) := by rw [S_len]
  have q2 : ((S d).length : Int) = (d.length : Int) := by rw [S_len]
  by_cases t1 : 1 ≤ a.length ∧ a.length ≤ 6
  · have u1 : decide ((1 : Int) ≤ (S a).length) = true := by rw [q1]; exact decide_eq_true (by omega)
    have u2 : decide (((S a).length : Int) ≤ 6) = true := by rw [q1]; exact decide_eq_true (by omega)
    have v1 : decide (1 ≤ a.length ∧ a.length ≤ 6) = true := decide_eq_true t1
    by_cases t2 : d.length ≤ 3
    · have u3 : decide ((3 : Int) < (S d).length) = false := by rw [q2]; exact decide_eq_false (by omega)
      have v2 : decide (d.length ≤ 3) = true := decide_eq_true t2
      cases t3 : d.all isD with
      | false =>
        rw [t3] at al
        iterate 16 (first | (walk_at "rd"; done) | (try walk_at "rd"; try simp only [e1, c0, c1, c2, dSl, cu, u1, u2, u3, v1, v2, cm, al, t3, if_true]))
      | true =>
        rw [t3] at al
        iterate 16 (first | (walk_at "rd"; done) | (try walk_at "rd"; try simp only [e1, c0, c1, c2, dSl, cu, u1, u2, u3, v1, v2, cm, al, t3, if_true]))
    · have u3 : decide ((3 : Int) < (S d).length) = true := by rw [q2]; exact decide_eq_true (by omega)
      have v2 : decide (d.length ≤ 3) = false := decide_eq_false t2
      iterate 16 (first | (walk_at "rd"; done) | (try walk_at "rd"; try simp only [e1, c0, c1, c2, dSl, cu, u1, u2, u3, v1, v2, if_true]))
  · have v1 : decide (1 ≤ a.length ∧ a.length ≤ 6) = false := decide_eq_false t1
    by_cases t4 : 1 ≤ a.length
    · have u1 : decide ((1 : Int) ≤ (S a).length) = true := by rw [q1]; exact decide_eq_true (by omega)
      have u2 : decide (((S a).length : Int) ≤ 6) = false := by rw [q1]; exact decide_eq_false (by omega)
      iterate 16 (first | (walk_at "rd"; done) | (try walk_at "rd"; try simp only [e1, c0, c1, c2, dSl, cu, u1, u2, v1, if_true]))
    · have u1 : decide ((1 : Int) ≤ (S a).length) = false := by rw [q1]; exact decide_eq_false (by omega)
      iterate 16 (first | (walk_at "rd"; done) | (try walk_at "rd"; try simp only [e1, c0, c1, c2, dSl, cu, u1, v1, if_true]))
end Mea
set_option Elab.async false
set_option linter.all false
set_option maxRecDepth 100000
set_option maxHeartbeats 4000000
namespace Mea
open PySem L2 Wk Mi
local macro_rules | `(tactic| walk_at "rd") => `(tactic| simp only [mBody, mBodyF, fin, finF, finC, mSeq, seqK, mAsg, mAsgO, mRet, mRetN, mDrop, mNext, mIf, mTest, mTru, mAnd, mOr, mNot, mB, mAndV, mOrV, mNotV, mChain, mNil, mCons, mTup, mOp2, mUn, mSl, mPart, mNoPart, mC, mVar, oE, oN, oNil, oCons, mCB, rsv, rsvs, content, lift, setv, gmNil, gmCons, gmTup, mFrz, OD.d, mIter, walkD, mRange1, mRange2, mYes, aNil, aV, aS, aT, mCall, fCall, Mi.cellOf, cellsOf, apart, aparts, back, samePars, mPar, mAug, mRaise, mRaise0, mGet2, mSetIx, mPut, mAppend, mFor, Cell.isPar, Cell.olst, Cell.odk, Cell.put, fLst, fDk, fDict, fMove, bind_ok, bind_no, bind_err, List.cons_append, List.nil_append, List.replicate_succ, List.replicate_zero, List.getElem?_cons_zero, List.getElem?_cons_succ, List.getElem?_nil, List.set_cons_zero, List.set_cons_succ, List.length_cons, List.length_nil, List.take_succ_cons, List.take_zero, List.take_nil, Option.bind_some, Option.bind_none, Option.map_some, Option.map_none, List.all_nil, List.all_cons, Bool.and_true, Bool.true_and, Bool.and_false, Bool.false_and, Bool.not_true, Bool.not_false, decide_true, decide_false, reduceIte, Bool.false_eq_true, Bool.true_eq_false, if_true, if_false, beq_self_eq_true, Nat.reduceAdd, Nat.reduceEqDiff, Nat.reduceLeDiff, dAdd, dSub, dMulH, dMul, dDiv, dMod, dPow, dGt, dLt, dLe, dGe, dIx, ixL, dNeg, dAbs, dMax, dMin, dLen, dEqH, dNeH, eqH, eqB, eqS, atI_0, atI_1, atI_2, ixN_3_0, ixN_3_2, ne_eq, Int.reduceEq, Int.reduceNe, not_false_eq_true, not_true_eq_false, Int.reduceLT, Int.reduceLE, and_true, true_and, and_false, false_and, Int.reduceToNat, lim, Mi.key, fSorted, mM1, dStarts])
def ownW : List Str := ["fn", "let", "in", "rec", "match", "with", "fail", "num"]
def isW (l : List Nat) : Bool := !(ownW.any fun y => y == S l) && begunW l
theorem isW_ok (n : Nat) (l : List Nat) (hl : l.length ≤ 1000) : run (n + 3) 3 [.val (.str (S l))] = .ok (.bl (isW l)) [.val (.str (S l))] := by
  have e1 := begunW_ok n l hl
  have e2 : dNotIn (.str (S l)) (.ft [.str "fn", .str "let", .str "in", .str "rec", .str "match", .str "with", .str "fail", .str "num"]) = some (.bl (!(ownW.any fun y => y == S l))) := by
    unfold dNotIn inB inSeq ownW
    simp [flat, eqF]
  have e3 : isW l = (!(ownW.any fun y => y == S l) && begunW l) := rfl
  rw [e3]
  generalize (ownW.any fun y => y == S l) = b at e2
  show mBody 0 (m_is_word (run (n + 2)) (runF (n + 2))) _ = _
  unfold m_is_word
  cases b with
  | true => iterate 8 (first | (walk_at "rd"; done) | (try walk_at "rd"; try simp only [e1, e2, mIsi, isiB]))
  | false => iterate 8 (first | (walk_at "rd"; done) | (try walk_at "rd"; try simp only [e1, e2, mIsi, isiB]))
def quote : Nat := 39
def isK (l : List Nat) : Bool := Txt.startswith (S l) "'" && isW (l.drop 1)
theorem cut1 (l : List Nat) : cutS (S l) (some 1) none = S (l.drop 1) := cut_from l 1
theorem isK_ok (n : Nat) (l : List Nat) (hl : l.length ≤ 1000) : run (n + 4) 4 [.val (.str (S l))] = .ok (.bl (isK l)) [.val (.str (S l))] := by
  have e1 := isW_ok n (l.drop 1) (by rw [List.length_drop]; omega)
  have c0 : ((S l).length ≤ 100000) = True := by rw [S_len]; simp only [eq_iff_iff, iff_true]; omega
  have e3 : isK l = (Txt.startswith (S l) "'" && isW (l.drop 1)) := rfl
  rw [e3]
  show mBody 0 (m_is_kind_name (run (n + 3)) (runF (n + 3))) _ = _
  unfold m_is_kind_name
  cases h : Txt.startswith (S l) "'" with
  | true => iterate 8 (first | (walk_at "rd"; done) | (try walk_at "rd"; try simp only [e1, mIsi, isiB, h, dSl, c0, cut1, if_true]))
  | false => iterate 8 (first | (walk_at "rd"; done) | (try walk_at "rd"; try simp only [e1, mIsi, isiB, h]))
def isF (l : List Nat) : Bool := isW l || isK l
theorem isF_ok (n : Nat) (l : List Nat) (hl : l.length ≤ 1000) : run (n + 5) 5 [.val (.str (S l))] = .ok (.bl (isF l)) [.val (.str (S l))] := by
  have e1 := isW_ok (n + 1) l hl
  have e2 := isK_ok n l hl
  have e3 : isF l = (isW l || isK l) := rfl
  rw [e3]
  show mBody 0 (m_is_factor (run (n + 4)) (runF (n + 4))) _ = _
  unfold m_is_factor
  cases h : isW l with
  | true =>
    rw [h] at e1
    iterate 8 (first | (walk_at "rd"; done) | (try walk_at "rd"; try simp only [e1, Bool.true_or]))
  | false =>
    rw [h] at e1
    iterate 8 (first | (walk_at "rd"; done) | (try walk_at "rd"; try simp only [e1, e2, Bool.false_or]))
end Mea
set_option Elab.async false
set_option linter.all false
set_option maxRecDepth 100000
set_option maxHeartbeats 4000000
namespace Mea
open PySem L2 Wk Mi
local macro_rules | `(tactic| walk_at "rd") => `(tactic| simp only [mBody, mBodyF, fin, finF, finC, mSeq, seqK, mAsg, mAsgO, mRet, mRetN, mDrop, mNext, mIf, mTest, mTru, mAnd, mOr, mNot, mB, mAndV, mOrV, mNotV, mChain, mNil, mCons, mTup, mOp2, mUn, mSl, mPart, mNoPart, mC, mVar, oE, oN, oNil, oCons, mCB, rsv, rsvs, content, lift, setv, gmNil, gmCons, gmTup, mFrz, OD.d, mIter, walkD, mRange1, mRange2, mYes, aNil, aV, aS, aT, mCall, fCall, Mi.cellOf, cellsOf, apart, aparts, back, samePars, mPar, mAug, mRaise, mRaise0, mGet2, mSetIx, mPut, mAppend, mFor, Cell.isPar, Cell.olst, Cell.odk, Cell.put, fLst, fDk, fDict, fMove, bind_ok, bind_no, bind_err, List.cons_append, List.nil_append, List.replicate_succ, List.replicate_zero, List.getElem?_cons_zero, List.getElem?_cons_succ, List.getElem?_nil, List.set_cons_zero, List.set_cons_succ, List.length_cons, List.length_nil, List.take_succ_cons, List.take_zero, List.take_nil, Option.bind_some, Option.bind_none, Option.map_some, Option.map_none, List.all_nil, List.all_cons, Bool.and_true, Bool.true_and, Bool.and_false, Bool.false_and, Bool.not_true, Bool.not_false, decide_true, decide_false, reduceIte, Bool.false_eq_true, Bool.true_eq_false, if_true, if_false, beq_self_eq_true, Nat.reduceAdd, Nat.reduceEqDiff, Nat.reduceLeDiff, dAdd, dSub, dMulH, dMul, dDiv, dMod, dPow, dGt, dLt, dLe, dGe, dIx, ixL, dNeg, dAbs, dMax, dMin, dLen, dEqH, dNeH, eqH, eqB, eqS, atI_0, atI_1, atI_2, ixN_3_0, ixN_3_2, ne_eq, Int.reduceEq, Int.reduceNe, not_false_eq_true, not_true_eq_false, Int.reduceLT, Int.reduceLE, and_true, true_and, and_false, false_and, Int.reduceToNat, lim, Mi.key, fSorted, mM1, dStarts])
theorem foldM_len (n : Int) : ∀ (m l : Ms), (foldM n l m).length ≤ l.length + m.length
  | [], _ => Nat.le_refl _
  | p :: m, l => by
    have h := putM_len l p.1 (lookS l p.1 + n * p.2)
    have := foldM_len n m (putM l p.1 (lookS l p.1 + n * p.2))
    show (foldM n (putM l p.1 (lookS l p.1 + n * p.2)) m).length ≤ _
    rw [List.length_cons]
    omega
def timesP (f m : Ms) : Ms := ofP (foldM 1 (mergeM [] f) m)
theorem timesP_len (f m : Ms) : (timesP f m).length ≤ f.length + m.length := by
  have h1 := ofP_len (foldM 1 (mergeM [] f) m)
  have h2 := foldM_len 1 m (mergeM [] f)
  have h3 := mergeM_len f []
  simp only [List.length_nil] at h3
  unfold timesP
  omega
theorem times_ok' (n : Nat) {one other : Ms} (hl : one.length + other.length < 64) : run (n + 2) 9 [.val (encM one), .val (encM other)] = .ok (encM (timesP one other)) [.val (encM one), .val (encM other)] := by
  refine times_ok n hl ?_
  have h2 := foldM_len 1 other (mergeM [] one)
  have h3 := mergeM_len one []
  simp only [List.length_nil] at h3
  omega
def lens : List Ms → Nat
  | [] => 0
  | m :: ms => m.length + lens ms
theorem product_loop {a : Cell} {n : Nat} : ∀ (ms : List Ms) (f : Ms) (x : Cell), f.length + lens ms < 64 → plain1 x →
    ∃ x', plain1 x' ∧ forL (setv 2) (mAsg (mCall 2 (run (n + 2) 9) (aV (mVar 1) (aV (mVar 2) aNil))) (setv 1)) (ms.map encM) [a, .val (encM f), x] = .ok .nx [a, .val (encM (ms.foldl timesP f)), x']
  | [], f, x, _, hx => ⟨x, hx, rfl⟩
  | m :: ms, f, x, hl, hx => by
    have hl' : f.length + (m.length + lens ms) < 64 := hl
    have e := times_ok' n (one := f) (other := m) (by omega)
    have h1 := timesP_len f m
    obtain ⟨x', k1, k2⟩ := product_loop (a := a) (n := n) ms (timesP f m) (.val (encM m)) (by omega) (.inr ⟨_, rfl⟩)
    refine ⟨x', k1, ?_⟩
    rw [List.map_cons, List.foldl_cons, ← k2]
    refine forL_cons (ρ1 := [a, .val (encM f), .val (encM m)]) ?_ ?_
    · rcases hx with rfl | ⟨d, rfl⟩
      · rfl
      · rfl
    · iterate 6 (first | (walk_at "rd"; done) | (try walk_at "rd"; try simp only [e]))
theorem product_fn_ok (n : Nat) (ms : List Ms) (hl : lens ms < 64) : run (n + 3) 11 [.val (.lst (ms.map encM))] = .ok (encM (ms.foldl timesP [])) [.val (.lst (ms.map encM))] := by
  obtain ⟨x, hx, e⟩ := product_loop (a := .val (.lst (ms.map encM))) (n := n) ms [] .no (by simpa using hl) (.inl rfl)
  have e0 : encM [] = .tup [] := rfl
  rw [e0] at e
  show mBody 2 (m_product (run (n + 2)) (runF (n + 2))) _ = _
  unfold m_product
  iterate 6 (first | (walk_at "rd"; done) | (try walk_at "rd"; try simp only [e]))
end Mea
set_option Elab.async false
set_option linter.all false
set_option maxRecDepth 100000
set_option maxHeartbeats 4000000
namespace Mea
open PySem L2 Wk Mi
local macro_rules | `(tactic| walk_at "rd") => `(tactic| simp only [mBody, mBodyF, fin, finF, finC, mSeq, seqK, mAsg, mAsgO, mRet, mRetN, mDrop, mNext, mIf, mTest, mTru, mAnd, mOr, mNot, mB, mAndV, mOrV, mNotV, mChain, mNil, mCons, mTup, mOp2, mUn, mSl, mPart, mNoPart, mC, mVar, oE, oN, oNil, oCons, mCB, rsv, rsvs, content, lift, setv, gmNil, gmCons, gmTup, mFrz, OD.d, mIter, walkD, mRange1, mRange2, mYes, aNil, aV, aS, aT, mCall, fCall, Mi.cellOf, cellsOf, apart, aparts, back, samePars, mPar, mAug, mRaise, mRaise0, mGet2, mSetIx, mPut, mAppend, mFor, Cell.isPar, Cell.olst, Cell.odk, Cell.put, fLst, fDk, fDict, fMove, bind_ok, bind_no, bind_err, List.cons_append, List.nil_append, List.replicate_succ, List.replicate_zero, List.getElem?_cons_zero, List.getElem?_cons_succ, List.getElem?_nil, List.set_cons_zero, List.set_cons_succ, List.length_cons, List.length_nil, List.take_succ_cons, List.take_zero, List.take_nil, Option.bind_some, Option.bind_none, Option.map_some, Option.map_none, List.all_nil, List.all_cons, Bool.and_true, Bool.true_and, Bool.and_false, Bool.false_and, Bool.not_true, Bool.not_false, decide_true, decide_false, reduceIte, Bool.false_eq_true, Bool.true_eq_false, if_true, if_false, beq_self_eq_true, Nat.reduceAdd, Nat.reduceEqDiff, Nat.reduceLeDiff, dAdd, dSub, dMulH, dMul, dDiv, dMod, dPow, dGt, dLt, dLe, dGe, dIx, ixL, dNeg, dAbs, dMax, dMin, dLen, dEqH, dNeH, eqH, eqB, eqS, atI_0, atI_1, atI_2, ixN_3_0, ixN_3_2, ne_eq, Int.reduceEq, Int.reduceNe, not_false_eq_true, not_true_eq_false, Int.reduceLT, Int.reduceLE, and_true, true_and, and_false, false_and, Int.reduceToNat, lim, Mi.key, fSorted, mM1, dStarts])
abbrev Tb := List (Str × Ms)
def lookT (t : Tb) (k : Str) : Option Ms := (t.find? fun p => decide (p.1 = k)).map (·.2)
def tbE (t : Tb) : List (Key × D) := t.map fun p => (.inr p.1, encM p.2)
theorem fget_tbE (t : Tb) (k : Str) : fget (tbE t) (.inr k) = (lookT t k).map encM := by
  unfold fget tbE lookT
  rw [List.find?_map, Option.map_map, Option.map_map]
  congr 1
  congr 1
  funext p
  simp
theorem lookT_mem {t : Tb} {k : Str} {m : Ms} (h : lookT t k = some m) : ∃ p ∈ t, p.1 = k ∧ p.2 = m := by
  unfold lookT at h
  obtain ⟨p, e, rfl⟩ := Option.map_eq_some_iff.mp h
  have q := List.find?_some e
  exact ⟨p, List.mem_of_find?_eq_some e, by simpa using q, rfl⟩
def fillOne (t : Tb) (p : Str × Int) : Ms := match lookT t p.1 with
  | some m => ofP (powM p.2 m)
  | none => [p]
structure Okb (t : Tb) : Prop where
  all : ∀ p ∈ t, p.2.length < 64 ∧ ∀ q ∈ p.2, q.2.natAbs < 2 ^ 64
def gFill (t : Tb) (d : D) : D := encM (fillOne t (unP d))
theorem fill_key {n : Nat} {m : Ms} {t : Tb} (hm : ∀ p ∈ m, p.2.natAbs < 2 ^ 64) (hl : m.length < 64) (ht : Okb t) :
    fLc [2, 3] (mIter (mVar 0)) (gmTup 2 (gmCons (setv 2) (gmCons (setv 3) gmNil))) mYes (mIf (mTest (mOp2 dIn (oN 2) (oN 1))) (mCall 2 (run (n + 2) 10) (aV (mOp2 dIx (oN 1) (oN 2)) (aV (mVar 3) aNil))) (mTup (mCons (mTup (mCons (mVar 2) (mCons (mVar 3) mNil))) mNil))) [.val (encM m), .par (.dk (tbE t)), .no, .no]
      = .ok (.lst ((m.map encP).map (gFill t))) [.val (encM m), .par (.dk (tbE t)), .no, .no] := by
  have key := fLc_pure (vs := [2, 3]) (mi := mIter (mVar 0)) (mg := gmTup 2 (gmCons (setv 2) (gmCons (setv 3) gmNil))) (mt := mYes) (me := mIf (mTest (mOp2 dIn (oN 2) (oN 1))) (mCall 2 (run (n + 2) 10) (aV (mOp2 dIx (oN 1) (oN 2)) (aV (mVar 3) aNil))) (mTup (mCons (mTup (mCons (mVar 2) (mCons (mVar 3) mNil))) mNil)))
    (ρ := [.val (encM m), .par (.dk (tbE t)), .no, .no]) (ρ1 := [.val (encM m), .par (.dk (tbE t)), .no, .no]) (ds := m.map encP) (p := fun _ => true) (g := gFill t)
    (fun d => [.val (encM m), .par (.dk (tbE t)), .val (.str (unP d).1), .val (.int (unP d).2)]) rfl rfl (by simp) (fun d _ => ⟨rfl, rfl, rfl⟩) rfl
    (fun d hd c => by
      obtain ⟨p, hp, rfl⟩ := List.mem_map.mp hd
      rfl) (fun _ _ _ => rfl) (fun d hd _ c => by
      obtain ⟨p, hp, rfl⟩ := List.mem_map.mp hd
      have e : unP (encP p) = p := rfl
      unfold gFill fillOne
      simp only [e]
      have f := fget_tbE t p.1
      cases z : lookT t p.1 with
      | none =>
        rw [z] at f
        have f : fget (tbE t) (.inr p.1) = none := f
        iterate 8 (first | (walk_at "rd"; done) | (try walk_at "rd"; try simp only [dIn, inB, f, Option.isSome_none]))
        rfl
      | some m' =>
        rw [z] at f
        have f : fget (tbE t) (.inr p.1) = some (encM m') := f
        obtain ⟨q, hq, _, rfl⟩ := lookT_mem z
        have e2 := power_fn_ok n (m := q.2) (nn := p.2) (hm p hp) (ht.all q hq).2 (ht.all q hq).1
        iterate 8 (first | (walk_at "rd"; done) | (try walk_at "rd"; try simp only [dIn, inB, f, e2, Option.isSome_some]))) (by rw [List.length_map]; show _ ≤ 100000; omega)
  rw [key, List.filter_eq_self.mpr fun _ _ => rfl]
theorem fill_ok (n : Nat) {m : Ms} {t : Tb} (hm : ∀ p ∈ m, p.2.natAbs < 2 ^ 64) (hl : m.length < 64) (ht : Okb t) (hs : lens (m.map (fillOne t)) < 64) :
    run (n + 4) 19 [.val (encM m), .par (.dk (tbE t))] = .ok (encM ((m.map (fillOne t)).foldl timesP [])) [.val (encM m), .par (.dk (tbE t))] := by
  have key := fill_key (n := n + 1) hm hl ht
  have e1 : (m.map encP).map (gFill t) = (m.map (fillOne t)).map encM := by
    rw [List.map_map, List.map_map]
    rfl
  rw [e1] at key
  have e2 := product_fn_ok n (m.map (fillOne t)) hs
  show mBody 2 (m_fill_measure (run (n + 3)) (runF (n + 3))) _ = _
  unfold m_fill_measure
  iterate 8 (first | (walk_at "rd"; done) | (try walk_at "rd"; try simp only [key, e2]))
end Mea
set_option Elab.async false
set_option linter.all false
set_option maxRecDepth 100000
set_option maxHeartbeats 4000000
namespace Mea
open PySem L2 Wk Mi
local macro_rules | `(tactic| walk_at "rd") => `(tactic| simp only [mBody, mBodyF, fin, finF, finC, mSeq, seqK, mAsg, mAsgO, mRet, mRetN, mDrop, mNext, mIf, mTest, mTru, mAnd, mOr, mNot, mB, mAndV, mOrV, mNotV, mChain, mNil, mCons, mTup, mOp2, mUn, mSl, mPart, mNoPart, mC, mVar, oE, oN, oNil, oCons, mCB, rsv, rsvs, content, lift, setv, gmNil, gmCons, gmTup, mFrz, OD.d, mIter, walkD, mRange1, mRange2, mYes, aNil, aV, aS, aT, mCall, fCall, Mi.cellOf, cellsOf, apart, aparts, back, samePars, mPar, mAug, mRaise, mRaise0, mGet2, mSetIx, mPut, mAppend, mFor, Cell.isPar, Cell.olst, Cell.odk, Cell.put, fLst, fDk, fDict, fMove, bind_ok, bind_no, bind_err, List.cons_append, List.nil_append, List.replicate_succ, List.replicate_zero, List.getElem?_cons_zero, List.getElem?_cons_succ, List.getElem?_nil, List.set_cons_zero, List.set_cons_succ, List.length_cons, List.length_nil, List.take_succ_cons, List.take_zero, List.take_nil, Option.bind_some, Option.bind_none, Option.map_some, Option.map_none, List.all_nil, List.all_cons, Bool.and_true, Bool.true_and, Bool.and_false, Bool.false_and, Bool.not_true, Bool.not_false, decide_true, decide_false, reduceIte, Bool.false_eq_true, Bool.true_eq_false, if_true, if_false, beq_self_eq_true, Nat.reduceAdd, Nat.reduceEqDiff, Nat.reduceLeDiff, dAdd, dSub, dMulH, dMul, dDiv, dMod, dPow, dGt, dLt, dLe, dGe, dIx, ixL, dNeg, dAbs, dMax, dMin, dLen, dEqH, dNeH, eqH, eqB, eqS, atI_0, atI_1, atI_2, ixN_3_0, ixN_3_2, ne_eq, Int.reduceEq, Int.reduceNe, not_false_eq_true, not_true_eq_false, Int.reduceLT, Int.reduceLE, and_true, true_and, and_false, false_and, Int.reduceToNat, lim, Mi.key, fSorted, mM1, dStarts])
def unq (l : List Nat) : List Nat := if Txt.startswith (S l) "'" then l.drop 1 else l
def begunT (l : List Nat) : Bool := decide (S (unq l) = "") || begunW (unq l)
theorem unq_len (l : List Nat) : (unq l).length ≤ l.length := by
  unfold unq
  split
  · rw [List.length_drop]; omega
  · exact Nat.le_refl _
theorem begunT_ok (n : Nat) (l : List Nat) (hl : l.length ≤ 1000) : run (n + 3) 13 [.val (.str (S l))] = .ok (.bl (begunT l)) [.val (.str (S l))] := by
  have e1 := begunW_ok n (unq l) (by have := unq_len l; omega)
  have c0 : ((S l).length ≤ 100000) = True := by rw [S_len]; simp only [eq_iff_iff, iff_true]; omega
  have e3 : begunT l = (decide (S (unq l) = "") || begunW (unq l)) := rfl
  rw [e3]
  show mBody 1 (m_is_begun (run (n + 2)) (runF (n + 2))) _ = _
  unfold m_is_begun
  cases h : Txt.startswith (S l) "'" with
  | true =>
    have u : unq l = l.drop 1 := by unfold unq; rw [h]; rfl
    rw [u] at e1 ⊢
    cases z : decide (S (l.drop 1) = "") with
    | true => iterate 12 (first | (walk_at "rd"; done) | (try walk_at "rd"; try simp only [h, dTru, dSl, c0, cut1, if_true, z, Bool.true_or]))
    | false => iterate 12 (first | (walk_at "rd"; done) | (try walk_at "rd"; try simp only [h, dTru, dSl, c0, cut1, if_true, z, e1, Bool.false_or]))
  | false =>
    have u : unq l = l := by unfold unq; rw [h]; rfl
    rw [u] at e1 ⊢
    cases z : decide (S l = "") with
    | true => iterate 12 (first | (walk_at "rd"; done) | (try walk_at "rd"; try simp only [h, dTru, z, Bool.true_or]))
    | false => iterate 12 (first | (walk_at "rd"; done) | (try walk_at "rd"; try simp only [h, dTru, z, e1, Bool.false_or]))
end Mea
set_option Elab.async false
set_option linter.all false
set_option maxRecDepth 100000
set_option maxHeartbeats 4000000
namespace Mea
open PySem L2 Wk Mi
local macro_rules | `(tactic| walk_at "rd") => `(tactic| simp only [mBody, mBodyF, fin, finF, finC, mSeq, seqK, mAsg, mAsgO, mRet, mRetN, mDrop, mNext, mIf, mTest, mTru, mAnd, mOr, mNot, mB, mAndV, mOrV, mNotV, mChain, mNil, mCons, mTup, mOp2, mUn, mSl, mPart, mNoPart, mC, mVar, oE, oN, oNil, oCons, mCB, rsv, rsvs, content, lift, setv, gmNil, gmCons, gmTup, mFrz, OD.d, mIter, walkD, mRange1, mRange2, mYes, aNil, aV, aS, aT, mCall, fCall, Mi.cellOf, cellsOf, apart, aparts, back, samePars, mPar, mAug, mRaise, mRaise0, mGet2, mSetIx, mPut, mAppend, mFor, Cell.isPar, Cell.olst, Cell.odk, Cell.put, fLst, fDk, fDict, fMove, bind_ok, bind_no, bind_err, List.cons_append, List.nil_append, List.replicate_succ, List.replicate_zero, List.getElem?_cons_zero, List.getElem?_cons_succ, List.getElem?_nil, List.set_cons_zero, List.set_cons_succ, List.length_cons, List.length_nil, List.take_succ_cons, List.take_zero, List.take_nil, Option.bind_some, Option.bind_none, Option.map_some, Option.map_none, List.all_nil, List.all_cons, Bool.and_true, Bool.true_and, Bool.and_false, Bool.false_and, Bool.not_true, Bool.not_false, decide_true, decide_false, reduceIte, Bool.false_eq_true, Bool.true_eq_false, if_true, if_false, beq_self_eq_true, Nat.reduceAdd, Nat.reduceEqDiff, Nat.reduceLeDiff, dAdd, dSub, dMulH, dMul, dDiv, dMod, dPow, dGt, dLt, dLe, dGe, dIx, ixL, dNeg, dAbs, dMax, dMin, dLen, dEqH, dNeH, eqH, eqB, eqS, atI_0, atI_1, atI_2, ixN_3_0, ixN_3_2, ne_eq, Int.reduceEq, Int.reduceNe, not_false_eq_true, not_true_eq_false, Int.reduceLT, Int.reduceLE, and_true, true_and, and_false, false_and, Int.reduceToNat, lim, Mi.key, fSorted, mM1, dStarts])
theorem S_app (a b : List Nat) : S a ++ S b = S (a ++ b) := by
  show (⟨a.toArray ++ b.toArray⟩ : Str) = ⟨(a ++ b).toArray⟩
  rw [List.append_toArray]
theorem rep_fold (c : Nat) : ∀ (n : Nat) (acc : Array Nat), (List.replicate n #[c]).foldl (· ++ ·) acc = acc ++ (List.replicate n c).toArray
  | 0, acc => by simp
  | n + 1, acc => by
    rw [List.replicate_succ, List.foldl_cons, rep_fold c n, List.replicate_succ, Array.append_assoc]
    congr 1
    simp
theorem repS_one (c n : Nat) : repS ⟨#[c]⟩ n = S (List.replicate n c) := by
  unfold repS
  rw [rep_fold]
  show (⟨#[] ++ (List.replicate n c).toArray⟩ : Str) = ⟨_⟩
  rw [Array.empty_append]
def qOf (l : List Nat) : List Nat := if Txt.startswith (S l) "'" then l.take 1 else []
def aOf (l : List Nat) : List Nat := (l.drop (qOf l).length).takeWhile isL
def dOf (l : List Nat) : List Nat := l.drop ((qOf l).length + (aOf l).length)
def a2Of (l : List Nat) : List Nat := if dOf l = [] then aOf l ++ List.replicate (6 - (aOf l).length) 122 else aOf l
/-- the last word of all that begin so -/
def lastT (l : List Nat) : List Nat := qOf l ++ a2Of l ++ dOf l ++ List.replicate (3 - (dOf l).length) 57
theorem S_nil (d : List Nat) : decide (S d = "") = decide (d = []) := by
  cases d with
  | nil => decide
  | cons c d =>
    have h : S (c :: d) ≠ "" := fun z => by
      have := congrArg Str.length z
      rw [S_len] at this
      simp at this
      exact absurd this (by show ¬ _ = (0 : Nat); omega)
    rw [decide_eq_false h, decide_eq_false (by simp)]
end Mea
set_option Elab.async false
set_option linter.all false
set_option maxRecDepth 100000
set_option maxHeartbeats 4000000
namespace Mea
open PySem L2 Wk Mi
local macro_rules | `(tactic| walk_at "rd") => `(tactic| simp only [mBody, mBodyF, fin, finF, finC, mSeq, seqK, mAsg, mAsgO, mRet, mRetN, mDrop, mNext, mIf, mTest, mTru, mAnd, mOr, mNot, mB, mAndV, mOrV, mNotV, mChain, mNil, mCons, mTup, mOp2, mUn, mSl, mPart, mNoPart, mC, mVar, oE, oN, oNil, oCons, mCB, rsv, rsvs, content, lift, setv, gmNil, gmCons, gmTup, mFrz, OD.d, mIter, walkD, mRange1, mRange2, mYes, aNil, aV, aS, aT, mCall, fCall, Mi.cellOf, cellsOf, apart, aparts, back, samePars, mPar, mAug, mRaise, mRaise0, mGet2, mSetIx, mPut, mAppend, mFor, Cell.isPar, Cell.olst, Cell.odk, Cell.put, fLst, fDk, fDict, fMove, bind_ok, bind_no, bind_err, List.cons_append, List.nil_append, List.replicate_succ, List.replicate_zero, List.getElem?_cons_zero, List.getElem?_cons_succ, List.getElem?_nil, List.set_cons_zero, List.set_cons_succ, List.length_cons, List.length_nil, List.take_succ_cons, List.take_zero, List.take_nil, Option.bind_some, Option.bind_none, Option.map_some, Option.map_none, List.all_nil, List.all_cons, Bool.and_true, Bool.true_and, Bool.and_false, Bool.false_and, Bool.not_true, Bool.not_false, decide_true, decide_false, reduceIte, Bool.false_eq_true, Bool.true_eq_false, if_true, if_false, beq_self_eq_true, Nat.reduceAdd, Nat.reduceEqDiff, Nat.reduceLeDiff, dAdd, dSub, dMulH, dMul, dDiv, dMod, dPow, dGt, dLt, dLe, dGe, dIx, ixL, dNeg, dAbs, dMax, dMin, dLen, dEqH, dNeH, eqH, eqB, eqS, atI_0, atI_1, atI_2, ixN_3_0, ixN_3_2, ne_eq, Int.reduceEq, Int.reduceNe, not_false_eq_true, not_true_eq_false, Int.reduceLT, Int.reduceLE, and_true, true_and, and_false, false_and, Int.reduceToNat, lim, Mi.key, fSorted, mM1, dStarts])
theorem last_ok (n : Nat) (l : List Nat) (hl : l.length ≤ 900) : run (n + 2) 14 [.val (.str (S l))] = .ok (.str (S (lastT l))) [.val (.str (S l))] := by
  have hq : (qOf l).length ≤ 1 := by
    unfold qOf
    split
    · rw [List.length_take]; omega
    · simp
  have e1 := letters_ok n (l.drop (qOf l).length) (by rw [List.length_drop]; omega)
  have ea : (l.drop (qOf l).length).takeWhile isL = aOf l := rfl
  rw [ea] at e1
  have hal : (aOf l).length ≤ l.length := by
    have := congrArg List.length (take_takeWhile (p := isL) (l.drop (qOf l).length))
    rw [List.length_take, List.length_drop, ea] at this
    omega
  have hdl : (dOf l).length ≤ l.length := by unfold dOf; rw [List.length_drop]; omega
  have c0 : ((S l).length ≤ 100000) = True := by rw [S_len]; simp only [eq_iff_iff, iff_true]; omega
  have cq : ((S (qOf l)).length ≤ 100000) = True := by rw [S_len]; simp only [eq_iff_iff, iff_true]; omega
  have ca : ((S (aOf l)).length ≤ 100000) = True := by rw [S_len]; simp only [eq_iff_iff, iff_true]; omega
  have cd : ((S (dOf l)).length ≤ 100000) = True := by rw [S_len]; simp only [eq_iff_iff, iff_true]; omega
  have u1 : cutS (S l) (some ((S (qOf l)).length : Int)) none = S (l.drop (qOf l).length) := by rw [S_len, cut_from]
  have u2 : cutS (S l) (some (((S (qOf l)).length : Int) + ((S (aOf l)).length : Int))) none = S (dOf l) := by
    rw [S_len, S_len, ← Int.natCast_add, cut_from]
    rfl
  have z1 : atI (Str.ofString "abcdefghijklmnopqrstuvwxyz").cps.toList (-1) = some 122 := by decide +kernel
  have z2 : atI (Str.ofString "0123456789").cps.toList (-1) = some 57 := by decide +kernel
  have l1 : ((Str.ofString "abcdefghijklmnopqrstuvwxyz").length ≤ 100000) = True := by simp only [eq_iff_iff, iff_true]; decide +kernel
  have l2 : ((Str.ofString "0123456789").length ≤ 100000) = True := by simp only [eq_iff_iff, iff_true]; decide +kernel
  have one : ∀ c : Nat, (⟨#[c]⟩ : Str).length = 1 := fun _ => rfl
  have m1 : (((-(2 ^ 63) ≤ (6 : Int) - ((S (aOf l)).length : Int) ∧ (6 : Int) - ((S (aOf l)).length : Int) < 2 ^ 63) ∧ (⟨#[122]⟩ : Str).length * ((6 : Int) - ((S (aOf l)).length : Int)).toNat ≤ 100000)) = True := by
    rw [one, S_len]
    simp only [eq_iff_iff, iff_true]
    omega
  have m2 : (((-(2 ^ 63) ≤ (3 : Int) - ((S (dOf l)).length : Int) ∧ (3 : Int) - ((S (dOf l)).length : Int) < 2 ^ 63) ∧ (⟨#[57]⟩ : Str).length * ((3 : Int) - ((S (dOf l)).length : Int)).toNat ≤ 100000)) = True := by
    rw [one, S_len]
    simp only [eq_iff_iff, iff_true]
    omega
  have t1 : ((6 : Int) - ((S (aOf l)).length : Int)).toNat = 6 - (aOf l).length := by rw [S_len]; omega
  have t2 : ((3 : Int) - ((S (dOf l)).length : Int)).toNat = 3 - (dOf l).length := by rw [S_len]; omega
  rw [t1] at m1
  rw [t2] at m2
  have sz : ∀ x : List Nat, x.length ≤ 50000 → ∀ y : List Nat, y.length ≤ 50000 → ((S x).length + (S y).length ≤ 100000) = True := fun x hx y hy => by
    rw [S_len, S_len]
    simp only [eq_iff_iff, iff_true]
    omega
  show mBody 3 (m_last_one (run (n + 1)) (runF (n + 1))) _ = _
  unfold m_last_one
  have a2 : (a2Of l).length ≤ l.length + 6 := by
    unfold a2Of
    split
    · rw [List.length_append, List.length_replicate]; omega
    · omega
  have r1 := sz (qOf l) (by omega) (a2Of l) (by omega)
  have r2 := sz (qOf l ++ a2Of l) (by rw [List.length_append]; omega) (dOf l) (by omega)
  have r3 := sz (qOf l ++ a2Of l ++ dOf l) (by rw [List.length_append, List.length_append]; omega) (List.replicate (3 - (dOf l).length) 57) (by rw [List.length_replicate]; omega)
  have r0 := sz (aOf l) (by omega) (List.replicate (6 - (aOf l).length) 122) (by rw [List.length_replicate]; omega)
  have fin : S (lastT l) = S (qOf l ++ a2Of l ++ dOf l ++ List.replicate (3 - (dOf l).length) 57) := rfl
  rw [fin]
  have ct1 : cutS (S l) none (some 1) = S (l.take 1) := cut_to l 1
  cases h : Txt.startswith (S l) "'" with
  | true =>
    have hqe : l.take 1 = qOf l := by unfold qOf; rw [h]; rfl
    rw [hqe] at ct1
    by_cases z : dOf l = []
    · have dz : decide (S (dOf l) = "") = true := by rw [S_nil]; exact decide_eq_true z
      have az : aOf l ++ List.replicate (6 - (aOf l).length) 122 = a2Of l := by unfold a2Of; rw [if_pos z]
      iterate 20 (first | (walk_at "rd"; done) | (try walk_at "rd"; try simp only [h, dTru, dSl, c0, cq, ca, cd, ct1, u1, u2, e1, dz, z1, z2, l1, l2, m1, m2, t1, t2, repS_one, S_app, r0, r1, r2, r3, az, Option.map_some, if_true]))
    · have dz : decide (S (dOf l) = "") = false := by rw [S_nil]; exact decide_eq_false z
      have az : aOf l = a2Of l := by unfold a2Of; rw [if_neg z]
      rw [← az] at r1 r2 r3 ⊢
      iterate 20 (first | (walk_at "rd"; done) | (try walk_at "rd"; try simp only [h, dTru, dSl, c0, cq, ca, cd, ct1, u1, u2, e1, dz, z1, z2, l1, l2, m1, m2, t1, t2, repS_one, S_app, r0, r1, r2, r3, Option.map_some, if_true]))
  | false =>
    have hqe : (Str.ofString "") = S (qOf l) := by unfold qOf; rw [h]; rfl
    by_cases z : dOf l = []
    · have dz : decide (S (dOf l) = "") = true := by rw [S_nil]; exact decide_eq_true z
      have az : aOf l ++ List.replicate (6 - (aOf l).length) 122 = a2Of l := by unfold a2Of; rw [if_pos z]
      rw [hqe] at dz ⊢
      iterate 20 (first | (walk_at "rd"; done) | (try walk_at "rd"; try simp only [h, dTru, dSl, c0, cq, ca, cd, u1, u2, e1, dz, z1, z2, l1, l2, m1, m2, t1, t2, repS_one, S_app, r0, r1, r2, r3, az, Option.map_some, if_true]))
    · have dz : decide (S (dOf l) = "") = false := by rw [S_nil]; exact decide_eq_false z
      have az : aOf l = a2Of l := by unfold a2Of; rw [if_neg z]
      rw [← az] at r1 r2 r3 ⊢
      rw [hqe] at dz ⊢
      iterate 20 (first | (walk_at "rd"; done) | (try walk_at "rd"; try simp only [h, dTru, dSl, c0, cq, ca, cd, u1, u2, e1, dz, z1, z2, l1, l2, m1, m2, t1, t2, repS_one, S_app, r0, r1, r2, r3, Option.map_some, if_true]))
end Mea
set_option Elab.async false
set_option linter.all false
set_option maxRecDepth 100000
set_option maxHeartbeats 4000000
namespace Mea
open PySem L2 Wk Mi
local macro_rules | `(tactic| walk_at "rd") => `(tactic| simp only [mBody, mBodyF, fin, finF, finC, mSeq, seqK, mAsg, mAsgO, mRet, mRetN, mDrop, mNext, mIf, mTest, mTru, mAnd, mOr, mNot, mB, mAndV, mOrV, mNotV, mChain, mNil, mCons, mTup, mOp2, mUn, mSl, mPart, mNoPart, mC, mVar, oE, oN, oNil, oCons, mCB, rsv, rsvs, content, lift, setv, gmNil, gmCons, gmTup, mFrz, OD.d, mIter, walkD, mRange1, mRange2, mYes, aNil, aV, aS, aT, mCall, fCall, Mi.cellOf, cellsOf, apart, aparts, back, samePars, mPar, mAug, mRaise, mRaise0, mGet2, mSetIx, mPut, mAppend, mFor, Cell.isPar, Cell.olst, Cell.odk, Cell.put, fLst, fDk, fDict, fMove, bind_ok, bind_no, bind_err, List.cons_append, List.nil_append, List.replicate_succ, List.replicate_zero, List.getElem?_cons_zero, List.getElem?_cons_succ, List.getElem?_nil, List.set_cons_zero, List.set_cons_succ, List.length_cons, List.length_nil, List.take_succ_cons, List.take_zero, List.take_nil, Option.bind_some, Option.bind_none, Option.map_some, Option.map_none, List.all_nil, List.all_cons, Bool.and_true, Bool.true_and, Bool.and_false, Bool.false_and, Bool.not_true, Bool.not_false, decide_true, decide_false, reduceIte, Bool.false_eq_true, Bool.true_eq_false, if_true, if_false, beq_self_eq_true, Nat.reduceAdd, Nat.reduceEqDiff, Nat.reduceLeDiff, dAdd, dSub, dMulH, dMul, dDiv, dMod, dPow, dGt, dLt, dLe, dGe, dIx, ixL, dNeg, dAbs, dMax, dMin, dLen, dEqH, dNeH, eqH, eqB, eqS, atI_0, atI_1, atI_2, ixN_3_0, ixN_3_2, ne_eq, Int.reduceEq, Int.reduceNe, not_false_eq_true, not_true_eq_false, Int.reduceLT, Int.reduceLE, and_true, true_and, and_false, false_and, Int.reduceToNat, lim, Mi.key, fSorted, mM1, dStarts])
def mayF (p last : List Nat) : Bool := begunT p && sless (S last) (S (lastT p))
theorem follow_ok (n : Nat) (p last : List Nat) (hl : p.length ≤ 900) : run (n + 4) 15 [.val (.str (S p)), .val (.str (S last))] = .ok (.bl (mayF p last)) [.val (.str (S p)), .val (.str (S last))] := by
  have e1 := begunT_ok n p (by omega)
  have e2 := last_ok (n + 1) p hl
  have e3 : mayF p last = (begunT p && sless (S last) (S (lastT p))) := rfl
  rw [e3]
  show mBody 0 (m_may_follow (run (n + 3)) (runF (n + 3))) _ = _
  unfold m_may_follow
  cases h : begunT p with
  | true =>
    rw [h] at e1
    iterate 8 (first | (walk_at "rd"; done) | (try walk_at "rd"; try simp only [e1, e2]))
  | false =>
    rw [h] at e1
    iterate 8 (first | (walk_at "rd"; done) | (try walk_at "rd"; try simp only [e1]))
end Mea
set_option Elab.async false
set_option linter.all false
set_option maxRecDepth 100000
set_option maxHeartbeats 4000000
namespace Mea
open PySem L2 Wk Mi
local macro_rules | `(tactic| walk_at "rd") => `(tactic| simp only [mBody, mBodyF, fin, finF, finC, mSeq, seqK, mAsg, mAsgO, mRet, mRetN, mDrop, mNext, mIf, mTest, mTru, mAnd, mOr, mNot, mB, mAndV, mOrV, mNotV, mChain, mNil, mCons, mTup, mOp2, mUn, mSl, mPart, mNoPart, mC, mVar, oE, oN, oNil, oCons, mCB, rsv, rsvs, content, lift, setv, gmNil, gmCons, gmTup, mFrz, OD.d, mIter, walkD, mRange1, mRange2, mYes, aNil, aV, aS, aT, mCall, fCall, Mi.cellOf, cellsOf, apart, aparts, back, samePars, mPar, mAug, mRaise, mRaise0, mGet2, mSetIx, mPut, mAppend, mFor, Cell.isPar, Cell.olst, Cell.odk, Cell.put, fLst, fDk, fDict, fMove, bind_ok, bind_no, bind_err, List.cons_append, List.nil_append, List.replicate_succ, List.replicate_zero, List.getElem?_cons_zero, List.getElem?_cons_succ, List.getElem?_nil, List.set_cons_zero, List.set_cons_succ, List.length_cons, List.length_nil, List.take_succ_cons, List.take_zero, List.take_nil, Option.bind_some, Option.bind_none, Option.map_some, Option.map_none, List.all_nil, List.all_cons, Bool.and_true, Bool.true_and, Bool.and_false, Bool.false_and, Bool.not_true, Bool.not_false, decide_true, decide_false, reduceIte, Bool.false_eq_true, Bool.true_eq_false, if_true, if_false, beq_self_eq_true, Nat.reduceAdd, Nat.reduceEqDiff, Nat.reduceLeDiff, dAdd, dSub, dMulH, dMul, dDiv, dMod, dPow, dGt, dLt, dLe, dGe, dIx, ixL, dNeg, dAbs, dMax, dMin, dLen, dEqH, dNeH, eqH, eqB, eqS, atI_0, atI_1, atI_2, ixN_3_0, ixN_3_2, ne_eq, Int.reduceEq, Int.reduceNe, not_false_eq_true, not_true_eq_false, Int.reduceLT, Int.reduceLE, and_true, true_and, and_false, false_and, Int.reduceToNat, lim, Mi.key, fSorted, mM1, dStarts])
/-! read_factor: the longest beginning that may follow -/
def stretch (t last : List Nat) (b : Nat) : Nat → Nat → Nat
  | 0, e => e
  | k + 1, e => if e < t.length ∧ mayF ((t.take (e + 1)).drop b) last = true then stretch t last b k (e + 1) else e
theorem cut_mid (l : List Nat) (i j : Nat) (h : i ≤ j) : cutS (S l) (some (i : Int)) (some (j : Int)) = S ((l.take j).drop i) := by
  unfold cutS
  rw [HT.sIx_nat, HT.sIx_nat, S_len, S_cps]
  show S _ = _
  congr 1
  rw [List.drop_take]
  by_cases h1 : i ≤ l.length
  · rw [Nat.min_eq_left h1]
    by_cases h2 : j ≤ l.length
    · rw [Nat.min_eq_left h2]
    · rw [Nat.min_eq_right (by omega), List.take_of_length_le (by rw [List.length_drop]; omega), List.take_of_length_le (by rw [List.length_drop]; omega)]
  · have m : min i l.length = l.length := Nat.min_eq_right (by omega)
    rw [m, List.drop_of_length_le (Nat.le_refl _), List.drop_of_length_le (by omega)]
    simp
end Mea
set_option Elab.async false
set_option linter.all false
set_option maxRecDepth 100000
set_option maxHeartbeats 4000000
namespace Mea
open PySem L2 Wk Mi
local macro_rules | `(tactic| walk_at "rd") => `(tactic| simp only [mBody, mBodyF, fin, finF, finC, mSeq, seqK, mAsg, mAsgO, mRet, mRetN, mDrop, mNext, mIf, mTest, mTru, mAnd, mOr, mNot, mB, mAndV, mOrV, mNotV, mChain, mNil, mCons, mTup, mOp2, mUn, mSl, mPart, mNoPart, mC, mVar, oE, oN, oNil, oCons, mCB, rsv, rsvs, content, lift, setv, gmNil, gmCons, gmTup, mFrz, OD.d, mIter, walkD, mRange1, mRange2, mYes, aNil, aV, aS, aT, mCall, fCall, Mi.cellOf, cellsOf, apart, aparts, back, samePars, mPar, mAug, mRaise, mRaise0, mGet2, mSetIx, mPut, mAppend, mFor, Cell.isPar, Cell.olst, Cell.odk, Cell.put, fLst, fDk, fDict, fMove, bind_ok, bind_no, bind_err, List.cons_append, List.nil_append, List.replicate_succ, List.replicate_zero, List.getElem?_cons_zero, List.getElem?_cons_succ, List.getElem?_nil, List.set_cons_zero, List.set_cons_succ, List.length_cons, List.length_nil, List.take_succ_cons, List.take_zero, List.take_nil, Option.bind_some, Option.bind_none, Option.map_some, Option.map_none, List.all_nil, List.all_cons, Bool.and_true, Bool.true_and, Bool.and_false, Bool.false_and, Bool.not_true, Bool.not_false, decide_true, decide_false, reduceIte, Bool.false_eq_true, Bool.true_eq_false, if_true, if_false, beq_self_eq_true, Nat.reduceAdd, Nat.reduceEqDiff, Nat.reduceLeDiff, dAdd, dSub, dMulH, dMul, dDiv, dMod, dPow, dGt, dLt, dLe, dGe, dIx, ixL, dNeg, dAbs, dMax, dMin, dLen, dEqH, dNeH, eqH, eqB, eqS, atI_0, atI_1, atI_2, ixN_3_0, ixN_3_2, ne_eq, Int.reduceEq, Int.reduceNe, not_false_eq_true, not_true_eq_false, Int.reduceLT, Int.reduceLE, and_true, true_and, and_false, false_and, Int.reduceToNat, lim, Mi.key, fSorted, mM1, dStarts])
theorem stretch_le (t last : List Nat) (b : Nat) : ∀ (k e : Nat), e ≤ stretch t last b k e
  | 0, e => Nat.le_refl _
  | k + 1, e => by
    unfold stretch
    split
    · exact Nat.le_trans (Nat.le_succ e) (stretch_le t last b k (e + 1))
    · exact Nat.le_refl _
theorem factor_loop {n : Nat} {t last : List Nat} {b : Nat} (ht : t.length ≤ 900) : ∀ (k e m : Nat), b ≤ e → t.length < e + k + 1 → k < m →
    whileL (mAnd (mTest (mOp2 dLt (oN 3) (oE (mCB dLen (oCons (oN 0) oNil))))) (mTru (oE (mCall 2 (run (n + 4) 15) (aV (mSl (oN 0) (mPart (mVar 1)) (mPart (mOp2 dAdd (oN 3) (oE (mC (.int 1)))))) (aV (mVar 2) aNil)))))) (mAug 3 (· + ·) (mC (.int 1))) m
      [.val (.str (S t)), .val (.int (b : Nat)), .val (.str (S last)), .val (.int (e : Nat))] = .ok .nx [.val (.str (S t)), .val (.int (b : Nat)), .val (.str (S last)), .val (.int (stretch t last b k e : Nat))] := by
  have c0 : ((S t).length ≤ 100000) = True := by rw [S_len]; simp only [eq_iff_iff, iff_true]; omega
  intro k
  induction k with
  | zero =>
    intro e m hb hk hm
    obtain ⟨m, rfl⟩ : ∃ m', m = m' + 1 := ⟨m - 1, by omega⟩
    have d1 : decide ((e : Int) < ((S t).length : Int)) = false := by rw [S_len]; exact decide_eq_false (by omega)
    unfold whileL stretch
    iterate 6 (first | (walk_at "rd"; done) | (try walk_at "rd"; try simp only [c0, d1]))
  | succ k ih =>
    intro e m hb hk hm
    obtain ⟨m, rfl⟩ : ∃ m', m = m' + 1 := ⟨m - 1, by omega⟩
    have cu : cutS (S t) (some (b : Int)) (some ((e : Int) + 1)) = S ((t.take (e + 1)).drop b) := cut_mid t b (e + 1) (by omega)
    have hf := follow_ok n ((t.take (e + 1)).drop b) last (by rw [List.length_drop, List.length_take]; omega)
    by_cases h1 : e < t.length
    · have d1 : decide ((e : Int) < ((S t).length : Int)) = true := by rw [S_len]; exact decide_eq_true (by omega)
      cases h2 : mayF ((t.take (e + 1)).drop b) last with
      | true =>
        rw [h2] at hf
        have es : stretch t last b (k + 1) e = stretch t last b k (e + 1) := by conv => lhs; unfold stretch; rw [if_pos ⟨h1, h2⟩]
        have ih' := ih (e + 1) m (by omega) (by omega) (by omega)
        rw [es, ← ih']
        conv => lhs; unfold whileL
        iterate 10 (first | (walk_at "rd"; done) | (try walk_at "rd"; try simp only [c0, d1, dSl, cu, hf, dTru, loopK, if_true]))
        rfl
      | false =>
        rw [h2] at hf
        have es : stretch t last b (k + 1) e = e := by conv => lhs; unfold stretch; rw [if_neg (fun z => by rw [h2] at z; exact absurd z.2 (by decide))]
        rw [es]
        unfold whileL
        iterate 10 (first | (walk_at "rd"; done) | (try walk_at "rd"; try simp only [c0, d1, dSl, cu, hf, dTru, if_true]))
    · have d1 : decide ((e : Int) < ((S t).length : Int)) = false := by rw [S_len]; exact decide_eq_false (by omega)
      have es : stretch t last b (k + 1) e = e := by conv => lhs; unfold stretch; rw [if_neg (fun z => h1 z.1)]
      rw [es]
      unfold whileL
      iterate 6 (first | (walk_at "rd"; done) | (try walk_at "rd"; try simp only [c0, d1]))
end Mea
set_option Elab.async false
set_option linter.all false
set_option maxRecDepth 100000
set_option maxHeartbeats 4000000
namespace Mea
open PySem L2 Wk Mi
local macro_rules | `(tactic| walk_at "rd") => `(tactic| simp only [mBody, mBodyF, fin, finF, finC, mSeq, seqK, mAsg, mAsgO, mRet, mRetN, mDrop, mNext, mIf, mTest, mTru, mAnd, mOr, mNot, mB, mAndV, mOrV, mNotV, mChain, mNil, mCons, mTup, mOp2, mUn, mSl, mPart, mNoPart, mC, mVar, oE, oN, oNil, oCons, mCB, rsv, rsvs, content, lift, setv, gmNil, gmCons, gmTup, mFrz, OD.d, mIter, walkD, mRange1, mRange2, mYes, aNil, aV, aS, aT, mCall, fCall, Mi.cellOf, cellsOf, apart, aparts, back, samePars, mPar, mAug, mRaise, mRaise0, mGet2, mSetIx, mPut, mAppend, mFor, Cell.isPar, Cell.olst, Cell.odk, Cell.put, fLst, fDk, fDict, fMove, bind_ok, bind_no, bind_err, List.cons_append, List.nil_append, List.replicate_succ, List.replicate_zero, List.getElem?_cons_zero, List.getElem?_cons_succ, List.getElem?_nil, List.set_cons_zero, List.set_cons_succ, List.length_cons, List.length_nil, List.take_succ_cons, List.take_zero, List.take_nil, Option.bind_some, Option.bind_none, Option.map_some, Option.map_none, List.all_nil, List.all_cons, Bool.and_true, Bool.true_and, Bool.and_false, Bool.false_and, Bool.not_true, Bool.not_false, decide_true, decide_false, reduceIte, Bool.false_eq_true, Bool.true_eq_false, if_true, if_false, beq_self_eq_true, Nat.reduceAdd, Nat.reduceEqDiff, Nat.reduceLeDiff, dAdd, dSub, dMulH, dMul, dDiv, dMod, dPow, dGt, dLt, dLe, dGe, dIx, ixL, dNeg, dAbs, dMax, dMin, dLen, dEqH, dNeH, eqH, eqB, eqS, atI_0, atI_1, atI_2, ixN_3_0, ixN_3_2, ne_eq, Int.reduceEq, Int.reduceNe, not_false_eq_true, not_true_eq_false, Int.reduceLT, Int.reduceLE, and_true, true_and, and_false, false_and, Int.reduceToNat, lim, Mi.key, fSorted, mM1, dStarts])
/-- read_factor: the end, or the place of the fault -/
def readF (t last : List Nat) (b : Nat) : Nat × Bool :=
  let e := stretch t last b t.length b
  (e, isF ((t.take e).drop b) && sless (S last) (S ((t.take e).drop b)))
theorem readF_ok (n : Nat) (t last : List Nat) (b : Nat) (ht : t.length ≤ 900) :
    run (n + 6) 16 [.val (.str (S t)), .val (.int (b : Nat)), .val (.str (S last))] = (if (readF t last b).2 then .ok (.int ((readF t last b).1 : Nat)) [.val (.str (S t)), .val (.int (b : Nat)), .val (.str (S last))] else .err ⟨0, [.int ((readF t last b).1 : Nat)]⟩ [.val (.str (S t)), .val (.int (b : Nat)), .val (.str (S last))]) := by
  have c0 : ((S t).length ≤ 100000) = True := by rw [S_len]; simp only [eq_iff_iff, iff_true]; omega
  have loop := factor_loop (n := n + 1) (last := last) (b := b) ht t.length b wf (Nat.le_refl _) (by omega) (by unfold wf; omega)
  have hle := stretch_le t last b t.length b
  have e1 : (readF t last b).1 = stretch t last b t.length b := rfl
  have e2 : (readF t last b).2 = (isF ((t.take (stretch t last b t.length b)).drop b) && sless (S last) (S ((t.take (stretch t last b t.length b)).drop b))) := rfl
  rw [e1, e2]
  generalize stretch t last b t.length b = e at *
  have cu : cutS (S t) (some (b : Int)) (some (e : Int)) = S ((t.take e).drop b) := cut_mid t b e hle
  have hf := isF_ok n ((t.take e).drop b) (by rw [List.length_drop, List.length_take]; omega)
  show mBody 1 (m_read_factor (run (n + 5)) (runF (n + 5))) _ = _
  unfold m_read_factor
  cases h1 : isF ((t.take e).drop b) with
  | false =>
    rw [h1] at hf
    iterate 10 (first | (walk_at "rd"; done) | (try walk_at "rd"; try simp only [loop, dSl, c0, cu, hf, dTru, if_true]))
  | true =>
    rw [h1] at hf
    cases h2 : sless (S last) (S ((t.take e).drop b)) with
    | false => iterate 10 (first | (walk_at "rd"; done) | (try walk_at "rd"; try simp only [loop, dSl, c0, cu, hf, dTru, h2, if_true]))
    | true => iterate 10 (first | (walk_at "rd"; done) | (try walk_at "rd"; try simp only [loop, dSl, c0, cu, hf, dTru, h2, if_true]))
end Mea
set_option Elab.async false
set_option linter.all false
set_option maxRecDepth 100000
set_option maxHeartbeats 4000000
namespace Mea
open PySem L2 Wk Mi
local macro_rules | `(tactic| walk_at "rd") => `(tactic| simp only [mBody, mBodyF, fin, finF, finC, mSeq, seqK, mAsg, mAsgO, mRet, mRetN, mDrop, mNext, mIf, mTest, mTru, mAnd, mOr, mNot, mB, mAndV, mOrV, mNotV, mChain, mNil, mCons, mTup, mOp2, mUn, mSl, mPart, mNoPart, mC, mVar, oE, oN, oNil, oCons, mCB, rsv, rsvs, content, lift, setv, gmNil, gmCons, gmTup, mFrz, OD.d, mIter, walkD, mRange1, mRange2, mYes, aNil, aV, aS, aT, mCall, fCall, Mi.cellOf, cellsOf, apart, aparts, back, samePars, mPar, mAug, mRaise, mRaise0, mGet2, mSetIx, mPut, mAppend, mFor, Cell.isPar, Cell.olst, Cell.odk, Cell.put, fLst, fDk, fDict, fMove, bind_ok, bind_no, bind_err, List.cons_append, List.nil_append, List.replicate_succ, List.replicate_zero, List.getElem?_cons_zero, List.getElem?_cons_succ, List.getElem?_nil, List.set_cons_zero, List.set_cons_succ, List.length_cons, List.length_nil, List.take_succ_cons, List.take_zero, List.take_nil, Option.bind_some, Option.bind_none, Option.map_some, Option.map_none, List.all_nil, List.all_cons, Bool.and_true, Bool.true_and, Bool.and_false, Bool.false_and, Bool.not_true, Bool.not_false, decide_true, decide_false, reduceIte, Bool.false_eq_true, Bool.true_eq_false, if_true, if_false, beq_self_eq_true, Nat.reduceAdd, Nat.reduceEqDiff, Nat.reduceLeDiff, dAdd, dSub, dMulH, dMul, dDiv, dMod, dPow, dGt, dLt, dLe, dGe, dIx, ixL, dNeg, dAbs, dMax, dMin, dLen, dEqH, dNeH, eqH, eqB, eqS, atI_0, atI_1, atI_2, ixN_3_0, ixN_3_2, ne_eq, Int.reduceEq, Int.reduceNe, not_false_eq_true, not_true_eq_false, Int.reduceLT, Int.reduceLE, and_true, true_and, and_false, false_and, Int.reduceToNat, lim, Mi.key, fSorted, mM1, dStarts])
open PySem.NumText PySem.W.KIN PyProof.Rows
/-! ### decimal texts -/
theorem dv_snoc (cs : List Nat) (c : Nat) : digitsVal (cs ++ [c]) = digitsVal cs * 10 + (c - 48) := by
  unfold digitsVal
  rw [List.foldl_append]
  rfl
theorem dv_acc : ∀ (cs : List Nat) (a : Nat), a ≤ cs.foldl (fun acc c => acc * 10 + (c - 48)) a
  | [], a => Nat.le_refl _
  | c :: cs, a => by
    rw [List.foldl_cons]
    exact Nat.le_trans (by omega) (dv_acc cs _)
theorem dv_pos {c : Nat} {cs : List Nat} (h : 49 ≤ c) : 1 ≤ digitsVal (c :: cs) := by
  unfold digitsVal
  rw [List.foldl_cons]
  exact Nat.le_trans (by omega) (dv_acc cs _)
/-- digits without a needless nought: none, or the first one is no nought -/
structure Dec (cs : List Nat) : Prop where
  dig : AllDigits cs
  hd : ∀ c, cs.head? = some c → 49 ≤ c
theorem Dec.front {cs : List Nat} {c : Nat} (h : Dec (cs ++ [c])) : Dec cs := by
  refine ⟨fun d hd => h.dig d (List.mem_append_left _ hd), fun d hd => h.hd d ?_⟩
  cases cs with
  | nil => cases hd
  | cons x cs => exact hd
theorem Dec.pos {cs : List Nat} (h : Dec cs) (hn : cs ≠ []) : 1 ≤ digitsVal cs := by
  cases cs with
  | nil => exact absurd rfl hn
  | cons c cs => exact dv_pos (h.hd c rfl)
theorem dec_inj : ∀ (n : Nat) (a b : List Nat), a.length ≤ n → Dec a → Dec b → digitsVal a = digitsVal b → a = b := by
  intro n
  induction n with
  | zero =>
    intro a b hl ha hb e
    cases a with
    | nil =>
      cases b with
      | nil => rfl
      | cons c b =>
        have := hb.pos (by simp)
        have z : digitsVal [] = 0 := rfl
        omega
    | cons c a => simp at hl
  | succ n ih =>
    intro a b hl ha hb e
    rcases List.eq_nil_or_concat a with rfl | ⟨a', x, rfl⟩
    · rcases List.eq_nil_or_concat b with rfl | ⟨b', y, rfl⟩
      · rfl
      · have := hb.pos (by simp)
        have z : digitsVal [] = 0 := rfl
        omega
    · rcases List.eq_nil_or_concat b with rfl | ⟨b', y, rfl⟩
      · have := ha.pos (by simp)
        have z : digitsVal [] = 0 := rfl
        omega
      · simp only [List.concat_eq_append] at *
        rw [dv_snoc, dv_snoc] at e
        have hx := ha.dig x (by simp)
        have hy := hb.dig y (by simp)
        have e1 : x = y := by omega
        have e2 : digitsVal a' = digitsVal b' := by omega
        rw [List.length_append] at hl
        rw [ih a' b' (by simpa using hl) ha.front hb.front e2, e1]
theorem digs_dig (m : Nat) : AllDigits ((Nat.toDigits 10 m).map Char.toNat) := by
  intro c hc
  obtain ⟨ch, hch, e⟩ := List.mem_map.mp hc
  have r := digit_range (Nat.isDigit_of_mem_toDigits (by decide) (by decide) hch)
  rw [← e]
  exact r
theorem digs_head : ∀ (n m : Nat), m ≤ n → 1 ≤ m → ∀ c, ((Nat.toDigits 10 m).map Char.toNat).head? = some c → 49 ≤ c := by
  intro n
  induction n with
  | zero => intro m h1 h2; omega
  | succ n ih =>
    intro m h1 h2 c hc
    by_cases h : m < 10
    · rw [Nat.toDigits_of_lt_base h] at hc
      have e := digit_back m h
      have hc : (Nat.digitChar m).toNat = c := by simpa using hc
      omega
    · have hm : m % 10 < 10 := Nat.mod_lt m (by decide)
      have t : Nat.toDigits 10 (m / 10) ++ Nat.toDigits 10 (m % 10) = Nat.toDigits 10 (10 * (m / 10) + m % 10) := Nat.toDigits_append_toDigits (by decide) (by omega) hm
      rw [Nat.div_add_mod] at t
      rw [← t, List.map_append] at hc
      refine ih (m / 10) (by omega) (by omega) c ?_
      cases e : (Nat.toDigits 10 (m / 10)).map Char.toNat with
      | nil =>
        have := toDigits_len_ge 10 (m / 10)
        have := congrArg List.length e
        rw [List.length_map] at this
        simp only [List.length_nil] at this
        omega
      | cons x l =>
        rw [e] at hc
        exact hc
theorem digs_dec {m : Nat} (h : 1 ≤ m) : Dec ((Nat.toDigits 10 m).map Char.toNat) := ⟨digs_dig m, digs_head m m (Nat.le_refl _) h⟩
/-- a text of digits is that of its number -/
theorem dec_back {cs : List Nat} (h : Dec cs) (hn : cs ≠ []) : (Nat.toDigits 10 (digitsVal cs)).map Char.toNat = cs :=
  dec_inj _ _ _ (Nat.le_refl _) (digs_dec (h.pos hn)) h (val_back _)
def decV : List Nat → Int
  | 45 :: cs => -((digitsVal cs : Nat) : Int)
  | cs => ((digitsVal cs : Nat) : Int)
theorem istr_nat (m : Nat) : istr ((m : Nat) : Int) = S ((Nat.toDigits 10 m).map Char.toNat) := by
  have h := signs_num m
  unfold istr
  rw [← S_list (Str.ofString _), h]
theorem istr_dec {cs : List Nat} (h : Dec cs) (hn : cs ≠ []) : istr ((digitsVal cs : Nat) : Int) = S cs := by
  rw [istr_nat, dec_back h hn]
theorem toStr_neg (m : Nat) : toString (-(((m + 1 : Nat)) : Int)) = "-" ++ Nat.repr (m + 1) := rfl
theorem istr_neg {cs : List Nat} (h : Dec cs) (hn : cs ≠ []) : istr (-((digitsVal cs : Nat) : Int)) = S (45 :: cs) := by
  have hp := h.pos hn
  obtain ⟨m, hm⟩ : ∃ m, digitsVal cs = m + 1 := ⟨digitsVal cs - 1, by omega⟩
  have e := dec_back h hn
  unfold istr
  rw [← S_list (Str.ofString _), hm, toStr_neg, signs_ofString, String.toList_append, Nat.toList_repr, List.map_append, ← hm, e]
  rfl
end Mea
set_option Elab.async false
set_option linter.all false
set_option maxRecDepth 100000
set_option maxHeartbeats 4000000
namespace Mea
open PySem L2 Wk Mi
local macro_rules | `(tactic| walk_at "rd") => `(tactic| simp only [mBody, mBodyF, fin, finF, finC, mSeq, seqK, mAsg, mAsgO, mRet, mRetN, mDrop, mNext, mIf, mTest, mTru, mAnd, mOr, mNot, mB, mAndV, mOrV, mNotV, mChain, mNil, mCons, mTup, mOp2, mUn, mSl, mPart, mNoPart, mC, mVar, oE, oN, oNil, oCons, mCB, rsv, rsvs, content, lift, setv, gmNil, gmCons, gmTup, mFrz, OD.d, mIter, walkD, mRange1, mRange2, mYes, aNil, aV, aS, aT, mCall, fCall, Mi.cellOf, cellsOf, apart, aparts, back, samePars, mPar, mAug, mRaise, mRaise0, mGet2, mSetIx, mPut, mAppend, mFor, Cell.isPar, Cell.olst, Cell.odk, Cell.put, fLst, fDk, fDict, fMove, bind_ok, bind_no, bind_err, List.cons_append, List.nil_append, List.replicate_succ, List.replicate_zero, List.getElem?_cons_zero, List.getElem?_cons_succ, List.getElem?_nil, List.set_cons_zero, List.set_cons_succ, List.length_cons, List.length_nil, List.take_succ_cons, List.take_zero, List.take_nil, Option.bind_some, Option.bind_none, Option.map_some, Option.map_none, List.all_nil, List.all_cons, Bool.and_true, Bool.true_and, Bool.and_false, Bool.false_and, Bool.not_true, Bool.not_false, decide_true, decide_false, reduceIte, Bool.false_eq_true, Bool.true_eq_false, if_true, if_false, beq_self_eq_true, Nat.reduceAdd, Nat.reduceEqDiff, Nat.reduceLeDiff, dAdd, dSub, dMulH, dMul, dDiv, dMod, dPow, dGt, dLt, dLe, dGe, dIx, ixL, dNeg, dAbs, dMax, dMin, dLen, dEqH, dNeH, eqH, eqB, eqS, atI_0, atI_1, atI_2, ixN_3_0, ixN_3_2, ne_eq, Int.reduceEq, Int.reduceNe, not_false_eq_true, not_true_eq_false, Int.reduceLT, Int.reduceLE, and_true, true_and, and_false, false_and, Int.reduceToNat, lim, Mi.key, fSorted, mM1, dStarts])
open PySem.NumText PySem.W.KIN PyProof.Rows
/-! ### read_power -/
theorem S_inj {a b : List Nat} (h : S a = S b) : a = b := by
  have := congrArg (fun z : Str => z.cps.toList) h
  exact this
theorem S_eq (a b : List Nat) : decide (S a = S b) = decide (a = b) := by
  by_cases h : a = b
  · rw [h]; simp
  · rw [decide_eq_false h, decide_eq_false fun z => h (S_inj z)]
theorem one_at : ∀ (t : List Nat) (b : Nat), (t.drop b).take 1 = t[b]?.toList
  | [], b => by simp
  | c :: t, 0 => rfl
  | c :: t, b + 1 => by simpa using one_at t b
theorem cut_one (t : List Nat) (b : Nat) : cutS (S t) (some (b : Int)) (some ((b : Int) + 1)) = S t[b]?.toList := by
  have h := cut_mid t b (b + 1) (by omega)
  rw [List.drop_take, Nat.add_sub_cancel_left, one_at] at h
  exact h
theorem one_is (o : Option Nat) (c : Nat) : decide (S o.toList = S [c]) = decide (o = some c) := by
  rw [S_eq]
  cases o with
  | none => simp
  | some d => simp
theorem one_none (o : Option Nat) : decide (S o.toList = S []) = decide (o = none) := by
  rw [S_eq]
  cases o with
  | none => simp
  | some d => simp
def isD1 (c : Nat) : Bool := decide (c ∈ (Str.ofString "123456789").cps.toList)
def e0Of (t : List Nat) (b : Nat) : Nat := if t[b + 1]? = some 45 then b + 2 else b + 1
def dgs (t : List Nat) (e : Nat) : List Nat := (t.drop e).takeWhile isD
def wOf (t : List Nat) (b : Nat) : List Nat := (t.take (e0Of t b + (dgs t (e0Of t b)).length)).drop (b + 1)
def readP (t : List Nat) (b : Nat) : Nat × Option Int :=
  if t[b]? = some 94 then
    match t[e0Of t b]? with
    | some c => if isD1 c then (e0Of t b + (dgs t (e0Of t b)).length, if wOf t b = [49] then none else some (decV (wOf t b))) else (e0Of t b, none)
    | none => (e0Of t b, none)
  else (b, some 1)
theorem isD_iff (c : Nat) : isD c = true ↔ 48 ≤ c ∧ c ≤ 57 := by
  have e : digitsS.cps.toList = [48, 49, 50, 51, 52, 53, 54, 55, 56, 57] := by decide +kernel
  unfold isD
  rw [e]
  simp
  omega
theorem isD1_iff (c : Nat) : isD1 c = true ↔ 49 ≤ c ∧ c ≤ 57 := by
  have e : (Str.ofString "123456789").cps.toList = [49, 50, 51, 52, 53, 54, 55, 56, 57] := by decide +kernel
  unfold isD1
  rw [e]
  simp
  omega
theorem takeWhile_all' {p : Nat → Bool} : ∀ (l : List Nat) (c : Nat), c ∈ l.takeWhile p → p c = true
  | [], c, h => by simp at h
  | d :: l, c, h => by
    rw [List.takeWhile_cons] at h
    split at h
    · rename_i e
      rcases List.mem_cons.mp h with rfl | h
      · exact e
      · exact takeWhile_all' l c h
    · simp at h
theorem drop_at {t : List Nat} {e c : Nat} (h : t[e]? = some c) : t.drop e = c :: t.drop (e + 1) := by
  obtain ⟨hl, rfl⟩ := List.getElem?_eq_some_iff.mp h
  exact List.drop_eq_getElem_cons hl
theorem dgs_dec {t : List Nat} {e c : Nat} (h : t[e]? = some c) (hc : isD1 c = true) : Dec (dgs t e) ∧ dgs t e ≠ [] := by
  have h1 := (isD1_iff c).mp hc
  have hd : isD c = true := (isD_iff c).mpr (by omega)
  have e1 : dgs t e = c :: (t.drop (e + 1)).takeWhile isD := by
    unfold dgs
    rw [drop_at h, List.takeWhile_cons, hd]
    rfl
  refine ⟨⟨fun d hd' => (isD_iff d).mp (takeWhile_all' _ d hd'), fun d hd' => ?_⟩, by rw [e1]; simp⟩
  rw [e1] at hd'
  have : c = d := by simpa using hd'
  omega
theorem dgs_len (t : List Nat) (e : Nat) : (dgs t e).length ≤ t.countP isD ∧ e + (dgs t e).length ≤ max e t.length := by
  unfold dgs
  constructor
  · have h1 : ((t.drop e).takeWhile isD).countP isD = ((t.drop e).takeWhile isD).length := List.countP_eq_length.mpr fun c hc => takeWhile_all' _ c hc
    rw [← h1]
    refine Nat.le_trans (List.Sublist.countP_le (List.takeWhile_sublist _)) (List.Sublist.countP_le (List.drop_sublist _ _))
  · have h := (List.takeWhile_sublist isD (l := t.drop e)).length_le
    rw [List.length_drop] at h
    omega
theorem take_dgs (t : List Nat) (e : Nat) : (t.drop e).take (dgs t e).length = dgs t e := take_takeWhile _
theorem wOf_eq (t : List Nat) (b : Nat) : wOf t b = (if t[b + 1]? = some 45 then [45] else []) ++ dgs t (e0Of t b) := by
  unfold wOf
  rw [List.drop_take]
  by_cases h : t[b + 1]? = some 45
  · have e : e0Of t b = b + 2 := by unfold e0Of; rw [if_pos h]
    rw [e, if_pos h, drop_at h]
    have k : b + 2 + (dgs t (b + 2)).length - (b + 1) = (dgs t (b + 2)).length + 1 := by omega
    rw [k, List.take_succ_cons, take_dgs]
    rfl
  · have e : e0Of t b = b + 1 := by unfold e0Of; rw [if_neg h]
    rw [e, if_neg h]
    have k : b + 1 + (dgs t (b + 1)).length - (b + 1) = (dgs t (b + 1)).length := by omega
    rw [k, take_dgs]
    rfl
theorem decV_dec {cs : List Nat} (h : Dec cs) (hn : cs ≠ []) : decV cs = ((digitsVal cs : Nat) : Int) := by
  cases cs with
  | nil => exact absurd rfl hn
  | cons c cs =>
    have := h.hd c rfl
    unfold decV
    split
    · rename_i e
      injection e with e1 e2
      omega
    · rfl
theorem dec_one {cs : List Nat} (h : Dec cs) (hn : cs ≠ []) (e : digitsVal cs = 1) : cs = [49] :=
  dec_inj _ _ _ (Nat.le_refl _) h ⟨fun c hc => by simp at hc; omega, fun c hc => by simp at hc; omega⟩ e
/-- the number of a power's text -/
theorem wOf_int {t : List Nat} {b c : Nat} (h : t[e0Of t b]? = some c) (hc : isD1 c = true) (hs : t.countP isD ≤ 600) :
    intText? (S (wOf t b)) = some (decV (wOf t b)) ∧ (wOf t b).length ≤ 640 ∧ (decV (wOf t b) = 1 ↔ wOf t b = [49]) ∧ istr (decV (wOf t b)) = S (wOf t b) := by
  obtain ⟨hd, hn⟩ := dgs_dec h hc
  have hl := (dgs_len t (e0Of t b)).1
  rw [wOf_eq]
  generalize dgs t (e0Of t b) = cs at *
  have hp := hd.pos hn
  by_cases z : t[b + 1]? = some 45
  · rw [if_pos z]
    have e : decV ([45] ++ cs) = -((digitsVal cs : Nat) : Int) := rfl
    refine ⟨?_, by simp; omega, ?_, ?_⟩
    · rw [e]
      exact intText_neg (cs := cs) rfl hd.dig hn (by rw [S_len]; simp; omega)
    · rw [e]
      refine ⟨fun q => by omega, fun q => ?_⟩
      have := congrArg List.head? q
      simp at this
    · rw [e]
      exact istr_neg hd hn
  · rw [if_neg z, List.nil_append]
    have e := decV_dec hd hn
    refine ⟨?_, by omega, ?_, ?_⟩
    · rw [e]
      exact intText_digits (x := S cs) hd.dig hn (by rw [S_len]; omega)
    · rw [e]
      refine ⟨fun q => dec_one hd hn (by omega), fun q => ?_⟩
      rw [q]
      rfl
    · rw [e]
      exact istr_dec hd hn
end Mea
set_option Elab.async false
set_option linter.all false
set_option maxRecDepth 100000
set_option maxHeartbeats 4000000
namespace Mea
open PySem L2 Wk Mi
local macro_rules | `(tactic| walk_at "rd") => `(tactic| simp only [mBody, mBodyF, fin, finF, finC, mSeq, seqK, mAsg, mAsgO, mRet, mRetN, mDrop, mNext, mIf, mTest, mTru, mAnd, mOr, mNot, mB, mAndV, mOrV, mNotV, mChain, mNil, mCons, mTup, mOp2, mUn, mSl, mPart, mNoPart, mC, mVar, oE, oN, oNil, oCons, mCB, rsv, rsvs, content, lift, setv, gmNil, gmCons, gmTup, mFrz, OD.d, mIter, walkD, mRange1, mRange2, mYes, aNil, aV, aS, aT, mCall, fCall, Mi.cellOf, cellsOf, apart, aparts, back, samePars, mPar, mAug, mRaise, mRaise0, mGet2, mSetIx, mPut, mAppend, mFor, Cell.isPar, Cell.olst, Cell.odk, Cell.put, fLst, fDk, fDict, fMove, bind_ok, bind_no, bind_err, List.cons_append, List.nil_append, List.replicate_succ, List.replicate_zero, List.getElem?_cons_zero, List.getElem?_cons_succ, List.getElem?_nil, List.set_cons_zero, List.set_cons_succ, List.length_cons, List.length_nil, List.take_succ_cons, List.take_zero, List.take_nil, Option.bind_some, Option.bind_none, Option.map_some, Option.map_none, List.all_nil, List.all_cons, Bool.and_true, Bool.true_and, Bool.and_false, Bool.false_and, Bool.not_true, Bool.not_false, decide_true, decide_false, reduceIte, Bool.false_eq_true, Bool.true_eq_false, if_true, if_false, beq_self_eq_true, Nat.reduceAdd, Nat.reduceEqDiff, Nat.reduceLeDiff, dAdd, dSub, dMulH, dMul, dDiv, dMod, dPow, dGt, dLt, dLe, dGe, dIx, ixL, dNeg, dAbs, dMax, dMin, dLen, dEqH, dNeH, eqH, eqB, eqS, atI_0, atI_1, atI_2, ixN_3_0, ixN_3_2, ne_eq, Int.reduceEq, Int.reduceNe, not_false_eq_true, not_true_eq_false, Int.reduceLT, Int.reduceLE, and_true, true_and, and_false, false_and, Int.reduceToNat, lim, Mi.key, fSorted, mM1, dStarts])
open PySem.NumText PySem.W.KIN PyProof.Rows
theorem dg_loop {t : List Nat} {b e : Nat} {x : Cell} (ht : t.length ≤ 900) (he : e ≤ t.length) :
    whileL (mAnd (mTest (mOp2 dLt (oN 2) (oE (mCB dLen (oCons (oN 0) oNil))))) (mTest (mOp2 dIn (oE (mOp2 dIx (oN 0) (oN 2))) (oE (mC (.str "0123456789")))))) (mAug 2 (· + ·) (mC (.int 1))) wf
      [.val (.str (S t)), .val (.int (b : Nat)), .val (.int (e : Nat)), x] = .ok .nx [.val (.str (S t)), .val (.int (b : Nat)), .val (.int ((e + (dgs t e).length : Nat) : Int)), x] := by
  have c0 : ((S t).length ≤ 100000) = True := by rw [S_len]; simp only [eq_iff_iff, iff_true]; omega
  have hk := (dgs_len t e).2
  refine whileL_run (fun j => [.val (.str (S t)), .val (.int (b : Nat)), .val (.int (j : Nat)), x]) (dgs t e).length e wf (by unfold wf; omega) (fun j h0 hj => ?_) ?_
  · obtain ⟨h1, h2⟩ := takeWhile_lt (p := isD) (t.drop e) (j - e) (by unfold dgs at hj; omega)
    rw [List.length_drop] at h1
    rw [List.getElem_drop] at h2
    have ej : e + (j - e) = j := by omega
    simp only [ej] at h2
    have hjl : j < t.length := by omega
    have d1 : decide ((j : Int) < ((S t).length : Int)) = true := by rw [S_len]; exact decide_eq_true (by omega)
    have a1 : atI (S t).cps.toList (j : Int) = some t[j] := atI_nat hjl
    have h3 : decide (t[j] ∈ (Str.ofString "0123456789").cps.toList) = true := h2
    refine ⟨?_, ?_⟩
    · iterate 6 (first | (walk_at "rd"; done) | (try walk_at "rd"; try simp only [c0, d1, a1, dIn, inB, h3]))
    · iterate 3 (first | (walk_at "rd"; done) | (try walk_at "rd"))
      rfl
  · by_cases h : e + (dgs t e).length < t.length
    · have d1 : decide (((e + (dgs t e).length : Nat) : Int) < ((S t).length : Int)) = true := by rw [S_len]; exact decide_eq_true (by omega)
      have a1 : atI (S t).cps.toList ((e + (dgs t e).length : Nat) : Int) = some t[e + (dgs t e).length] := atI_nat h
      have h3 : decide (t[e + (dgs t e).length] ∈ (Str.ofString "0123456789").cps.toList) = false := by
        have h4 := takeWhile_end (p := isD) (t.drop e) (by rw [List.length_drop]; show (dgs t e).length < _; omega)
        rw [List.getElem_drop] at h4
        exact h4
      iterate 6 (first | (walk_at "rd"; done) | (try walk_at "rd"; try simp only [c0, d1, a1, dIn, inB, h3]))
    · have d1 : decide (((e + (dgs t e).length : Nat) : Int) < ((S t).length : Int)) = false := by rw [S_len]; exact decide_eq_false (by omega)
      iterate 6 (first | (walk_at "rd"; done) | (try walk_at "rd"; try simp only [c0, d1]))
theorem readP_ok (n : Nat) (t : List Nat) (b : Nat) (ht : t.length ≤ 900) (hs : t.countP isD ≤ 600) :
    run (n + 1) 17 [.val (.str (S t)), .val (.int (b : Nat))] = match readP t b with
      | (e, some v) => .ok (.tup [.int (e : Nat), .int v]) [.val (.str (S t)), .val (.int (b : Nat))]
      | (e, none) => .err ⟨0, [.int (e : Nat)]⟩ [.val (.str (S t)), .val (.int (b : Nat))] := by
  have c0 : ((S t).length ≤ 100000) = True := by rw [S_len]; simp only [eq_iff_iff, iff_true]; omega
  have u1 := cut_one t b
  have u2 : cutS (S t) (some ((b : Int) + 1)) (some ((b : Int) + 2)) = S t[b + 1]?.toList := cut_one t (b + 1)
  have v1 := one_is t[b]? 94
  have v2 := one_is t[b + 1]? 45
  have l1 : S [94] = "^" := rfl
  have l2 : S [45] = "-" := rfl
  have l3 : S [] = "" := rfl
  have k1 : ((Str.ofString "0123456789").length ≤ 100000) = True := by simp only [eq_iff_iff, iff_true]; decide +kernel
  have k2 : cutS (Str.ofString "0123456789") (some 1) none = Str.ofString "123456789" := by decide +kernel
  rw [l1] at v1
  rw [l2] at v2
  show mBody 2 (m_read_power (run n) (runF n)) _ = _
  unfold m_read_power
  obtain ⟨tail, htail⟩ : ∃ x : Mi.Env → Out Fl, x = mSeq (mIf (mOr (mTest (mOp2 dEqH (oE (mSl (oN 0) (mPart (mVar 2)) (mPart (mOp2 dAdd (oN 2) (oE (mC (.int 1))))))) (oE (mC (.str ""))))) (mTest (mOp2 dNotIn (oE (mOp2 dIx (oN 0) (oN 2))) (oE (mSl (oE (mC (.str "0123456789"))) (mPart (mC (.int 1))) mNoPart))))) (mRaise 0 (mVar 2)) mNext)
        (mSeq (whileL (mAnd (mTest (mOp2 dLt (oN 2) (oE (mCB dLen (oCons (oN 0) oNil))))) (mTest (mOp2 dIn (oE (mOp2 dIx (oN 0) (oN 2))) (oE (mC (.str "0123456789")))))) (mAug 2 (· + ·) (mC (.int 1))) wf)
        (mSeq (mAsg (mCB dInt (oCons (oE (mSl (oN 0) (mPart (mOp2 dAdd (oN 1) (oE (mC (.int 1))))) (mPart (mVar 2)))) oNil)) (setv 3))
        (mSeq (mIf (mTest (mOp2 dEqH (oN 3) (oE (mC (.int 1))))) (mRaise 0 (mVar 2)) mNext)
        (mRet (mTup (mCons (mVar 2) (mCons (mVar 3) mNil))))))) := ⟨_, rfl⟩
  rw [← htail]
  by_cases h1 : t[b]? = some 94
  · rw [decide_eq_true h1] at v1
    have he0 : ∃ e0 : Nat, e0 = e0Of t b := ⟨_, rfl⟩
    obtain ⟨e0, he⟩ := he0
    have hb0 : b < t.length := (List.getElem?_eq_some_iff.mp h1).1
    have rp : readP t b = match t[e0]? with
      | some c => if isD1 c then (e0 + (dgs t e0).length, if wOf t b = [49] then none else some (decV (wOf t b))) else (e0, none)
      | none => (e0, none) := by unfold readP; rw [if_pos h1, he] <;> rfl
    have u3 := cut_one t e0
    have v3 := one_none t[e0]?
    rw [l3] at v3
    have main : ∀ i : Int, i = (e0 : Int) → ∃ y, tail [.val (.str (S t)), .val (.int (b : Nat)), .val (.int i), .no] = match readP t b with
          | (e, some v) => .ok (.rt (.tup [.int (e : Nat), .int v])) [.val (.str (S t)), .val (.int (b : Nat)), .val (.int (e : Nat)), y]
          | (e, none) => .err ⟨0, [.int (e : Nat)]⟩ [.val (.str (S t)), .val (.int (b : Nat)), .val (.int (e : Nat)), y] := by
      rw [htail]
      rintro i rfl
      rw [rp]
      cases h2 : t[e0]? with
      | none =>
        rw [decide_eq_true h2] at v3
        rw [h2] at v3 u3
        refine ⟨.no, ?_⟩
        iterate 8 (first | (walk_at "rd"; done) | (try walk_at "rd"; try simp only [dSl, c0, u3, v3, if_true]))
      | some c =>
        obtain ⟨hl, hg⟩ := List.getElem?_eq_some_iff.mp h2
        have a1 : atI (S t).cps.toList (e0 : Int) = some c := by
          have : atI (S t).cps.toList (e0 : Int) = some t[e0] := atI_nat hl
          rw [this, hg]
        have v3 : decide (S (some c).toList = "") = false := by
          have := one_none (some c)
          rw [l3] at this
          rw [this]
          simp
        rw [h2] at u3
        cases h3 : isD1 c with
        | false =>
          have h3' : decide (c ∈ (Str.ofString "123456789").cps.toList) = false := h3
          refine ⟨.no, ?_⟩
          iterate 8 (first | (walk_at "rd"; done) | (try walk_at "rd"; try simp only [dSl, c0, u3, v3, a1, k1, k2, dNotIn, inB, h3', h3, if_true]))
        | true =>
          have h3' : decide (c ∈ (Str.ofString "123456789").cps.toList) = true := h3
          have loop := dg_loop (b := b) (x := .no) ht (e := e0) (by omega)
          obtain ⟨w1, w2, w3, w4⟩ := wOf_int (t := t) (b := b) (c := c) (by rw [← he]; exact h2) h3 hs
          have be : b + 1 ≤ e0 + (dgs t e0).length := by
            rw [he]
            unfold e0Of
            split <;> omega
          have cu : cutS (S t) (some ((b : Int) + 1)) (some ((e0 + (dgs t e0).length : Nat) : Int)) = S (wOf t b) := by
            have := cut_mid t (b + 1) (e0 + (dgs t e0).length) be
            rw [he] at this ⊢
            exact this
          have g1 : ((S (wOf t b)).length ≤ 640) = True := by rw [S_len]; simp only [eq_iff_iff, iff_true]; exact w2
          by_cases h4 : wOf t b = [49]
          · have o1 : decV (wOf t b) = 1 := w3.mpr h4
            rw [o1] at w1
            rw [if_pos h4]
            refine ⟨.val (.int 1), ?_⟩
            iterate 14 (first | (walk_at "rd"; done) | (try walk_at "rd"; try simp only [dSl, c0, u3, v3, a1, k1, k2, dNotIn, inB, h3', h3, if_true, loop, cu, dInt, g1, w1]))
          · have o1 : decide (decV (wOf t b) = 1) = false := decide_eq_false fun z => h4 (w3.mp z)
            rw [if_neg h4]
            refine ⟨.val (.int (decV (wOf t b))), ?_⟩
            iterate 14 (first | (walk_at "rd"; done) | (try walk_at "rd"; try simp only [dSl, c0, u3, v3, a1, k1, k2, dNotIn, inB, h3', h3, if_true, loop, cu, dInt, g1, w1, o1]))
    by_cases h2 : t[b + 1]? = some 45
    · rw [decide_eq_true h2] at v2
      obtain ⟨y, m⟩ := main ((b : Int) + 2) (by rw [he]; unfold e0Of; rw [if_pos h2]; rfl)
      revert m
      cases readP t b with
      | mk e o =>
        cases o with
        | none =>
          intro m
          simp only at m ⊢
          iterate 8 (first | (walk_at "rd"; done) | (try walk_at "rd"; try simp only [dSl, c0, u1, u2, v1, v2, m, if_true]))
        | some v =>
          intro m
          simp only at m ⊢
          iterate 8 (first | (walk_at "rd"; done) | (try walk_at "rd"; try simp only [dSl, c0, u1, u2, v1, v2, m, if_true]))
    · rw [decide_eq_false h2] at v2
      obtain ⟨y, m⟩ := main ((b : Int) + 1) (by rw [he]; unfold e0Of; rw [if_neg h2]; rfl)
      revert m
      cases readP t b with
      | mk e o =>
        cases o with
        | none =>
          intro m
          simp only at m ⊢
          iterate 8 (first | (walk_at "rd"; done) | (try walk_at "rd"; try simp only [dSl, c0, u1, u2, v1, v2, m, if_true]))
        | some v =>
          intro m
          simp only at m ⊢
          iterate 8 (first | (walk_at "rd"; done) | (try walk_at "rd"; try simp only [dSl, c0, u1, u2, v1, v2, m, if_true]))
  · rw [decide_eq_false h1] at v1
    have rp : readP t b = (b, some 1) := by unfold readP; rw [if_neg h1]
    rw [rp]
    iterate 8 (first | (walk_at "rd"; done) | (try walk_at "rd"; try simp only [dSl, c0, u1, v1, if_true]))
end Mea
set_option Elab.async false
set_option linter.all false
set_option maxRecDepth 100000
set_option maxHeartbeats 4000000
namespace Mea
open PySem L2 Wk Mi
local macro_rules | `(tactic| walk_at "rd") => `(tactic| simp only [mBody, mBodyF, fin, finF, finC, mSeq, seqK, mAsg, mAsgO, mRet, mRetN, mDrop, mNext, mIf, mTest, mTru, mAnd, mOr, mNot, mB, mAndV, mOrV, mNotV, mChain, mNil, mCons, mTup, mOp2, mUn, mSl, mPart, mNoPart, mC, mVar, oE, oN, oNil, oCons, mCB, rsv, rsvs, content, lift, setv, gmNil, gmCons, gmTup, mFrz, OD.d, mIter, walkD, mRange1, mRange2, mYes, aNil, aV, aS, aT, mCall, fCall, Mi.cellOf, cellsOf, apart, aparts, back, samePars, mPar, mAug, mRaise, mRaise0, mGet2, mSetIx, mPut, mAppend, mFor, Cell.isPar, Cell.olst, Cell.odk, Cell.put, fLst, fDk, fDict, fMove, bind_ok, bind_no, bind_err, List.cons_append, List.nil_append, List.replicate_succ, List.replicate_zero, List.getElem?_cons_zero, List.getElem?_cons_succ, List.getElem?_nil, List.set_cons_zero, List.set_cons_succ, List.length_cons, List.length_nil, List.take_succ_cons, List.take_zero, List.take_nil, Option.bind_some, Option.bind_none, Option.map_some, Option.map_none, List.all_nil, List.all_cons, Bool.and_true, Bool.true_and, Bool.and_false, Bool.false_and, Bool.not_true, Bool.not_false, decide_true, decide_false, reduceIte, Bool.false_eq_true, Bool.true_eq_false, if_true, if_false, beq_self_eq_true, Nat.reduceAdd, Nat.reduceEqDiff, Nat.reduceLeDiff, dAdd, dSub, dMulH, dMul, dDiv, dMod, dPow, dGt, dLt, dLe, dGe, dIx, ixL, dNeg, dAbs, dMax, dMin, dLen, dEqH, dNeH, eqH, eqB, eqS, atI_0, atI_1, atI_2, ixN_3_0, ixN_3_2, ne_eq, Int.reduceEq, Int.reduceNe, not_false_eq_true, not_true_eq_false, Int.reduceLT, Int.reduceLE, and_true, true_and, and_false, false_and, Int.reduceToNat, lim, Mi.key, fSorted, mM1, dStarts])
/-! ### the order of texts, and who may follow -/
theorem lt_app : ∀ (x y l : List Nat), l < x → l < x ++ y
  | [], y, l, h => absurd h (List.not_lt_nil l)
  | c :: x, y, [], _ => List.nil_lt_cons _ _
  | c :: x, y, d :: l, h => by
    rw [List.cons_append]
    rcases List.cons_lt_cons_iff.mp h with h' | ⟨rfl, h'⟩
    · exact List.cons_lt_cons_iff.mpr (.inl h')
    · exact List.cons_lt_cons_iff.mpr (.inr ⟨rfl, lt_app x y l h'⟩)
theorem lt_up {c d : Nat} {r s : List Nat} (hcd : c < d) : ∀ (q l : List Nat), l < q ++ c :: r → l < q ++ d :: s
  | [], [], _ => List.nil_lt_cons _ _
  | [], e :: l, h => by
    rcases List.cons_lt_cons_iff.mp h with h' | ⟨rfl, h'⟩
    · exact List.cons_lt_cons_iff.mpr (.inl (by omega))
    · exact List.cons_lt_cons_iff.mpr (.inl hcd)
  | x :: q, [], _ => List.nil_lt_cons _ _
  | x :: q, e :: l, h => by
    rw [List.cons_append] at h ⊢
    rcases List.cons_lt_cons_iff.mp h with h' | ⟨rfl, h'⟩
    · exact List.cons_lt_cons_iff.mpr (.inl h')
    · exact List.cons_lt_cons_iff.mpr (.inr ⟨rfl, lt_up hcd q l h'⟩)
theorem lt_cut : ∀ (m r l : List Nat), l < m ++ r → l.take m.length ≠ m → l < m
  | [], r, l, _, h => absurd (by simp) h
  | c :: m, r, [], _, _ => List.nil_lt_cons _ _
  | c :: m, r, d :: l, h, hn => by
    rw [List.cons_append] at h
    rcases List.cons_lt_cons_iff.mp h with h' | ⟨rfl, h'⟩
    · exact List.cons_lt_cons_iff.mpr (.inl h')
    · refine List.cons_lt_cons_iff.mpr (.inr ⟨rfl, lt_cut m r l h' fun z => hn ?_⟩)
      rw [List.length_cons, List.take_succ_cons, z]
def hit (L q : List Nat) (lt : List Nat → List Nat) (c : Nat) : Bool :=
  (decide (L < q ++ [c]) && !decide (L.take (q ++ [c]).length = q ++ [c])) || (decide (L.take (q ++ [c]).length = q ++ [c]) && decide (L < lt (q ++ [c])))
theorem claimB {q L nx : List Nat} {lt : List Nat → List Nat} {F : Bool} (h0 : ∃ r, lt q = q ++ r) (hnil : nx = [] → lt q = q ∧ F = true)
    (hmax : nx ≠ [] → ∃ t ∈ nx, (∀ c ∈ nx, c ≤ t) ∧ lt (q ++ [t]) = lt q) (hpre : ∀ c ∈ nx, ∃ r, lt (q ++ [c]) = q ++ c :: r) :
    ((F && decide (L < q)) || nx.any (hit L q lt)) = decide (L < lt q) := by
  rw [Bool.eq_iff_iff, Bool.or_eq_true, Bool.and_eq_true, List.any_eq_true, decide_eq_true_iff, decide_eq_true_iff]
  constructor
  · rintro (⟨_, h⟩ | ⟨c, hc, h⟩)
    · obtain ⟨r, e⟩ := h0
      rw [e]
      exact lt_app _ _ _ h
    · obtain ⟨t, ht, h1, h2⟩ := hmax fun e => by rw [e] at hc; cases hc
      obtain ⟨r, e⟩ := hpre t ht
      have hct := h1 c hc
      unfold hit at h
      rw [Bool.or_eq_true, Bool.and_eq_true, Bool.and_eq_true, decide_eq_true_iff, decide_eq_true_iff, decide_eq_true_iff] at h
      rw [← h2, e]
      rcases h with ⟨h, _⟩ | ⟨_, h⟩
      · by_cases z : c = t
        · subst z
          have := lt_app _ r _ h
          rwa [List.append_assoc] at this
        · exact lt_up (r := []) (by omega) q L h
      · by_cases z : c = t
        · subst z
          rwa [e] at h
        · obtain ⟨r', e'⟩ := hpre c hc
          rw [e'] at h
          exact lt_up (by omega) q L h
  · intro h
    by_cases hn : nx = []
    · obtain ⟨e, f⟩ := hnil hn
      rw [e] at h
      exact .inl ⟨f, h⟩
    · obtain ⟨t, ht, h1, h2⟩ := hmax hn
      obtain ⟨r, e⟩ := hpre t ht
      refine .inr ⟨t, ht, ?_⟩
      unfold hit
      rw [Bool.or_eq_true, Bool.and_eq_true, Bool.and_eq_true, decide_eq_true_iff, decide_eq_true_iff, decide_eq_true_iff]
      by_cases z : L.take (q ++ [t]).length = q ++ [t]
      · exact .inr ⟨z, by rw [h2]; exact h⟩
      · refine .inl ⟨?_, by simpa using z⟩
        rw [← h2, e] at h
        refine lt_cut (q ++ [t]) r L ?_ z
        rw [List.append_assoc]
        exact h
end Mea
set_option Elab.async false
set_option linter.all false
set_option maxRecDepth 100000
set_option maxHeartbeats 4000000
namespace Mea
open PySem L2 Wk Mi
local macro_rules | `(tactic| walk_at "rd") => `(tactic| simp only [mBody, mBodyF, fin, finF, finC, mSeq, seqK, mAsg, mAsgO, mRet, mRetN, mDrop, mNext, mIf, mTest, mTru, mAnd, mOr, mNot, mB, mAndV, mOrV, mNotV, mChain, mNil, mCons, mTup, mOp2, mUn, mSl, mPart, mNoPart, mC, mVar, oE, oN, oNil, oCons, mCB, rsv, rsvs, content, lift, setv, gmNil, gmCons, gmTup, mFrz, OD.d, mIter, walkD, mRange1, mRange2, mYes, aNil, aV, aS, aT, mCall, fCall, Mi.cellOf, cellsOf, apart, aparts, back, samePars, mPar, mAug, mRaise, mRaise0, mGet2, mSetIx, mPut, mAppend, mFor, Cell.isPar, Cell.olst, Cell.odk, Cell.put, fLst, fDk, fDict, fMove, bind_ok, bind_no, bind_err, List.cons_append, List.nil_append, List.replicate_succ, List.replicate_zero, List.getElem?_cons_zero, List.getElem?_cons_succ, List.getElem?_nil, List.set_cons_zero, List.set_cons_succ, List.length_cons, List.length_nil, List.take_succ_cons, List.take_zero, List.take_nil, Option.bind_some, Option.bind_none, Option.map_some, Option.map_none, List.all_nil, List.all_cons, Bool.and_true, Bool.true_and, Bool.and_false, Bool.false_and, Bool.not_true, Bool.not_false, decide_true, decide_false, reduceIte, Bool.false_eq_true, Bool.true_eq_false, if_true, if_false, beq_self_eq_true, Nat.reduceAdd, Nat.reduceEqDiff, Nat.reduceLeDiff, dAdd, dSub, dMulH, dMul, dDiv, dMod, dPow, dGt, dLt, dLe, dGe, dIx, ixL, dNeg, dAbs, dMax, dMin, dLen, dEqH, dNeH, eqH, eqB, eqS, atI_0, atI_1, atI_2, ixN_3_0, ixN_3_2, ne_eq, Int.reduceEq, Int.reduceNe, not_false_eq_true, not_true_eq_false, Int.reduceLT, Int.reduceLE, and_true, true_and, and_false, false_and, Int.reduceToNat, lim, Mi.key, fSorted, mM1, dStarts])
/-! ### beginnings of factors -/
theorem isL_iff (c : Nat) : isL c = true ↔ 97 ≤ c ∧ c ≤ 122 := by
  have e : letters.cps.toList = [97, 98, 99, 100, 101, 102, 103, 104, 105, 106, 107, 108, 109, 110, 111, 112, 113, 114, 115, 116, 117, 118, 119, 120, 121, 122] := by decide +kernel
  unfold isL
  rw [e]
  simp
  omega
theorem starts_q (l : List Nat) (c : Nat) : Txt.startswith (S l) ⟨#[c]⟩ = decide (l.head? = some c) := by
  unfold Txt.startswith Builtin.Str.subAt
  cases l with
  | nil => rfl
  | cons d l =>
    have h1 : decide (0 + (⟨#[c]⟩ : Str).length ≤ (S (d :: l)).length) = true := by
      rw [S_len]
      exact decide_eq_true (by show 0 + 1 ≤ _; simp)
    rw [h1, Bool.true_and]
    show ((d :: l).toArray.extract 0 (0 + 1) == #[c]) = _
    have e : (d :: l).toArray.extract 0 (0 + 1) = #[d] := by simp
    rw [e, List.head?_cons]
    by_cases z : d = c
    · subst z; simp
    · have : ¬ (some d = some c) := fun y => z (Option.some.inj y)
      rw [decide_eq_false this]
      simp [z]
theorem starts_quote (l : List Nat) : Txt.startswith (S l) "'" = decide (l.head? = some 39) := starts_q l 39
theorem starts_0 (l : List Nat) : Txt.startswith (S l) "0" = decide (l.head? = some 48) := starts_q l 48
structure RepQ (q qt a d : List Nat) : Prop where
  eq : q = qt ++ (a ++ d)
  hq : qt = [] ∨ qt = [39]
  ha : ∀ c ∈ a, isL c = true
  hd : ∀ c ∈ d, isD c = true
  la : a.length ≤ 6
  ld : d.length ≤ 3
  ad : a = [] → d = []
  h0 : d.head? ≠ some 48
theorem tw_app {a d : List Nat} (ha : ∀ c ∈ a, isL c = true) (hd : ∀ c ∈ d, isD c = true) : (a ++ d).takeWhile isL = a := by
  rw [List.takeWhile_append_of_pos ha]
  cases d with
  | nil => simp
  | cons c d =>
    have h := (isD_iff c).mp (hd c (by simp))
    have : isL c = false := by
      cases e : isL c with
      | false => rfl
      | true => have := (isL_iff c).mp e; omega
    rw [List.takeWhile_cons, this]
    simp
theorem head_not_q {a d : List Nat} (ha : ∀ c ∈ a, isL c = true) (ad : a = [] → d = []) : (a ++ d).head? ≠ some 39 := by
  cases a with
  | nil => rw [ad rfl]; simp
  | cons c a =>
    have := (isL_iff c).mp (ha c (by simp))
    simp
    omega
theorem unq_rep {q qt a d : List Nat} (h : RepQ q qt a d) : unq q = a ++ d := by
  unfold unq
  rw [starts_quote]
  rcases h.hq with e | e
  · have := h.eq
    rw [e, List.nil_append] at this
    rw [this, decide_eq_false (head_not_q h.ha h.ad)]
    rfl
  · have := h.eq
    rw [e] at this
    rw [this]
    rfl
theorem begunW_parts {a d : List Nat} (ha : ∀ c ∈ a, isL c = true) (hd : ∀ c ∈ d, isD c = true) (hne : a ≠ []) (la : a.length ≤ 6) (ld : d.length ≤ 3) (h0 : d.head? ≠ some 48) : begunW (a ++ d) = true := by
  have hl : 1 ≤ a.length := by cases a with
    | nil => exact absurd rfl hne
    | cons c a => simp
  unfold begunW
  simp only [tw_app ha hd, List.drop_left, starts_0]
  have e1 : d.all isD = true := List.all_eq_true.mpr hd
  rw [decide_eq_true ⟨hl, la⟩, decide_eq_true ld, e1, decide_eq_false h0]
  rfl
theorem begun_rep {q qt a d : List Nat} (h : RepQ q qt a d) : begunT q = true := by
  unfold begunT
  rw [unq_rep h]
  by_cases hne : a = []
  · rw [hne, h.ad hne]
    rfl
  · rw [begunW_parts h.ha h.hd hne h.la h.ld h.h0, Bool.or_true]
theorem rep_begun {q : List Nat} (h : begunT q = true) : ∃ qt a d, RepQ q qt a d := by
  have hq : ∃ qt, q = qt ++ unq q ∧ (qt = [] ∨ qt = [39]) := by
    unfold unq
    rw [starts_quote]
    by_cases z : q.head? = some 39
    · refine ⟨[39], ?_, .inr rfl⟩
      rw [decide_eq_true z]
      cases q with
      | nil => cases z
      | cons c q =>
        have : c = 39 := by simpa using z
        rw [this]
        rfl
    · refine ⟨[], ?_, .inl rfl⟩
      rw [decide_eq_false z]
      rfl
  obtain ⟨qt, e, hq⟩ := hq
  unfold begunT at h
  generalize unq q = w at *
  rw [Bool.or_eq_true] at h
  rcases h with h | h
  · have : w = [] := S_inj (of_decide_eq_true h)
    subst this
    exact ⟨qt, [], [], ⟨e, hq, by simp, by simp, by simp, by simp, fun _ => rfl, by simp⟩⟩
  · unfold begunW at h
    simp only [Bool.and_eq_true, decide_eq_true_iff, starts_0, Bool.not_eq_true', decide_eq_false_iff_not] at h
    obtain ⟨⟨⟨h1, h2⟩, h3⟩, h4⟩ := h
    refine ⟨qt, w.takeWhile isL, w.drop (w.takeWhile isL).length, ⟨?_, hq, fun c hc => takeWhile_all' _ c hc, List.all_eq_true.mp h3, h1.2, h2, fun z => ?_, h4⟩⟩
    · have : w.takeWhile isL ++ w.drop (w.takeWhile isL).length = w := by
        conv => rhs; rw [← List.take_append_drop (w.takeWhile isL).length w]
        rw [take_takeWhile]
      rw [this]
      exact e
    · rw [z] at h1
      simp at h1
theorem qOf_rep {q qt a d : List Nat} (h : RepQ q qt a d) : qOf q = qt := by
  unfold qOf
  rw [starts_quote]
  rcases h.hq with e | e
  · have := h.eq
    rw [e, List.nil_append] at this
    rw [this, decide_eq_false (head_not_q h.ha h.ad), e]
    rfl
  · have := h.eq
    rw [e] at this
    rw [this, e]
    rfl
theorem aOf_rep {q qt a d : List Nat} (h : RepQ q qt a d) : aOf q = a := by
  unfold aOf
  rw [qOf_rep h, h.eq, List.drop_left, tw_app h.ha h.hd]
theorem dOf_rep {q qt a d : List Nat} (h : RepQ q qt a d) : dOf q = d := by
  unfold dOf
  rw [qOf_rep h, aOf_rep h, h.eq, ← List.append_assoc, ← List.length_append, List.drop_left]
theorem last_rep {q qt a d : List Nat} (h : RepQ q qt a d) : lastT q = qt ++ (if d = [] then a ++ List.replicate (6 - a.length) 122 else a) ++ d ++ List.replicate (3 - d.length) 57 := by
  unfold lastT a2Of
  rw [qOf_rep h, aOf_rep h, dOf_rep h]
theorem last_pre {q : List Nat} (hb : begunT q = true) : ∃ r, lastT q = q ++ r := by
  obtain ⟨qt, a, d, h⟩ := rep_begun hb
  rw [last_rep h]
  by_cases z : d = []
  · subst z
    refine ⟨List.replicate (6 - a.length) 122 ++ List.replicate 3 57, ?_⟩
    have e := h.eq
    rw [e, if_pos rfl]
    simp
  · refine ⟨List.replicate (3 - d.length) 57, ?_⟩
    have e := h.eq
    rw [e, if_neg z]
    simp
end Mea
set_option Elab.async false
set_option linter.all false
set_option maxRecDepth 100000
set_option maxHeartbeats 4000000
namespace Mea
open PySem L2 Wk Mi
local macro_rules | `(tactic| walk_at "rd") => `(tactic| simp only [mBody, mBodyF, fin, finF, finC, mSeq, seqK, mAsg, mAsgO, mRet, mRetN, mDrop, mNext, mIf, mTest, mTru, mAnd, mOr, mNot, mB, mAndV, mOrV, mNotV, mChain, mNil, mCons, mTup, mOp2, mUn, mSl, mPart, mNoPart, mC, mVar, oE, oN, oNil, oCons, mCB, rsv, rsvs, content, lift, setv, gmNil, gmCons, gmTup, mFrz, OD.d, mIter, walkD, mRange1, mRange2, mYes, aNil, aV, aS, aT, mCall, fCall, Mi.cellOf, cellsOf, apart, aparts, back, samePars, mPar, mAug, mRaise, mRaise0, mGet2, mSetIx, mPut, mAppend, mFor, Cell.isPar, Cell.olst, Cell.odk, Cell.put, fLst, fDk, fDict, fMove, bind_ok, bind_no, bind_err, List.cons_append, List.nil_append, List.replicate_succ, List.replicate_zero, List.getElem?_cons_zero, List.getElem?_cons_succ, List.getElem?_nil, List.set_cons_zero, List.set_cons_succ, List.length_cons, List.length_nil, List.take_succ_cons, List.take_zero, List.take_nil, Option.bind_some, Option.bind_none, Option.map_some, Option.map_none, List.all_nil, List.all_cons, Bool.and_true, Bool.true_and, Bool.and_false, Bool.false_and, Bool.not_true, Bool.not_false, decide_true, decide_false, reduceIte, Bool.false_eq_true, Bool.true_eq_false, if_true, if_false, beq_self_eq_true, Nat.reduceAdd, Nat.reduceEqDiff, Nat.reduceLeDiff, dAdd, dSub, dMulH, dMul, dDiv, dMod, dPow, dGt, dLt, dLe, dGe, dIx, ixL, dNeg, dAbs, dMax, dMin, dLen, dEqH, dNeH, eqH, eqB, eqS, atI_0, atI_1, atI_2, ixN_3_0, ixN_3_2, ne_eq, Int.reduceEq, Int.reduceNe, not_false_eq_true, not_true_eq_false, Int.reduceLT, Int.reduceLE, and_true, true_and, and_false, false_and, Int.reduceToNat, lim, Mi.key, fSorted, mM1, dStarts])
/-! ### the signs that can come next -/
def lettersN : List Nat := letters.cps.toList
def digits1N : List Nat := (Str.ofString "123456789").cps.toList
def digitsN : List Nat := digitsS.cps.toList
theorem mem_L (c : Nat) : c ∈ lettersN ↔ 97 ≤ c ∧ c ≤ 122 := by
  rw [← isL_iff]
  exact decide_eq_true_iff.symm
theorem mem_D (c : Nat) : c ∈ digitsN ↔ 48 ≤ c ∧ c ≤ 57 := by
  rw [← isD_iff]
  exact decide_eq_true_iff.symm
theorem mem_D1 (c : Nat) : c ∈ digits1N ↔ 49 ≤ c ∧ c ≤ 57 := by
  rw [← isD1_iff]
  exact decide_eq_true_iff.symm
def nextP (q : List Nat) : List Nat :=
  if unq q = [] then lettersN ++ (if q = [] then [39] else [])
  else if (unq q).all isL then (if (unq q).length < 6 then lettersN else []) ++ digits1N
  else if ((unq q).filter isD).length < 3 then digitsN else []
theorem D_not_L {c : Nat} (h : isD c = true) : isL c = false := by
  have := (isD_iff c).mp h
  cases e : isL c with
  | false => rfl
  | true => have := (isL_iff c).mp e; omega
theorem L_not_D {c : Nat} (h : isL c = true) : isD c = false := by
  cases e : isD c with
  | false => rfl
  | true => rw [D_not_L e] at h; cases h
theorem nextP_rep {q qt a d : List Nat} (h : RepQ q qt a d) : nextP q = if a = [] then lettersN ++ (if qt = [] then [39] else []) else if d = [] then (if a.length < 6 then lettersN else []) ++ digits1N else if d.length < 3 then digitsN else [] := by
  unfold nextP
  rw [unq_rep h]
  by_cases za : a = []
  · have zd := h.ad za
    have e := h.eq
    subst za
    subst zd
    have z : ([] ++ [] : List Nat) = [] := rfl
    rw [z, if_pos rfl, if_pos rfl, e]
    simp
  · rw [if_neg (fun z => za (List.append_eq_nil_iff.mp z).1), if_neg za]
    by_cases zd : d = []
    · subst zd
      rw [List.append_nil, if_pos (List.all_eq_true.mpr h.ha), if_pos rfl]
    · have : ¬ (a ++ d).all isL = true := fun z => by
        cases d with
        | nil => exact zd rfl
        | cons c d =>
          have h1 := List.all_eq_true.mp z c (by simp)
          rw [D_not_L (h.hd c (by simp))] at h1
          cases h1
      rw [if_neg this, if_neg zd]
      have e : (a ++ d).filter isD = d := by
        rw [List.filter_append, List.filter_eq_nil_iff.mpr fun c hc => by rw [L_not_D (h.ha c hc)]; decide, List.filter_eq_self.mpr h.hd, List.nil_append]
      rw [e]
theorem ext_a {q qt a : List Nat} {c : Nat} (h : RepQ q qt a []) (hc : isL c = true) (hl : a.length < 6) : RepQ (q ++ [c]) qt (a ++ [c]) [] :=
  ⟨by rw [h.eq]; simp, h.hq, fun x hx => by
    rcases List.mem_append.mp hx with hx | hx
    · exact h.ha x hx
    · rw [List.mem_singleton.mp hx]; exact hc, by simp, by rw [List.length_append]; simp; omega, by simp, fun _ => rfl, by simp⟩
theorem ext_d {q qt a d : List Nat} {c : Nat} (h : RepQ q qt a d) (ha : a ≠ []) (hc : isD c = true) (hl : d.length < 3) (h0 : d = [] → c ≠ 48) : RepQ (q ++ [c]) qt a (d ++ [c]) :=
  ⟨by rw [h.eq]; simp, h.hq, h.ha, fun x hx => by
    rcases List.mem_append.mp hx with hx | hx
    · exact h.hd x hx
    · rw [List.mem_singleton.mp hx]; exact hc, h.la, by rw [List.length_append]; simp; omega, fun z => absurd z ha, by
    cases d with
    | nil => simpa using h0 rfl
    | cons x d => exact h.h0⟩
theorem claimA {q : List Nat} (hb : begunT q = true) (c : Nat) : begunT (q ++ [c]) = decide (c ∈ nextP q) := by
  rw [Bool.eq_iff_iff, decide_eq_true_iff]
  constructor
  · intro h
    obtain ⟨qt, a, d, r⟩ := rep_begun h
    have e := r.eq
    rcases List.eq_nil_or_concat d with rfl | ⟨d', x, rfl⟩
    · rcases List.eq_nil_or_concat a with rfl | ⟨a', x, rfl⟩
      · rcases r.hq with rfl | rfl
        · simp at e
        · have : q = [] ∧ c = 39 := by
            cases q with
            | nil => simpa using e
            | cons y q => simp at e
          obtain ⟨rfl, rfl⟩ := this
          decide +kernel
      · simp only [List.concat_eq_append, List.append_nil] at *
        rw [← List.append_assoc] at e
        obtain ⟨e1, e2⟩ := List.append_inj' e rfl
        have e2 : c = x := by simpa using e2
        subst e2
        have hc := r.ha c (by simp)
        have hl := r.la
        rw [List.length_append] at hl
        have r' : RepQ q qt a' [] := ⟨by rw [e1]; simp, r.hq, fun y hy => r.ha y (List.mem_append_left _ hy), by simp, by simp at hl ⊢; omega, by simp, fun _ => rfl, by simp⟩
        have hm := (mem_L c).mpr ((isL_iff c).mp hc)
        rw [nextP_rep r']
        split
        · exact List.mem_append_left _ hm
        · rw [if_pos rfl, if_pos (by simp at hl; omega)]
          exact List.mem_append_left _ hm
    · simp only [List.concat_eq_append] at *
      rw [← List.append_assoc, ← List.append_assoc] at e
      obtain ⟨e1, e2⟩ := List.append_inj' e rfl
      have e2 : c = x := by simpa using e2
      subst e2
      have hc := (isD_iff c).mp (r.hd c (by simp))
      have hl := r.ld
      rw [List.length_append] at hl
      have hl : d'.length < 3 := by simp at hl; omega
      have ha : a ≠ [] := fun z => by have := r.ad z; simp at this
      have h0 := r.h0
      have r' : RepQ q qt a d' := ⟨by rw [e1]; simp, r.hq, r.ha, fun y hy => r.hd y (List.mem_append_left _ hy), r.la, by omega, fun z => absurd z ha, by
        cases d' with
        | nil => simp
        | cons y d' => exact h0⟩
      rw [nextP_rep r', if_neg ha]
      split
      · rename_i z
        subst z
        have : c ≠ 48 := by simpa using h0
        exact List.mem_append_right _ ((mem_D1 c).mpr (by omega))
      · first
          | exact (mem_D c).mpr hc
          | (rw [if_pos hl]; exact (mem_D c).mpr hc)
          | exact absurd hl ‹_›
  · intro h
    obtain ⟨qt, a, d, r⟩ := rep_begun hb
    rw [nextP_rep r] at h
    by_cases za : a = []
    · have zd := r.ad za
      subst za
      subst zd
      rw [if_pos rfl] at h
      rcases List.mem_append.mp h with h | h
      · exact begun_rep (ext_a r ((isL_iff c).mpr ((mem_L c).mp h)) (by simp))
      · split at h
        · rename_i z
          have e := r.eq
          rw [z] at e
          rw [e, List.mem_singleton.mp h]
          decide +kernel
        · cases h
    · rw [if_neg za] at h
      by_cases zd : d = []
      · subst zd
        rw [if_pos rfl] at h
        rcases List.mem_append.mp h with h | h
        · split at h
          · rename_i z
            exact begun_rep (ext_a r ((isL_iff c).mpr ((mem_L c).mp h)) z)
          · cases h
        · have := (mem_D1 c).mp h
          exact begun_rep (ext_d r za ((isD_iff c).mpr (by omega)) (by simp) (fun _ => by omega))
      · rw [if_neg zd] at h
        split at h
        · rename_i z
          exact begun_rep (ext_d r za ((isD_iff c).mpr ((mem_D c).mp h)) z (fun y => absurd y zd))
        · cases h
theorem next_max {q : List Nat} (hb : begunT q = true) (hn : nextP q ≠ []) : ∃ t ∈ nextP q, (∀ c ∈ nextP q, c ≤ t) ∧ lastT (q ++ [t]) = lastT q := by
  obtain ⟨qt, a, d, r⟩ := rep_begun hb
  rw [nextP_rep r] at hn ⊢
  by_cases za : a = []
  · have zd := r.ad za
    subst za
    subst zd
    rw [if_pos rfl]
    refine ⟨122, List.mem_append_left _ ((mem_L 122).mpr (by omega)), fun c hc => ?_, ?_⟩
    · rcases List.mem_append.mp hc with hc | hc
      · exact ((mem_L c).mp hc).2
      · split at hc
        · rw [List.mem_singleton.mp hc]; omega
        · cases hc
    · rw [last_rep (ext_a (c := 122) r (by decide +kernel) (by simp)), last_rep r]
      rfl
  · rw [if_neg za] at hn ⊢
    by_cases zd : d = []
    · subst zd
      rw [if_pos rfl]
      by_cases hl : a.length < 6
      · rw [if_pos hl]
        refine ⟨122, List.mem_append_left _ ((mem_L 122).mpr (by omega)), fun c hc => ?_, ?_⟩
        · rcases List.mem_append.mp hc with hc | hc
          · exact ((mem_L c).mp hc).2
          · have := (mem_D1 c).mp hc
            omega
        · rw [last_rep (ext_a (c := 122) r (by decide +kernel) hl), last_rep r, if_pos rfl, if_pos rfl]
          have e : 6 - a.length = (6 - (a ++ [122]).length) + 1 := by rw [List.length_append]; simp; omega
          rw [e, List.replicate_succ]
          simp
      · rw [if_neg hl, List.nil_append]
        refine ⟨57, (mem_D1 57).mpr (by omega), fun c hc => ((mem_D1 c).mp hc).2, ?_⟩
        have la := r.la
        have e : 6 - a.length = 0 := by omega
        rw [last_rep (ext_d (c := 57) r za (by decide +kernel) (by simp) (fun _ => by omega)), last_rep r, if_pos rfl, if_neg (by simp), e]
        simp
    · rw [if_neg zd] at hn ⊢
      by_cases hl : d.length < 3
      · rw [if_pos hl]
        refine ⟨57, (mem_D 57).mpr (by omega), fun c hc => ((mem_D c).mp hc).2, ?_⟩
        rw [last_rep (ext_d (c := 57) r za (by decide +kernel) hl (fun _ => by omega)), last_rep r, if_neg zd, if_neg (by simp)]
        have e : 3 - d.length = (3 - (d ++ [57]).length) + 1 := by rw [List.length_append]; simp; omega
        rw [e, List.replicate_succ]
        simp
      · rw [if_neg hl] at hn
        exact absurd rfl hn
theorem own_plain : ∀ y ∈ ownW, ∀ c ∈ y.cps.toList, isD c = false := by decide +kernel
theorem isW_digits {a d : List Nat} (hw : begunW (a ++ d) = true) (hd : ∀ c ∈ d, isD c = true) (hn : d ≠ []) : isW (a ++ d) = true := by
  unfold isW
  rw [hw, Bool.and_true, Bool.not_eq_true', List.any_eq_false]
  intro y hy z
  have e : y = S (a ++ d) := by simpa using z
  cases d with
  | nil => exact hn rfl
  | cons c d =>
    have h1 := own_plain y hy c (by rw [e, S_cps]; simp)
    rw [hd c (by simp)] at h1
    cases h1
theorem isF_unq (l : List Nat) : isF l = isW (unq l) := by
  unfold isF isK unq
  rw [starts_quote]
  by_cases z : l.head? = some 39
  · rw [decide_eq_true z]
    have : isW l = false := by
      unfold isW
      have : begunW l = false := by
        cases l with
        | nil => cases z
        | cons c l =>
          have : c = 39 := by simpa using z
          subst this
          unfold begunW
          rfl
      rw [this, Bool.and_false]
    rw [this, Bool.true_and, Bool.false_or]
    rfl
  · rw [decide_eq_false z, Bool.false_and, Bool.or_false]
    rfl
theorem next_nil {q : List Nat} (hb : begunT q = true) (hn : nextP q = []) : lastT q = q ∧ isF q = true := by
  obtain ⟨qt, a, d, r⟩ := rep_begun hb
  rw [nextP_rep r] at hn
  by_cases za : a = []
  · rw [if_pos za] at hn
    have : 122 ∈ ([] : List Nat) := by rw [← hn]; exact List.mem_append_left _ ((mem_L 122).mpr (by omega))
    cases this
  · rw [if_neg za] at hn
    by_cases zd : d = []
    · rw [if_pos zd] at hn
      have : 57 ∈ ([] : List Nat) := by rw [← hn]; exact List.mem_append_right _ ((mem_D1 57).mpr (by omega))
      cases this
    · rw [if_neg zd] at hn
      by_cases hl : d.length < 3
      · rw [if_pos hl] at hn
        have : 57 ∈ ([] : List Nat) := by rw [← hn]; exact (mem_D 57).mpr (by omega)
        cases this
      · refine ⟨?_, ?_⟩
        · rw [last_rep r, if_neg zd]
          have e : 3 - d.length = 0 := by omega
          rw [e, r.eq]
          simp
        · rw [isF_unq, unq_rep r]
          exact isW_digits (begunW_parts r.ha r.hd za r.la r.ld r.h0) r.hd zd
/-- whether some factor behind another one begins so, by the signs that can come next -/
theorem follow_eq {q : List Nat} (hb : begunT q = true) (L : List Nat) : ((isF q && decide (L < q)) || (nextP q).any (hit L q lastT)) = decide (L < lastT q) := by
  refine claimB (last_pre hb) (next_nil hb) (next_max hb) fun c hc => ?_
  have h := claimA hb c
  rw [decide_eq_true hc] at h
  obtain ⟨r, e⟩ := last_pre h
  exact ⟨r, by rw [e, List.append_assoc]; rfl⟩
end Mea
set_option Elab.async false
set_option linter.all false
set_option maxRecDepth 100000
set_option maxHeartbeats 4000000
namespace Mea
open PySem L2 Wk Mi
local macro_rules | `(tactic| walk_at "rd") => `(tactic| simp only [mBody, mBodyF, fin, finF, finC, mSeq, seqK, mAsg, mAsgO, mRet, mRetN, mDrop, mNext, mIf, mTest, mTru, mAnd, mOr, mNot, mB, mAndV, mOrV, mNotV, mChain, mNil, mCons, mTup, mOp2, mUn, mSl, mPart, mNoPart, mC, mVar, oE, oN, oNil, oCons, mCB, rsv, rsvs, content, lift, setv, gmNil, gmCons, gmTup, mFrz, OD.d, mIter, walkD, mRange1, mRange2, mYes, aNil, aV, aS, aT, mCall, fCall, Mi.cellOf, cellsOf, apart, aparts, back, samePars, mPar, mAug, mRaise, mRaise0, mGet2, mSetIx, mPut, mAppend, mFor, Cell.isPar, Cell.olst, Cell.odk, Cell.put, fLst, fDk, fDict, fMove, bind_ok, bind_no, bind_err, List.cons_append, List.nil_append, List.replicate_succ, List.replicate_zero, List.getElem?_cons_zero, List.getElem?_cons_succ, List.getElem?_nil, List.set_cons_zero, List.set_cons_succ, List.length_cons, List.length_nil, List.take_succ_cons, List.take_zero, List.take_nil, Option.bind_some, Option.bind_none, Option.map_some, Option.map_none, List.all_nil, List.all_cons, Bool.and_true, Bool.true_and, Bool.and_false, Bool.false_and, Bool.not_true, Bool.not_false, decide_true, decide_false, reduceIte, Bool.false_eq_true, Bool.true_eq_false, if_true, if_false, beq_self_eq_true, Nat.reduceAdd, Nat.reduceEqDiff, Nat.reduceLeDiff, dAdd, dSub, dMulH, dMul, dDiv, dMod, dPow, dGt, dLt, dLe, dGe, dIx, ixL, dNeg, dAbs, dMax, dMin, dLen, deq_ii, deq_ss, deq_bb, dne_ii, dne_ss, dne_bb, atI_0, atI_1, atI_2, ixN_3_0, ixN_3_2, ne_eq, Int.reduceEq, Int.reduceNe, not_false_eq_true, not_true_eq_false, Int.reduceLT, Int.reduceLE, and_true, true_and, and_false, false_and, Int.reduceToNat, lim, Mi.key, fSorted, mM1, dStarts])
/-! ### the law's own words -/
def Asc (l : List Nat) : Prop := ∀ c ∈ l, c < 128
def chr (c : Nat) : D := .str ⟨#[c]⟩
theorem strL_S (l : List Nat) : strL (S l) = l.map chr := rfl
theorem pls_chr : ∀ l : List Nat, Asc l → pls (l.map chr) = true ∧ deps (l.map chr) = 0
  | [], _ => ⟨by rw [List.map_nil, pls], by rw [List.map_nil, deps]⟩
  | c :: l, h => by
    obtain ⟨h1, h2⟩ := pls_chr l fun d hd => h d (List.mem_cons_of_mem _ hd)
    have hc := h c (by simp)
    refine ⟨?_, ?_⟩
    · rw [List.map_cons, pls, h1, Bool.and_true]
      unfold chr
      rw [pl]
      show (#[c].all fun x => decide (x < 1114112)) = true
      simp
      omega
    · rw [List.map_cons, deps, h2]
      unfold chr
      rw [dep]
      rfl
theorem Asc.filter {l : List Nat} (h : Asc l) (p : Nat → Bool) : Asc (l.filter p) := fun c hc => h c ((List.mem_filter.mp hc).1)
theorem Asc.take {l : List Nat} (h : Asc l) (k : Nat) : Asc (l.take k) := fun c hc => h c (List.mem_of_mem_take hc)
theorem Asc.drop {l : List Nat} (h : Asc l) (k : Nat) : Asc (l.drop k) := fun c hc => h c (List.mem_of_mem_drop hc)
theorem Asc.app {l m : List Nat} (h : Asc l) (g : Asc m) : Asc (l ++ m) := fun c hc => (List.mem_append.mp hc).elim (h c) (g c)
def onC (p : Nat → Bool) : D → Bool
  | .str z => match z.cps.toList with
    | [c] => p c
    | _ => false
  | _ => false
theorem onC_chr (p : Nat → Bool) (c : Nat) : onC p (chr c) = p c := rfl
theorem filter_chr (p : Nat → Bool) (l : List Nat) : ((l.map chr).filter (onC p)).map id = (l.filter p).map chr := by
  rw [List.map_id, List.filter_map]
  rfl
theorem nil_all (p : Nat → Bool) (l : List Nat) : ((l.filter fun c => !p c).map chr).isEmpty = l.all p := by
  induction l with
  | nil => rfl
  | cons c l ih =>
    cases h : p c with
    | true => rw [List.filter_cons_of_neg (by simp [h]), ih, List.all_cons, h, Bool.true_and]
    | false => rw [List.filter_cons_of_pos (by simp [h]), List.all_cons, h]; rfl
theorem eqH_nil {l : List D} (h : pls l = true) (hd : deps l ≤ 63) : eqH (.lst l) (.lst []) = some l.isEmpty := eqB_nil h hd
theorem sless_one (c d : Nat) : sless ⟨#[c]⟩ ⟨#[d]⟩ = decide (c < d) := by
  unfold sless
  show decide ([c] < [d]) = _
  by_cases h : c < d
  · rw [decide_eq_true h, decide_eq_true (List.cons_lt_cons_iff.mpr (.inl h))]
  · rw [decide_eq_false h, decide_eq_false fun z => by
      rcases List.cons_lt_cons_iff.mp z with y | ⟨_, y⟩
      · exact h y
      · exact List.not_lt_nil _ y]
theorem small_key (l : List Nat) (hl : l.length ≤ 1000) :
    fLc [1] (mIter (mVar 0)) (setv 1) (mNot (mTest (mChain dLe dLe (mC (.str "a")) (mVar 1) (mC (.str "z"))))) (mVar 1) [.val (.str (S l)), .no] = .ok (.lst ((l.filter fun c => !isL c).map chr)) [.val (.str (S l)), .no] := by
  rw [← filter_chr]
  refine fLc_pure (fun d => [.val (.str (S l)), .val d]) rfl rfl (by simp) (fun _ _ => ⟨rfl, rfl, rfl⟩) rfl (fun _ _ _ => rfl) ?_ ?_ (by rw [List.length_map]; show _ ≤ 100000; omega)
  · intro d hd x
    obtain ⟨c, hc, rfl⟩ := List.mem_map.mp hd
    rw [onC_chr]
    have a1 : sless ⟨#[c]⟩ (Str.ofString "a") = decide (c < 97) := sless_one c 97
    have a2 : sless (Str.ofString "z") ⟨#[c]⟩ = decide (122 < c) := sless_one 122 c
    unfold chr
    by_cases h1 : c < 97
    · have e : isL c = false := by
        cases z : isL c with
        | false => rfl
        | true => have := (isL_iff c).mp z; omega
      rw [decide_eq_true h1] at a1
      iterate 6 (first | (walk_at "rd"; done) | (try walk_at "rd"; try simp only [a1, e]))
    · rw [decide_eq_false h1] at a1
      by_cases h2 : 122 < c
      · have e : isL c = false := by
          cases z : isL c with
          | false => rfl
          | true => have := (isL_iff c).mp z; omega
        rw [decide_eq_true h2] at a2
        iterate 6 (first | (walk_at "rd"; done) | (try walk_at "rd"; try simp only [a1, a2, e]))
      · have e : isL c = true := (isL_iff c).mpr (by omega)
        rw [decide_eq_false h2] at a2
        iterate 6 (first | (walk_at "rd"; done) | (try walk_at "rd"; try simp only [a1, a2, e]))
  · intro d hd _ x
    rfl
theorem small_ok (n : Nat) (l : List Nat) (hl : l.length ≤ 1000) (ha : Asc l) : run (n + 1) 31 [.val (.str (S l))] = .ok (.bl (l.all isL)) [.val (.str (S l))] := by
  have key := small_key l hl
  obtain ⟨p1, p2⟩ := pls_chr _ (ha.filter fun c => !isL c)
  have e := deq_nil p1 (by rw [p2]; omega)
  rw [nil_all] at e
  show mBody 1 (m_l_small (run n) (runF n)) _ = _
  unfold m_l_small
  iterate 6 (first | (walk_at "rd"; done) | (try walk_at "rd"; try simp only [key, e]))
end Mea
set_option Elab.async false
set_option linter.all false
set_option maxRecDepth 100000
set_option maxHeartbeats 4000000
namespace Mea
open PySem L2 Wk Mi
local macro_rules | `(tactic| walk_at "rd") => `(tactic| simp only [mBody, mBodyF, fin, finF, finC, mSeq, seqK, mAsg, mAsgO, mRet, mRetN, mDrop, mNext, mIf, mTest, mTru, mAnd, mOr, mNot, mB, mAndV, mOrV, mNotV, mChain, mNil, mCons, mTup, mOp2, mUn, mSl, mPart, mNoPart, mC, mVar, oE, oN, oNil, oCons, mCB, rsv, rsvs, content, lift, setv, gmNil, gmCons, gmTup, mFrz, OD.d, mIter, walkD, mRange1, mRange2, mYes, aNil, aV, aS, aT, mCall, fCall, Mi.cellOf, cellsOf, apart, aparts, back, samePars, mPar, mAug, mRaise, mRaise0, mGet2, mSetIx, mPut, mAppend, mFor, Cell.isPar, Cell.olst, Cell.odk, Cell.put, fLst, fDk, fDict, fMove, bind_ok, bind_no, bind_err, List.cons_append, List.nil_append, List.replicate_succ, List.replicate_zero, List.getElem?_cons_zero, List.getElem?_cons_succ, List.getElem?_nil, List.set_cons_zero, List.set_cons_succ, List.length_cons, List.length_nil, List.take_succ_cons, List.take_zero, List.take_nil, Option.bind_some, Option.bind_none, Option.map_some, Option.map_none, List.all_nil, List.all_cons, Bool.and_true, Bool.true_and, Bool.and_false, Bool.false_and, Bool.not_true, Bool.not_false, decide_true, decide_false, reduceIte, Bool.false_eq_true, Bool.true_eq_false, if_true, if_false, beq_self_eq_true, Nat.reduceAdd, Nat.reduceEqDiff, Nat.reduceLeDiff, dAdd, dSub, dMulH, dMul, dDiv, dMod, dPow, dGt, dLt, dLe, dGe, dIx, ixL, dNeg, dAbs, dMax, dMin, dLen, deq_ii, deq_ss, deq_bb, dne_ii, dne_ss, dne_bb, atI_0, atI_1, atI_2, ixN_3_0, ixN_3_2, ne_eq, Int.reduceEq, Int.reduceNe, not_false_eq_true, not_true_eq_false, Int.reduceLT, Int.reduceLE, and_true, true_and, and_false, false_and, Int.reduceToNat, lim, Mi.key, fSorted, mM1, dStarts])
theorem count_pre (p : Nat → Bool) : ∀ l : List Nat, ((List.range l.length).filter fun k => (l.take (k + 1)).all p).length = (l.takeWhile p).length
  | [] => rfl
  | c :: l => by
    rw [List.length_cons, List.range_succ_eq_map]
    cases h : p c with
    | false =>
      rw [List.takeWhile_cons, h]
      have : ((0 :: (List.range l.length).map Nat.succ).filter fun k => ((c :: l).take (k + 1)).all p) = [] := by
        rw [List.filter_eq_nil_iff]
        intro k _
        rw [List.take_succ_cons, List.all_cons, h]
        simp
      rw [this]
      rfl
    | true =>
      rw [List.takeWhile_cons, h, List.filter_cons_of_pos (by simp [h]), List.length_cons, List.filter_map, List.length_map]
      have ih := count_pre p l
      have e : ((fun k => ((c :: l).take (k + 1)).all p) ∘ Nat.succ) = fun k => (l.take (k + 1)).all p := by
        funext k
        show ((c :: l).take (k + 1 + 1)).all p = _
        rw [List.take_succ_cons, List.all_cons, h, Bool.true_and]
      rw [e, ih]
      simp
def onI (p : Nat → Bool) : D → Bool
  | .int i => p i.toNat
  | _ => false
theorem filter_rng (p : Nat → Bool) (n : Nat) : (((rngD 0 n).filter (onI p)).map id).length = ((List.range n).filter p).length := by
  rw [List.map_id]
  unfold rngD
  rw [List.filter_map, List.length_map]
  congr 1
  congr 1
  funext k
  show p ((0 : Int) + (k : Nat)).toNat = p k
  congr 1
  omega
theorem len_at {l : List Nat} (hl : l.length ≤ 900) : mCB dLen (oCons (oN 0) oNil) [.val (.str (S l)), .no, .no, .no, .no] = .ok (.int (l.length : Nat)) [.val (.str (S l)), .no, .no, .no, .no] := by
  have c0 : ((S l).length ≤ 100000) = True := by rw [S_len]; simp only [eq_iff_iff, iff_true]; omega
  have c1 : ((S l).length : Int) = (l.length : Int) := by rw [S_len]
  iterate 4 (first | (walk_at "rd"; done) | (try walk_at "rd"; try simp only [c0, c1]))
theorem rng_at {m : Mi.Env → Out D} {ρ ρ' : Mi.Env} {k : Nat} (h : m ρ = .ok (.int (k : Nat)) ρ') (hk : k ≤ 100000) : mRange1 m ρ = .ok (rngD 0 k) ρ' := by
  unfold mRange1
  rw [h, bind_ok]
  show (if _ then _ else _) = _
  rw [if_pos (by omega)]
  have : ((k : Nat) : Int).toNat = k := by omega
  rw [this]
theorem word_it {l : List Nat} (hl : l.length ≤ 900) : mRange1 (mCB dLen (oCons (oN 0) oNil)) [.val (.str (S l)), .no, .no, .no, .no] = .ok (rngD 0 l.length) [.val (.str (S l)), .no, .no, .no, .no] := rng_at (len_at hl) (by omega)
theorem word_one {n : Nat} {l : List Nat} (hl : l.length ≤ 900) (ha : Asc l) (k : Nat) (x : Cell) :
    mTru (oE (mCall 1 (run (n + 1) 31) (aV (mSl (oN 0) mNoPart (mPart (mOp2 dAdd (oN 2) (oE (mC (.int 1)))))) aNil))) [.val (.str (S l)), .no, .val (.int ((0 : Int) + (k : Nat))), .no, .no, x] = .ok ((l.take (k + 1)).all isL) [.val (.str (S l)), .no, .val (.int ((0 : Int) + (k : Nat))), .no, .no, x] := by
  have c0 : ((S l).length ≤ 100000) = True := by rw [S_len]; simp only [eq_iff_iff, iff_true]; omega
  have hs := small_ok n (l.take (k + 1)) (by rw [List.length_take]; omega) (ha.take _)
  have cu : cutS (S l) none (some ((0 : Int) + (k : Nat) + 1)) = S (l.take (k + 1)) := by
    have := cut_to l (k + 1)
    rw [← this]
    congr 2
    omega
  iterate 8 (first | (walk_at "rd"; done) | (try walk_at "rd"; try simp only [dSl, c0, cu, hs, dTru, if_true]))
theorem onI_at (p : Nat → Bool) (k : Nat) : onI p (.int ((0 : Int) + (k : Nat))) = p k := by
  show p ((0 : Int) + (k : Nat)).toNat = p k
  congr 1
  omega
theorem word_key {n : Nat} (l : List Nat) (hl : l.length ≤ 900) (ha : Asc l) :
    fLc [2] (mRange1 (mCB dLen (oCons (oN 0) oNil))) (setv 2) (mTru (oE (mCall 1 (run (n + 1) 31) (aV (mSl (oN 0) mNoPart (mPart (mOp2 dAdd (oN 2) (oE (mC (.int 1)))))) aNil)))) (mVar 2) [.val (.str (S l)), .no, .no, .no, .no]
      = .ok (.lst (((rngD 0 l.length).filter (onI fun k => (l.take (k + 1)).all isL)).map id)) [.val (.str (S l)), .no, .no, .no, .no] := by
  refine fLc_pure (fun d => [.val (.str (S l)), .no, .val d, .no, .no]) (word_it hl) rfl (by simp) (fun _ _ => ⟨rfl, rfl, rfl⟩) rfl (fun _ _ _ => rfl) ?_ ?_ ?_
  · intro d hd x
    unfold rngD at hd
    obtain ⟨k, hk, rfl⟩ := List.mem_map.mp hd
    rw [onI_at]
    exact word_one hl ha k x
  · intro d hd _ x
    rfl
  · unfold rngD
    rw [List.length_map, List.length_range]
    unfold lim
    omega
theorem digs_key {l a d : List Nat} {k : Cell} (hk : k = .val (.int (a.length : Nat))) (hd : d.length ≤ 900) :
    fLc [4] (mIter (mVar 3)) (setv 4) (mTest (mOp2 dNotIn (oN 4) (oE (mC (.str "0123456789"))))) (mVar 4) [.val (.str (S l)), k, .no, .val (.str (S d)), .no] = .ok (.lst ((d.filter fun c => !isD c).map chr)) [.val (.str (S l)), k, .no, .val (.str (S d)), .no] := by
  subst hk
  rw [← filter_chr]
  refine fLc_pure (fun x => [.val (.str (S l)), .val (.int (a.length : Nat)), .no, .val (.str (S d)), .val x]) rfl rfl (by simp) (fun _ _ => ⟨rfl, rfl, rfl⟩) rfl (fun _ _ _ => rfl) ?_ (fun _ _ _ _ => rfl) (by rw [List.length_map]; show _ ≤ 100000; omega)
  intro x hx y
  obtain ⟨c, hc, rfl⟩ := List.mem_map.mp hx
  rfl
theorem lisW_ok (n : Nat) (l : List Nat) (hl : l.length ≤ 900) (ha : Asc l) : run (n + 2) 30 [.val (.str (S l))] = .ok (.bl (isW l)) [.val (.str (S l))] := by
  have key := word_key (n := n) l hl ha
  have ln : ((((rngD 0 l.length).filter (onI fun k => (l.take (k + 1)).all isL)).map id).length : Int) = ((l.takeWhile isL).length : Int) := by rw [filter_rng, count_pre]
  generalize ((rngD 0 l.length).filter (onI fun k => (l.take (k + 1)).all isL)).map id = X at key ln
  generalize hk : (l.takeWhile isL) = a at *
  generalize hd : l.drop a.length = d
  have hb : begunW l = (decide (1 ≤ a.length ∧ a.length ≤ 6) && decide (d.length ≤ 3) && d.all isD && !Txt.startswith (S d) "0") := by
    unfold begunW
    simp only [hk, hd]
  have hdl : d.length ≤ l.length := by rw [← hd, List.length_drop]; omega
  have c0 : ((S l).length ≤ 100000) = True := by rw [S_len]; simp only [eq_iff_iff, iff_true]; omega
  have c2 : ((S d).length ≤ 100000) = True := by rw [S_len]; simp only [eq_iff_iff, iff_true]; omega
  have cu : cutS (S l) (some (a.length : Int)) none = S d := by rw [cut_from, hd]
  have cz : cutS (S d) none (some 1) = S (d.take 1) := cut_to d 1
  have hz : decide (S (d.take 1) = "0") = decide (d.head? = some 48) := by
    have e : S [48] = "0" := rfl
    rw [← e, S_eq]
    cases d with
    | nil => simp
    | cons c d => simp
  have s0 := starts_0 d
  have ow : dIn (.str (S l)) (.lst [.str "fn", .str "let", .str "in", .str "rec", .str "match", .str "with", .str "fail", .str "num"]) = some (.bl (ownW.any fun y => y == S l)) := by
    unfold dIn inB inSeq ownW
    simp [flat, eqF]
  have dk := digs_key (l := l) (a := a) (d := d) rfl (by omega)
  obtain ⟨p1, p2⟩ := pls_chr _ ((hd ▸ ha.drop a.length : Asc d).filter fun c => !isD c)
  have e := deq_nil p1 (by rw [p2]; omega)
  rw [nil_all] at e
  have q2 : ((S d).length : Int) = (d.length : Int) := by rw [S_len]
  show mBody 4 (m_l_is_word (run (n + 1)) (runF (n + 1))) _ = _
  unfold m_l_is_word
  unfold isW
  rw [hb]
  by_cases t1 : 1 ≤ a.length ∧ a.length ≤ 6
  · have u1 : decide ((1 : Int) ≤ (a.length : Int)) = true := decide_eq_true (by omega)
    have u2 : decide ((a.length : Int) ≤ 6) = true := decide_eq_true (by omega)
    have v1 : decide (1 ≤ a.length ∧ a.length ≤ 6) = true := decide_eq_true t1
    by_cases t2 : d.length ≤ 3
    · have u3 : decide ((3 : Int) < (S d).length) = false := by rw [q2]; exact decide_eq_false (by omega)
      have v2 : decide (d.length ≤ 3) = true := decide_eq_true t2
      by_cases t3 : d.head? = some 48
      · rw [decide_eq_true t3] at hz s0
        iterate 16 (first | (walk_at "rd"; done) | (try walk_at "rd"; try simp only [key, ln, c0, c2, dSl, cu, cz, hz, s0, u1, u2, u3, v1, v2, if_true]))
      · rw [decide_eq_false t3] at hz s0
        cases t4 : ownW.any fun y => y == S l with
        | true =>
          rw [t4] at ow
          iterate 16 (first | (walk_at "rd"; done) | (try walk_at "rd"; try simp only [key, ln, c0, c2, dSl, cu, cz, hz, s0, u1, u2, u3, v1, v2, ow, if_true]))
        | false =>
          rw [t4] at ow
          iterate 16 (first | (walk_at "rd"; done) | (try walk_at "rd"; try simp only [key, ln, c0, c2, dSl, cu, cz, hz, s0, u1, u2, u3, v1, v2, ow, dk, e, if_true]))
    · have u3 : decide ((3 : Int) < (S d).length) = true := by rw [q2]; exact decide_eq_true (by omega)
      have v2 : decide (d.length ≤ 3) = false := decide_eq_false t2
      iterate 16 (first | (walk_at "rd"; done) | (try walk_at "rd"; try simp only [key, ln, c0, c2, dSl, cu, u1, u2, u3, v1, v2, if_true]))
  · have v1 : decide (1 ≤ a.length ∧ a.length ≤ 6) = false := decide_eq_false t1
    by_cases t4 : 1 ≤ a.length
    · have u1 : decide ((1 : Int) ≤ (a.length : Int)) = true := decide_eq_true (by omega)
      have u2 : decide ((a.length : Int) ≤ 6) = false := decide_eq_false (by omega)
      iterate 16 (first | (walk_at "rd"; done) | (try walk_at "rd"; try simp only [key, ln, c0, c2, dSl, cu, u1, u2, v1, if_true]))
    · have u1 : decide ((1 : Int) ≤ (a.length : Int)) = false := decide_eq_false (by omega)
      iterate 16 (first | (walk_at "rd"; done) | (try walk_at "rd"; try simp only [key, ln, c0, c2, dSl, cu, u1, v1, if_true]))
end Mea
set_option Elab.async false
set_option linter.all false
set_option maxRecDepth 100000
set_option maxHeartbeats 4000000
namespace Mea
open PySem L2 Wk Mi
local macro_rules | `(tactic| walk_at "rd") => `(tactic| simp only [mBody, mBodyF, fin, finF, finC, mSeq, seqK, mAsg, mAsgO, mRet, mRetN, mDrop, mNext, mIf, mTest, mTru, mAnd, mOr, mNot, mB, mAndV, mOrV, mNotV, mChain, mNil, mCons, mTup, mOp2, mUn, mSl, mPart, mNoPart, mC, mVar, oE, oN, oNil, oCons, mCB, rsv, rsvs, content, lift, setv, gmNil, gmCons, gmTup, mFrz, OD.d, mIter, walkD, mRange1, mRange2, mYes, aNil, aV, aS, aT, mCall, fCall, Mi.cellOf, cellsOf, apart, aparts, back, samePars, mPar, mAug, mRaise, mRaise0, mGet2, mSetIx, mPut, mAppend, mFor, Cell.isPar, Cell.olst, Cell.odk, Cell.put, fLst, fDk, fDict, fMove, bind_ok, bind_no, bind_err, List.cons_append, List.nil_append, List.replicate_succ, List.replicate_zero, List.getElem?_cons_zero, List.getElem?_cons_succ, List.getElem?_nil, List.set_cons_zero, List.set_cons_succ, List.length_cons, List.length_nil, List.take_succ_cons, List.take_zero, List.take_nil, Option.bind_some, Option.bind_none, Option.map_some, Option.map_none, List.all_nil, List.all_cons, Bool.and_true, Bool.true_and, Bool.and_false, Bool.false_and, Bool.not_true, Bool.not_false, decide_true, decide_false, reduceIte, Bool.false_eq_true, Bool.true_eq_false, if_true, if_false, beq_self_eq_true, Nat.reduceAdd, Nat.reduceEqDiff, Nat.reduceLeDiff, dAdd, dSub, dMulH, dMul, dDiv, dMod, dPow, dGt, dLt, dLe, dGe, dIx, ixL, dNeg, dAbs, dMax, dMin, dLen, deq_ii, deq_ss, deq_bb, dne_ii, dne_ss, dne_bb, atI_0, atI_1, atI_2, ixN_3_0, ixN_3_2, ne_eq, Int.reduceEq, Int.reduceNe, not_false_eq_true, not_true_eq_false, Int.reduceLT, Int.reduceLE, and_true, true_and, and_false, false_and, Int.reduceToNat, lim, Mi.key, fSorted, mM1, dStarts])
theorem head_cut (l : List Nat) : decide (S (l.take 1) = "'") = decide (l.head? = some 39) := by
  have e : S [39] = "'" := rfl
  rw [← e, S_eq]
  cases l with
  | nil => simp
  | cons c d => simp
theorem unq_pos {l : List Nat} (h : l.head? = some 39) : unq l = l.drop 1 := by
  unfold unq
  rw [starts_quote, decide_eq_true h]
  rfl
theorem unq_neg {l : List Nat} (h : ¬ l.head? = some 39) : unq l = l := by
  unfold unq
  rw [starts_quote, decide_eq_false h]
  rfl
theorem lisF_ok (n : Nat) (l : List Nat) (hl : l.length ≤ 900) (ha : Asc l) : run (n + 3) 32 [.val (.str (S l))] = .ok (.bl (isF l)) [.val (.str (S l))] := by
  have c0 : ((S l).length ≤ 100000) = True := by rw [S_len]; simp only [eq_iff_iff, iff_true]; omega
  have ct : cutS (S l) none (some 1) = S (l.take 1) := cut_to l 1
  have hc := head_cut l
  rw [isF_unq]
  show mBody 0 (m_l_is_factor (run (n + 2)) (runF (n + 2))) _ = _
  unfold m_l_is_factor
  by_cases h : l.head? = some 39
  · rw [unq_pos h]
    rw [decide_eq_true h] at hc
    have e := lisW_ok n (l.drop 1) (by rw [List.length_drop]; omega) (ha.drop 1)
    iterate 8 (first | (walk_at "rd"; done) | (try walk_at "rd"; try simp only [dSl, c0, ct, hc, cut1, e, if_true]))
  · rw [unq_neg h]
    rw [decide_eq_false h] at hc
    have e := lisW_ok n l hl ha
    iterate 8 (first | (walk_at "rd"; done) | (try walk_at "rd"; try simp only [dSl, c0, ct, hc, e, if_true]))
theorem next_key {q w : List Nat} (hw : w.length ≤ 900) :
    fLc [3] (mIter (mVar 1)) (setv 3) (mTest (mOp2 dIn (oN 3) (oE (mC (.str "0123456789"))))) (mVar 3) [.val (.str (S q)), .val (.str (S w)), .no, .no] = .ok (.lst ((w.filter isD).map chr)) [.val (.str (S q)), .val (.str (S w)), .no, .no] := by
  rw [← filter_chr]
  refine fLc_pure (fun x => [.val (.str (S q)), .val (.str (S w)), .no, .val x]) rfl rfl (by simp) (fun _ _ => ⟨rfl, rfl, rfl⟩) rfl (fun _ _ _ => rfl) ?_ (fun _ _ _ _ => rfl) (by rw [List.length_map]; show _ ≤ 100000; omega)
  intro x hx y
  obtain ⟨c, hc, rfl⟩ := List.mem_map.mp hx
  rfl
theorem next_ok (n : Nat) (q : List Nat) (hl : q.length ≤ 900) (ha : Asc q) : run (n + 2) 33 [.val (.str (S q))] = .ok (.str (S (nextP q))) [.val (.str (S q))] := by
  have c0 : ((S q).length ≤ 100000) = True := by rw [S_len]; simp only [eq_iff_iff, iff_true]; omega
  have ct : cutS (S q) none (some 1) = S (q.take 1) := cut_to q 1
  have hc := head_cut q
  have main : ∃ w, w = unq q ∧ Asc w ∧ w.length ≤ 900 := ⟨_, rfl, by unfold unq; split; exact ha.drop 1; exact ha, Nat.le_trans (unq_len q) hl⟩
  obtain ⟨w, hw, haw, hlw⟩ := main
  have cw : ((S w).length ≤ 100000) = True := by rw [S_len]; simp only [eq_iff_iff, iff_true]; omega
  have f1 : Str.ofString "abcdefghijklmnopqrstuvwxyz" ++ Str.ofString "'" = S (lettersN ++ [39]) := rfl
  have f2 : Str.ofString "abcdefghijklmnopqrstuvwxyz" ++ Str.ofString "" = S (lettersN ++ []) := rfl
  have f3 : Str.ofString "abcdefghijklmnopqrstuvwxyz" ++ Str.ofString "123456789" = S (lettersN ++ digits1N) := rfl
  have f4 : Str.ofString "" ++ Str.ofString "123456789" = S ([] ++ digits1N) := rfl
  have f5 : Str.ofString "0123456789" = S digitsN := rfl
  have f6 : Str.ofString "" = S [] := rfl
  have g1 : ((Str.ofString "abcdefghijklmnopqrstuvwxyz").length + (Str.ofString "'").length ≤ 100000) = True := by simp only [eq_iff_iff, iff_true]; decide +kernel
  have g2 : ((Str.ofString "abcdefghijklmnopqrstuvwxyz").length + (Str.ofString "").length ≤ 100000) = True := by simp only [eq_iff_iff, iff_true]; decide +kernel
  have g3 : ((Str.ofString "abcdefghijklmnopqrstuvwxyz").length + (Str.ofString "123456789").length ≤ 100000) = True := by simp only [eq_iff_iff, iff_true]; decide +kernel
  have g4 : ((Str.ofString "").length + (Str.ofString "123456789").length ≤ 100000) = True := by simp only [eq_iff_iff, iff_true]; decide +kernel
  have sm := small_ok n w (by omega) haw
  have key := next_key (q := q) hlw
  have zw := S_nil w
  have zq := S_nil q
  obtain ⟨tail, htail⟩ : ∃ x : Mi.Env → Out Fl, x = (mSeq (mIf (mTest (mOp2 dEqH (oN 1) (oE (mC (.str ""))))) (mRet (mOp2 dAdd (oE (mC (.str "abcdefghijklmnopqrstuvwxyz"))) (oE (mIf (mTest (mOp2 dEqH (oN 0) (oE (mC (.str ""))))) (mC (.str "'")) (mC (.str "")))))) mNext)
  (mSeq (mIf (mTru (oE (mCall 1 ((run (n + 1)) 31) (aV (mVar 1) aNil)))) (mRet (mOp2 dAdd (oE (mIf (mTest (mOp2 dLt (oE (mCB dLen (oCons (oN 1) oNil))) (oE (mC (.int 6))))) (mC (.str "abcdefghijklmnopqrstuvwxyz")) (mC (.str "")))) (oE (mC (.str "123456789"))))) mNext)
  (mSeq (mAsg (mCB dLen (oCons (oE (mFrz (fLc [3] (mIter (mVar 1)) (setv 3) (mTest (mOp2 dIn (oN 3) (oE (mC (.str "0123456789"))))) (mVar 3)))) oNil)) (setv 2))
  (mRet (mIf (mTest (mOp2 dLt (oN 2) (oE (mC (.int 3))))) (mC (.str "0123456789")) (mC (.str ""))))))) := ⟨_, rfl⟩
  have body : ∃ x, tail [.val (.str (S q)), .val (.str (S w)), .no, .no] = .ok (.rt (.str (S (nextP q)))) [.val (.str (S q)), .val (.str (S w)), x, .no] := by
    rw [htail]
    unfold nextP
    rw [← hw]
    by_cases h1 : w = []
    · rw [if_pos h1]
      rw [decide_eq_true h1] at zw
      by_cases h2 : q = []
      · rw [if_pos h2]
        rw [decide_eq_true h2] at zq
        refine ⟨.no, ?_⟩
        iterate 8 (first | (walk_at "rd"; done) | (try walk_at "rd"; try simp only [zw, zq, g1, f1]))
      · rw [if_neg h2]
        rw [decide_eq_false h2] at zq
        refine ⟨.no, ?_⟩
        iterate 8 (first | (walk_at "rd"; done) | (try walk_at "rd"; try simp only [zw, zq, g2, f2]))
    · rw [if_neg h1]
      rw [decide_eq_false h1] at zw
      cases h2 : w.all isL with
      | true =>
        rw [h2] at sm
        rw [if_pos rfl]
        by_cases h3 : w.length < 6
        · have d1 : decide (((S w).length : Int) < 6) = true := by rw [S_len]; exact decide_eq_true (by omega)
          rw [if_pos h3]
          refine ⟨.no, ?_⟩
          iterate 8 (first | (walk_at "rd"; done) | (try walk_at "rd"; try simp only [zw, sm, dTru, cw, d1, g3, f3]))
        · have d1 : decide (((S w).length : Int) < 6) = false := by rw [S_len]; exact decide_eq_false (by omega)
          rw [if_neg h3]
          refine ⟨.no, ?_⟩
          iterate 8 (first | (walk_at "rd"; done) | (try walk_at "rd"; try simp only [zw, sm, dTru, cw, d1, g4, f4]))
      | false =>
        rw [h2] at sm
        rw [if_neg (by decide)]
        have ln : (((w.filter isD).map chr).length : Int) = ((w.filter isD).length : Int) := by rw [List.length_map]
        generalize (w.filter isD).map chr = X at key ln
        by_cases h3 : (w.filter isD).length < 3
        · have d1 : decide (((w.filter isD).length : Int) < 3) = true := decide_eq_true (by omega)
          rw [if_pos h3, ← f5]
          refine ⟨.val (.int ((w.filter isD).length : Nat)), ?_⟩
          iterate 8 (first | (walk_at "rd"; done) | (try walk_at "rd"; try simp only [zw, sm, dTru, key, ln, d1]))
        · have d1 : decide (((w.filter isD).length : Int) < 3) = false := decide_eq_false (by omega)
          rw [if_neg h3, ← f6]
          refine ⟨.val (.int ((w.filter isD).length : Nat)), ?_⟩
          iterate 8 (first | (walk_at "rd"; done) | (try walk_at "rd"; try simp only [zw, sm, dTru, key, ln, d1]))
  obtain ⟨x, body⟩ := body
  show mBody 3 (m_l_next (run (n + 1)) (runF (n + 1))) _ = _
  unfold m_l_next
  rw [← htail]
  by_cases h : q.head? = some 39
  · rw [unq_pos h] at hw
    rw [decide_eq_true h] at hc
    have cq : cutS (S q) (some 1) none = S w := by rw [cut1, hw]
    iterate 8 (first | (walk_at "rd"; done) | (try walk_at "rd"; try simp only [dSl, c0, ct, hc, cq, body, if_true]))
  · rw [unq_neg h] at hw
    rw [decide_eq_false h] at hc
    rw [hw] at body
    iterate 8 (first | (walk_at "rd"; done) | (try walk_at "rd"; try simp only [dSl, c0, ct, hc, body, if_true]))
theorem goes_ok (n : Nat) (q : List Nat) (c : Nat) (hl : q.length ≤ 900) (ha : Asc q) : run (n + 3) 37 [.val (.str (S q)), .val (chr c)] = .ok (.bl (decide (c ∈ nextP q))) [.val (.str (S q)), .val (chr c)] := by
  have e := next_ok n q hl ha
  have e2 : dIn (chr c) (.str (S (nextP q))) = some (.bl (decide (c ∈ nextP q))) := rfl
  show mBody 0 (m_l_goes_on (run (n + 2)) (runF (n + 2))) _ = _
  unfold m_l_goes_on
  iterate 8 (first | (walk_at "rd"; done) | (try walk_at "rd"; try simp only [e, e2]))
end Mea
set_option Elab.async false
set_option linter.all false
set_option maxRecDepth 100000
set_option maxHeartbeats 4000000
namespace Mea
open PySem L2 Wk Mi
local macro_rules | `(tactic| walk_at "rd") => `(tactic| simp only [mBody, mBodyF, fin, finF, finC, mSeq, seqK, mAsg, mAsgO, mRet, mRetN, mDrop, mNext, mIf, mTest, mTru, mAnd, mOr, mNot, mB, mAndV, mOrV, mNotV, mChain, mNil, mCons, mTup, mOp2, mUn, mSl, mPart, mNoPart, mC, mVar, oE, oN, oNil, oCons, mCB, rsv, rsvs, content, lift, setv, gmNil, gmCons, gmTup, mFrz, OD.d, mIter, walkD, mRange1, mRange2, mYes, aNil, aV, aS, aT, mCall, fCall, Mi.cellOf, cellsOf, apart, aparts, back, samePars, mPar, mAug, mRaise, mRaise0, mGet2, mSetIx, mPut, mAppend, mFor, Cell.isPar, Cell.olst, Cell.odk, Cell.put, fLst, fDk, fDict, fMove, bind_ok, bind_no, bind_err, List.cons_append, List.nil_append, List.replicate_succ, List.replicate_zero, List.getElem?_cons_zero, List.getElem?_cons_succ, List.getElem?_nil, List.set_cons_zero, List.set_cons_succ, List.length_cons, List.length_nil, List.take_succ_cons, List.take_zero, List.take_nil, Option.bind_some, Option.bind_none, Option.map_some, Option.map_none, List.all_nil, List.all_cons, Bool.and_true, Bool.true_and, Bool.and_false, Bool.false_and, Bool.not_true, Bool.not_false, decide_true, decide_false, reduceIte, Bool.false_eq_true, Bool.true_eq_false, if_true, if_false, beq_self_eq_true, Nat.reduceAdd, Nat.reduceEqDiff, Nat.reduceLeDiff, dAdd, dSub, dMulH, dMul, dDiv, dMod, dPow, dGt, dLt, dLe, dGe, dIx, ixL, dNeg, dAbs, dMax, dMin, dLen, deq_ii, deq_ss, deq_bb, dne_ii, dne_ss, dne_bb, atI_0, atI_1, atI_2, ixN_3_0, ixN_3_2, ne_eq, Int.reduceEq, Int.reduceNe, not_false_eq_true, not_true_eq_false, Int.reduceLT, Int.reduceLE, and_true, true_and, and_false, false_and, Int.reduceToNat, lim, Mi.key, fSorted, mM1, dStarts])
theorem sl_S (a b : List Nat) : sless (S a) (S b) = decide (a < b) := rfl
theorem RepQ.len {q qt a d : List Nat} (h : RepQ q qt a d) : q.length ≤ 10 := by
  have e := congrArg List.length h.eq
  rw [List.length_append, List.length_append] at e
  have h1 := h.la
  have h2 := h.ld
  rcases h.hq with z | z
  · rw [z] at e; simp at e; omega
  · rw [z] at e; simp at e; omega
theorem begun_len {q : List Nat} (h : begunT q = true) : q.length ≤ 10 := by
  obtain ⟨qt, a, d, r⟩ := rep_begun h
  exact r.len
theorem RepQ.asc {q qt a d : List Nat} (h : RepQ q qt a d) : Asc q := by
  rw [h.eq]
  refine Asc.app ?_ (Asc.app ?_ ?_)
  · rcases h.hq with z | z
    · rw [z]; intro c hc; cases hc
    · rw [z]; intro c hc; rw [List.mem_singleton.mp hc]; omega
  · intro c hc
    have := (isL_iff c).mp (h.ha c hc)
    omega
  · intro c hc
    have := (isD_iff c).mp (h.hd c hc)
    omega
theorem begun_asc {q : List Nat} (h : begunT q = true) : Asc q := by
  obtain ⟨qt, a, d, r⟩ := rep_begun h
  exact r.asc
theorem chr_app (q : List Nat) (c : Nat) : S q ++ (⟨#[c]⟩ : Str) = S (q ++ [c]) := S_app q [c]
theorem follow_loop {m : Nat → Fn} {q L : List Nat} (hq : q.length ≤ 10) (hL : L.length ≤ 900) : ∀ (cs : List Nat) (x y : Cell), plain1 x → plain1 y →
    (∀ c ∈ cs, m 34 [.val (.str (S (q ++ [c]))), .val (.str (S L))] = .ok (.bl (decide (L < lastT (q ++ [c])))) [.val (.str (S (q ++ [c]))), .val (.str (S L))]) →
    ∃ x' y', forL (setv 2) (mSeq (mAsg (mOp2 dAdd (oN 0) (oN 2)) (setv 3))
  (mSeq (mIf (mAnd (mTest (mOp2 dGt (oN 3) (oN 1))) (mNot (mTest (mOp2 dEqH (oE (mSl (oN 1) mNoPart (mPart (mCB dLen (oCons (oN 3) oNil))))) (oN 3))))) (mRet (mC (.bl true))) mNext)
  (mIf (mAnd (mTest (mOp2 dEqH (oE (mSl (oN 1) mNoPart (mPart (mCB dLen (oCons (oN 3) oNil))))) (oN 3))) (mTru (oE (mCall 2 (m 34) (aV (mVar 3) (aV (mVar 1) aNil)))))) (mRet (mC (.bl true))) mNext)))
      (cs.map chr) [.val (.str (S q)), .val (.str (S L)), x, y] = .ok (if cs.any (hit L q lastT) then .rt (.bl true) else .nx) [.val (.str (S q)), .val (.str (S L)), x', y']
  | [], x, y, _, _, _ => ⟨x, y, rfl⟩
  | c :: cs, x, y, hx, hy, hm => by
    obtain ⟨x', y', ih⟩ := follow_loop hq hL cs (.val (chr c)) (.val (.str (S (q ++ [c])))) (.inr ⟨_, rfl⟩) (.inr ⟨_, rfl⟩) (fun d hd => hm d (List.mem_cons_of_mem _ hd))
    have hr := hm c (by simp)
    have cs1 : ((S q).length + (⟨#[c]⟩ : Str).length ≤ 100000) = True := by rw [S_len]; simp only [eq_iff_iff, iff_true]; show q.length + 1 ≤ _; omega
    have cL : ((S L).length ≤ 100000) = True := by rw [S_len]; simp only [eq_iff_iff, iff_true]; omega
    have cm : ((S (q ++ [c])).length ≤ 100000) = True := by rw [S_len, List.length_append]; simp only [eq_iff_iff, iff_true]; simp; omega
    have cu : cutS (S L) none (some ((S (q ++ [c])).length : Int)) = S (L.take (q ++ [c]).length) := by rw [S_len, cut_to]
    have eqs := S_eq (L.take (q ++ [c]).length) (q ++ [c])
    have sl := sl_S L (q ++ [c])
    have set1 : ∀ x : Cell, plain1 x → (setv 2 (chr c) [.val (.str (S q)), .val (.str (S L)), x, y]) = some [.val (.str (S q)), .val (.str (S L)), .val (chr c), y] := by
      rintro x (rfl | ⟨d, rfl⟩)
      · rfl
      · rfl
    rw [List.any_cons, List.map_cons]
    have ech : chr c = .str ⟨#[c]⟩ := rfl
    have body : ∀ r : Bool, r = hit L q lastT c → (mSeq (mAsg (mOp2 dAdd (oN 0) (oN 2)) (setv 3))
  (mSeq (mIf (mAnd (mTest (mOp2 dGt (oN 3) (oN 1))) (mNot (mTest (mOp2 dEqH (oE (mSl (oN 1) mNoPart (mPart (mCB dLen (oCons (oN 3) oNil))))) (oN 3))))) (mRet (mC (.bl true))) mNext)
  (mIf (mAnd (mTest (mOp2 dEqH (oE (mSl (oN 1) mNoPart (mPart (mCB dLen (oCons (oN 3) oNil))))) (oN 3))) (mTru (oE (mCall 2 (m 34) (aV (mVar 3) (aV (mVar 1) aNil)))))) (mRet (mC (.bl true))) mNext))) [.val (.str (S q)), .val (.str (S L)), .val (chr c), y]
        = .ok (if r then .rt (.bl true) else .nx) [.val (.str (S q)), .val (.str (S L)), .val (chr c), .val (.str (S (q ++ [c])))] := by
      intro r hr'
      unfold hit at hr'
      rw [ech]
      cases hp : decide (L.take (q ++ [c]).length = q ++ [c]) with
      | true =>
        rw [hp] at eqs hr'
        rw [Bool.not_true, Bool.and_false, Bool.true_and, Bool.false_or] at hr'
        rw [← hr'] at hr
        rw [hr'] 
        cases hs : decide (L < q ++ [c]) with
        | true =>
          rw [hs] at sl
          cases h2 : decide (L < lastT (q ++ [c])) with
          | true =>
            rw [hr', h2] at hr
            rcases hy with rfl | ⟨d, rfl⟩ <;> iterate 12 (first | (walk_at "rd"; done) | (try walk_at "rd"; try simp only [cs1, chr_app, dSl, cL, cm, cu, eqs, sl, hr, dTru]))
          | false =>
            rw [hr', h2] at hr
            rcases hy with rfl | ⟨d, rfl⟩ <;> iterate 12 (first | (walk_at "rd"; done) | (try walk_at "rd"; try simp only [cs1, chr_app, dSl, cL, cm, cu, eqs, sl, hr, dTru]))
        | false =>
          rw [hs] at sl
          cases h2 : decide (L < lastT (q ++ [c])) with
          | true =>
            rw [hr', h2] at hr
            rcases hy with rfl | ⟨d, rfl⟩ <;> iterate 12 (first | (walk_at "rd"; done) | (try walk_at "rd"; try simp only [cs1, chr_app, dSl, cL, cm, cu, eqs, sl, hr, dTru]))
          | false =>
            rw [hr', h2] at hr
            rcases hy with rfl | ⟨d, rfl⟩ <;> iterate 12 (first | (walk_at "rd"; done) | (try walk_at "rd"; try simp only [cs1, chr_app, dSl, cL, cm, cu, eqs, sl, hr, dTru]))
      | false =>
        rw [hp] at eqs hr'
        rw [Bool.not_false, Bool.and_true, Bool.false_and, Bool.or_false] at hr'
        rw [hr']
        cases hs : decide (L < q ++ [c]) with
        | true =>
          rw [hs] at sl
          rcases hy with rfl | ⟨d, rfl⟩ <;> iterate 12 (first | (walk_at "rd"; done) | (try walk_at "rd"; try simp only [cs1, chr_app, dSl, cL, cm, cu, eqs, sl]))
        | false =>
          rw [hs] at sl
          rcases hy with rfl | ⟨d, rfl⟩ <;> iterate 12 (first | (walk_at "rd"; done) | (try walk_at "rd"; try simp only [cs1, chr_app, dSl, cL, cm, cu, eqs, sl]))
    have b := body _ rfl
    cases hh : hit L q lastT c with
    | true =>
      rw [hh] at b
      refine ⟨.val (chr c), .val (.str (S (q ++ [c]))), ?_⟩
      rw [Bool.true_or]
      conv => lhs; unfold forL
      rw [set1 x hx]
      show loopK _ _ = _
      rw [b]
      rfl
    | false =>
      rw [hh] at b
      refine ⟨x', y', ?_⟩
      rw [Bool.false_or, ← ih]
      exact forL_cons (set1 x hx) b
theorem canF_ok {L : List Nat} (hL : L.length ≤ 900) : ∀ (k n : Nat) (q : List Nat), begunT q = true → 11 ≤ q.length + k →
    run (n + 4 + k) 34 [.val (.str (S q)), .val (.str (S L))] = .ok (.bl (decide (L < lastT q))) [.val (.str (S q)), .val (.str (S L))]
  | 0, n, q, hb, hk => by
    have := begun_len hb
    omega
  | k + 1, n, q, hb, hk => by
    have hl := begun_len hb
    have ha := begun_asc hb
    have e1 := lisF_ok (n + k + 1) q (by omega) ha
    have e2 := next_ok (n + k + 2) q (by omega) ha
    have f1 : n + k + 1 + 3 = n + 4 + k := by omega
    have f2 : n + k + 2 + 2 = n + 4 + k := by omega
    rw [f1] at e1
    rw [f2] at e2
    obtain ⟨x', y', lp⟩ := follow_loop (m := run (n + 4 + k)) (q := q) (L := L) hl hL (nextP q) .no .no (.inl rfl) (.inl rfl) (fun c hc => by
      have h := claimA hb c
      rw [decide_eq_true hc] at h
      exact canF_ok hL k n (q ++ [c]) h (by rw [List.length_append]; simp; omega))
    rw [← follow_eq hb L]
    have sl := sl_S L q
    have e3 : strL (S (nextP q)) = (nextP q).map chr := rfl
    show mBody 2 (m_l_can_follow (run (n + 4 + k)) (runF (n + 4 + k))) _ = _
    unfold m_l_can_follow
    cases h1 : isF q with
    | true =>
      rw [h1] at e1
      cases h2 : decide (L < q) with
      | true =>
        rw [h2] at sl
        iterate 12 (first | (walk_at "rd"; done) | (try walk_at "rd"; try simp only [e1, sl, dTru, Bool.true_or]))
      | false =>
        rw [h2] at sl
        cases h3 : (nextP q).any (hit L q lastT) with
        | true =>
          rw [h3] at lp
          iterate 12 (first | (walk_at "rd"; done) | (try walk_at "rd"; try simp only [e1, e2, sl, dTru, e3, lp, Bool.false_or]))
        | false =>
          rw [h3] at lp
          iterate 12 (first | (walk_at "rd"; done) | (try walk_at "rd"; try simp only [e1, e2, sl, dTru, e3, lp, Bool.false_or]))
    | false =>
      rw [h1] at e1
      cases h3 : (nextP q).any (hit L q lastT) with
      | true =>
        rw [h3] at lp
        iterate 12 (first | (walk_at "rd"; done) | (try walk_at "rd"; try simp only [e1, e2, dTru, e3, lp, Bool.false_or]))
      | false =>
        rw [h3] at lp
        iterate 12 (first | (walk_at "rd"; done) | (try walk_at "rd"; try simp only [e1, e2, dTru, e3, lp, Bool.false_or]))
end Mea
set_option Elab.async false
set_option linter.all false
set_option maxRecDepth 100000
set_option maxHeartbeats 4000000
namespace Mea
open PySem L2 Wk Mi
local macro_rules | `(tactic| walk_at "rd") => `(tactic| simp only [mBody, mBodyF, fin, finF, finC, mSeq, seqK, mAsg, mAsgO, mRet, mRetN, mDrop, mNext, mIf, mTest, mTru, mAnd, mOr, mNot, mB, mAndV, mOrV, mNotV, mChain, mNil, mCons, mTup, mOp2, mUn, mSl, mPart, mNoPart, mC, mVar, oE, oN, oNil, oCons, mCB, rsv, rsvs, content, lift, setv, gmNil, gmCons, gmTup, mFrz, OD.d, mIter, walkD, mRange1, mRange2, mYes, aNil, aV, aS, aT, mCall, fCall, Mi.cellOf, cellsOf, apart, aparts, back, samePars, mPar, mAug, mRaise, mRaise0, mGet2, mSetIx, mPut, mAppend, mFor, Cell.isPar, Cell.olst, Cell.odk, Cell.put, fLst, fDk, fDict, fMove, bind_ok, bind_no, bind_err, List.cons_append, List.nil_append, List.replicate_succ, List.replicate_zero, List.getElem?_cons_zero, List.getElem?_cons_succ, List.getElem?_nil, List.set_cons_zero, List.set_cons_succ, List.length_cons, List.length_nil, List.take_succ_cons, List.take_zero, List.take_nil, Option.bind_some, Option.bind_none, Option.map_some, Option.map_none, List.all_nil, List.all_cons, Bool.and_true, Bool.true_and, Bool.and_false, Bool.false_and, Bool.not_true, Bool.not_false, decide_true, decide_false, reduceIte, Bool.false_eq_true, Bool.true_eq_false, if_true, if_false, beq_self_eq_true, Nat.reduceAdd, Nat.reduceEqDiff, Nat.reduceLeDiff, dAdd, dSub, dMulH, dMul, dDiv, dMod, dPow, dGt, dLt, dLe, dGe, dIx, ixL, dNeg, dAbs, dMax, dMin, dLen, deq_ii, deq_ss, deq_bb, dne_ii, dne_ss, dne_bb, atI_0, atI_1, atI_2, ixN_3_0, ixN_3_2, ne_eq, Int.reduceEq, Int.reduceNe, not_false_eq_true, not_true_eq_false, Int.reduceLT, Int.reduceLE, and_true, true_and, and_false, false_and, Int.reduceToNat, lim, Mi.key, fSorted, mM1, dStarts])
theorem snoc_at {t : List Nat} {b s : Nat} (hb : b ≤ s) (h : s < t.length) : (t.take (s + 1)).drop b = (t.take s).drop b ++ [t[s]] := by
  rw [List.take_succ, List.getElem?_eq_getElem h, List.drop_append_of_le_length (by rw [List.length_take]; omega)]
  rfl
theorem mid_asc {t : List Nat} (ha : Asc t) (b s : Nat) : Asc ((t.take s).drop b) := (ha.take s).drop b
theorem more_ok (n : Nat) {t L : List Nat} {b s : Nat} (ht : t.length ≤ 900) (ha : Asc t) (hL : L.length ≤ 900) (hb : b ≤ s) (hs : s ≤ t.length) (hg : begunT ((t.take s).drop b) = true) :
    run (n + 16) 35 [.val (.str (S t)), .val (.int (b : Nat)), .val (.int (s : Nat)), .val (.str (S L))] = .ok (.bl (decide (s < t.length) && mayF ((t.take (s + 1)).drop b) L)) [.val (.str (S t)), .val (.int (b : Nat)), .val (.int (s : Nat)), .val (.str (S L))] := by
  have c0 : ((S t).length ≤ 100000) = True := by rw [S_len]; simp only [eq_iff_iff, iff_true]; omega
  have cu : cutS (S t) (some (b : Int)) (some (s : Int)) = S ((t.take s).drop b) := cut_mid t b s hb
  have cu2 : cutS (S t) (some (b : Int)) (some ((s : Int) + 1)) = S ((t.take (s + 1)).drop b) := cut_mid t b (s + 1) (by omega)
  have pl := begun_len hg
  show mBody 0 (m_l_more (run (n + 15)) (runF (n + 15))) _ = _
  unfold m_l_more
  by_cases h : s < t.length
  · have d1 : decide ((s : Int) = ((S t).length : Int)) = false := by rw [S_len]; exact decide_eq_false (by omega)
    have a1 : atI (S t).cps.toList (s : Int) = some t[s] := atI_nat h
    have g := goes_ok (n + 12) ((t.take s).drop b) t[s] (by omega) (mid_asc ha b s)
    have cA := claimA hg t[s]
    rw [← snoc_at hb h] at cA
    rw [decide_eq_true h, Bool.true_and]
    unfold mayF
    rw [cA]
    unfold chr at g
    cases h2 : decide (t[s] ∈ nextP ((t.take s).drop b)) with
    | true =>
      rw [h2] at g cA
      have cf := canF_ok (L := L) hL 11 n ((t.take (s + 1)).drop b) cA (by omega)
      have sl := sl_S L (lastT ((t.take (s + 1)).drop b))
      rw [sl]
      iterate 12 (first | (walk_at "rd"; done) | (try walk_at "rd"; try simp only [c0, d1, dSl, cu, cu2, a1, g, cf, dTru, if_true]))
    | false =>
      rw [h2] at g
      iterate 12 (first | (walk_at "rd"; done) | (try walk_at "rd"; try simp only [c0, d1, dSl, cu, cu2, a1, g, dTru, if_true]))
  · have d1 : decide ((s : Int) = ((S t).length : Int)) = true := by rw [S_len]; exact decide_eq_true (by omega)
    rw [decide_eq_false h, Bool.false_and]
    iterate 12 (first | (walk_at "rd"; done) | (try walk_at "rd"; try simp only [c0, d1]))
theorem stretch_top (t last : List Nat) (b : Nat) : ∀ (k e : Nat), e ≤ t.length → stretch t last b k e ≤ t.length
  | 0, e, h => h
  | k + 1, e, h => by
    unfold stretch
    split
    · rename_i z
      exact stretch_top t last b k (e + 1) (by omega)
    · exact h
theorem more_loop {n : Nat} {t L : List Nat} {b : Nat} {x y : Cell} (ht : t.length ≤ 900) (ha : Asc t) (hL : L.length ≤ 900) : ∀ (k s m : Nat), b ≤ s → s ≤ t.length → t.length < s + k + 1 → k < m → begunT ((t.take s).drop b) = true →
    whileL (mTru (oE (mCall 4 (run (n + 16) 35) (aV (mVar 0) (aV (mVar 4) (aV (mVar 1) (aV (mVar 2) aNil))))))) (mAsg (mOp2 dAdd (oN 1) (oE (mC (.int 1)))) (setv 1)) m
      [.val (.str (S t)), .val (.int (s : Nat)), .val (.str (S L)), x, .val (.int (b : Nat)), y] = .ok .nx [.val (.str (S t)), .val (.int (stretch t L b k s : Nat)), .val (.str (S L)), x, .val (.int (b : Nat)), y] := by
  intro k
  induction k with
  | zero =>
    intro s m hb hs hk hm hg
    obtain ⟨m, rfl⟩ : ∃ m', m = m' + 1 := ⟨m - 1, by omega⟩
    have e := more_ok n ht ha hL hb hs hg
    rw [decide_eq_false (by omega), Bool.false_and] at e
    unfold whileL stretch
    iterate 6 (first | (walk_at "rd"; done) | (try walk_at "rd"; try simp only [e, dTru]))
  | succ k ih =>
    intro s m hb hs hk hm hg
    obtain ⟨m, rfl⟩ : ∃ m', m = m' + 1 := ⟨m - 1, by omega⟩
    have e := more_ok n ht ha hL hb hs hg
    by_cases h1 : s < t.length
    · rw [decide_eq_true h1, Bool.true_and] at e
      cases h2 : mayF ((t.take (s + 1)).drop b) L with
      | true =>
        rw [h2] at e
        have es : stretch t L b (k + 1) s = stretch t L b k (s + 1) := by conv => lhs; unfold stretch; rw [if_pos ⟨h1, h2⟩]
        have hg2 : begunT ((t.take (s + 1)).drop b) = true := (Bool.and_eq_true_iff.mp h2).1
        have ih' := ih (s + 1) m (by omega) (by omega) (by omega) (by omega) hg2
        rw [es, ← ih']
        conv => lhs; unfold whileL
        iterate 10 (first | (walk_at "rd"; done) | (try walk_at "rd"; try simp only [e, dTru, loopK, if_true]))
        rfl
      | false =>
        rw [h2] at e
        have es : stretch t L b (k + 1) s = s := by conv => lhs; unfold stretch; rw [if_neg (fun z => by rw [h2] at z; exact absurd z.2 (by decide))]
        rw [es]
        unfold whileL
        iterate 10 (first | (walk_at "rd"; done) | (try walk_at "rd"; try simp only [e, dTru, if_true]))
    · rw [decide_eq_false h1, Bool.false_and] at e
      have es : stretch t L b (k + 1) s = s := by conv => lhs; unfold stretch; rw [if_neg (fun z => h1 z.1)]
      rw [es]
      unfold whileL
      iterate 6 (first | (walk_at "rd"; done) | (try walk_at "rd"; try simp only [e, dTru]))
theorem e0_le {t : List Nat} {b : Nat} (h : t[b]? = some 94) : e0Of t b ≤ t.length := by
  have h1 := (List.getElem?_eq_some_iff.mp h).1
  unfold e0Of
  split
  · rename_i z
    have h2 := (List.getElem?_eq_some_iff.mp z).1
    omega
  · omega
theorem readP_le {t : List Nat} {b : Nat} (hb : b ≤ t.length) : (readP t b).1 ≤ t.length ∧ b ≤ (readP t b).1 := by
  unfold readP
  by_cases h : t[b]? = some 94
  · rw [if_pos h]
    have h1 := e0_le h
    have h3 : b ≤ e0Of t b := by unfold e0Of; split <;> omega
    have h2 := (dgs_len t (e0Of t b)).2
    split
    · split
      · exact ⟨by simp only; omega, by simp only; omega⟩
      · exact ⟨h1, h3⟩
    · exact ⟨h1, h3⟩
  · rw [if_neg h]
    exact ⟨hb, Nat.le_refl _⟩
theorem dg_loop2 {t : List Nat} {e : Nat} {x : Cell} (ht : t.length ≤ 900) (he : e ≤ t.length) :
    whileL (mAnd (mTest (mOp2 dLt (oN 1) (oE (mCB dLen (oCons (oN 0) oNil))))) (mTest (mOp2 dIn (oE (mOp2 dIx (oN 0) (oN 1))) (oE (mC (.str "0123456789")))))) (mAsg (mOp2 dAdd (oN 1) (oE (mC (.int 1)))) (setv 1)) wf
      [.val (.str (S t)), .val (.int (e : Nat)), x] = .ok .nx [.val (.str (S t)), .val (.int ((e + (dgs t e).length : Nat) : Int)), x] := by
  have c0 : ((S t).length ≤ 100000) = True := by rw [S_len]; simp only [eq_iff_iff, iff_true]; omega
  have hk := (dgs_len t e).2
  refine whileL_run (fun j => [.val (.str (S t)), .val (.int (j : Nat)), x]) (dgs t e).length e wf (by unfold wf; omega) (fun j h0 hj => ?_) ?_
  · obtain ⟨h1, h2⟩ := takeWhile_lt (p := isD) (t.drop e) (j - e) (by unfold dgs at hj; omega)
    rw [List.length_drop] at h1
    rw [List.getElem_drop] at h2
    have ej : e + (j - e) = j := by omega
    simp only [ej] at h2
    have hjl : j < t.length := by omega
    have d1 : decide ((j : Int) < ((S t).length : Int)) = true := by rw [S_len]; exact decide_eq_true (by omega)
    have a1 : atI (S t).cps.toList (j : Int) = some t[j] := atI_nat hjl
    have h3 : decide (t[j] ∈ (Str.ofString "0123456789").cps.toList) = true := h2
    refine ⟨?_, ?_⟩
    · iterate 6 (first | (walk_at "rd"; done) | (try walk_at "rd"; try simp only [c0, d1, a1, dIn, inB, h3]))
    · iterate 3 (first | (walk_at "rd"; done) | (try walk_at "rd"))
      rfl
  · by_cases h : e + (dgs t e).length < t.length
    · have d1 : decide (((e + (dgs t e).length : Nat) : Int) < ((S t).length : Int)) = true := by rw [S_len]; exact decide_eq_true (by omega)
      have a1 : atI (S t).cps.toList ((e + (dgs t e).length : Nat) : Int) = some t[e + (dgs t e).length] := atI_nat h
      have h3 : decide (t[e + (dgs t e).length] ∈ (Str.ofString "0123456789").cps.toList) = false := by
        have h4 := takeWhile_end (p := isD) (t.drop e) (by rw [List.length_drop]; show (dgs t e).length < _; omega)
        rw [List.getElem_drop] at h4
        exact h4
      iterate 6 (first | (walk_at "rd"; done) | (try walk_at "rd"; try simp only [c0, d1, a1, dIn, inB, h3]))
    · have d1 : decide (((e + (dgs t e).length : Nat) : Int) < ((S t).length : Int)) = false := by rw [S_len]; exact decide_eq_false (by omega)
      iterate 6 (first | (walk_at "rd"; done) | (try walk_at "rd"; try simp only [c0, d1]))
theorem powE_ok (n : Nat) {t : List Nat} {b : Nat} (ht : t.length ≤ 900) (h1 : t[b]? = some 94) :
    run (n + 1) 38 [.val (.str (S t)), .val (.int ((b + 1 : Nat) : Int))] = .ok (.tup [.int ((readP t b).1 : Nat), .bl (readP t b).2.isSome]) [.val (.str (S t)), .val (.int ((b + 1 : Nat) : Int))] := by
  have c0 : ((S t).length ≤ 100000) = True := by rw [S_len]; simp only [eq_iff_iff, iff_true]; omega
  have u2 : cutS (S t) (some ((b + 1 : Nat) : Int)) (some (((b + 1 : Nat) : Int) + 1)) = S t[b + 1]?.toList := cut_one t (b + 1)
  have v2 := one_is t[b + 1]? 45
  have l2 : S [45] = "-" := rfl
  rw [l2] at v2
  have he0 : ∃ e0 : Nat, e0 = e0Of t b := ⟨_, rfl⟩
  obtain ⟨e0, he⟩ := he0
  have hle : e0 ≤ t.length := by rw [he]; exact e0_le h1
  have rp : readP t b = match t[e0]? with
      | some c => if isD1 c then (e0 + (dgs t e0).length, if wOf t b = [49] then none else some (decV (wOf t b))) else (e0, none)
      | none => (e0, none) := by unfold readP; rw [if_pos h1, he] <;> rfl
  show mBody 1 (m_l_power_end (run n) (runF n)) _ = _
  unfold m_l_power_end
  obtain ⟨tail, htail⟩ : ∃ x : Mi.Env → Out Fl, x = (mSeq (mIf (mOr (mTest (mOp2 dEqH (oN 1) (oE (mCB dLen (oCons (oN 0) oNil))))) (mTest (mOp2 dNotIn (oE (mOp2 dIx (oN 0) (oN 1))) (oE (mC (.str "123456789")))))) (mRet (mTup (mCons (mVar 1) (mCons (mC (.bl false)) mNil)))) mNext)
  (mSeq (whileL (mAnd (mTest (mOp2 dLt (oN 1) (oE (mCB dLen (oCons (oN 0) oNil))))) (mTest (mOp2 dIn (oE (mOp2 dIx (oN 0) (oN 1))) (oE (mC (.str "0123456789")))))) (mAsg (mOp2 dAdd (oN 1) (oE (mC (.int 1)))) (setv 1)) wf)
  (mRet (mTup (mCons (mVar 1) (mCons (mOp2 dNeH (oE (mSl (oN 0) (mPart (mVar 2)) (mPart (mVar 1)))) (oE (mC (.str "1")))) mNil)))))) := ⟨_, rfl⟩
  rw [← htail]
  have main : ∀ i : Int, i = (e0 : Int) → tail [.val (.str (S t)), .val (.int i), .val (.int ((b + 1 : Nat) : Int))] = .ok (.rt (.tup [.int ((readP t b).1 : Nat), .bl (readP t b).2.isSome])) [.val (.str (S t)), .val (.int ((readP t b).1 : Nat)), .val (.int ((b + 1 : Nat) : Int))] := by
    rintro i rfl
    rw [htail, rp]
    cases h2 : t[e0]? with
    | none =>
      have : t.length ≤ e0 := List.getElem?_eq_none_iff.mp h2
      have d1 : decide ((e0 : Int) = ((S t).length : Int)) = true := by rw [S_len]; exact decide_eq_true (by omega)
      iterate 8 (first | (walk_at "rd"; done) | (try walk_at "rd"; try simp only [c0, d1, Option.isSome_none]))
    | some c =>
      obtain ⟨hl, hg⟩ := List.getElem?_eq_some_iff.mp h2
      have d1 : decide ((e0 : Int) = ((S t).length : Int)) = false := by rw [S_len]; exact decide_eq_false (by omega)
      have a1 : atI (S t).cps.toList (e0 : Int) = some c := by
        have : atI (S t).cps.toList (e0 : Int) = some t[e0] := atI_nat hl
        rw [this, hg]
      cases h3 : isD1 c with
      | false =>
        have h3' : decide (c ∈ (Str.ofString "123456789").cps.toList) = false := h3
        iterate 8 (first | (walk_at "rd"; done) | (try walk_at "rd"; try simp only [c0, d1, a1, dNotIn, inB, h3', h3, Option.isSome_none]))
      | true =>
        have h3' : decide (c ∈ (Str.ofString "123456789").cps.toList) = true := h3
        have loop := dg_loop2 (x := .val (.int ((b + 1 : Nat) : Int))) ht hle
        have be : b + 1 ≤ e0 + (dgs t e0).length := by
          rw [he]
          unfold e0Of
          split <;> omega
        have cu : cutS (S t) (some ((b + 1 : Nat) : Int)) (some ((e0 + (dgs t e0).length : Nat) : Int)) = S (wOf t b) := by
          have := cut_mid t (b + 1) (e0 + (dgs t e0).length) be
          rw [he] at this ⊢
          exact this
        have v4 : decide (S (wOf t b) = "1") = decide (wOf t b = [49]) := S_eq (wOf t b) [49]
        by_cases h4 : wOf t b = [49]
        · rw [decide_eq_true h4] at v4
          rw [if_pos h4]
          iterate 8 (first | (walk_at "rd"; done) | (try walk_at "rd"; try simp only [c0, d1, a1, dNotIn, inB, h3', h3, loop, dSl, cu, v4, Option.isSome_none, if_true]))
        · rw [decide_eq_false h4] at v4
          rw [if_neg h4]
          iterate 8 (first | (walk_at "rd"; done) | (try walk_at "rd"; try simp only [c0, d1, a1, dNotIn, inB, h3', h3, loop, dSl, cu, v4, Option.isSome_some, if_true]))
  by_cases h2 : t[b + 1]? = some 45
  · rw [decide_eq_true h2] at v2
    have m := main (((b + 1 : Nat) : Int) + 1) (by rw [he]; unfold e0Of; rw [if_pos h2]; rfl)
    generalize readP t b = r at m ⊢
    iterate 8 (first | (walk_at "rd"; done) | (try walk_at "rd"; try simp only [dSl, c0, u2, v2, m, if_true]))
  · rw [decide_eq_false h2] at v2
    have m := main ((b + 1 : Nat) : Int) (by rw [he]; unfold e0Of; rw [if_neg h2])
    generalize readP t b = r at m ⊢
    iterate 8 (first | (walk_at "rd"; done) | (try walk_at "rd"; try simp only [dSl, c0, u2, v2, m, if_true]))
end Mea
set_option Elab.async false
set_option linter.all false
set_option maxRecDepth 100000
set_option maxHeartbeats 4000000
namespace Mea
open PySem L2 Wk Mi
local macro_rules | `(tactic| walk_at "rd") => `(tactic| simp only [mBody, mBodyF, fin, finF, finC, mSeq, seqK, mAsg, mAsgO, mRet, mRetN, mDrop, mNext, mIf, mTest, mTru, mAnd, mOr, mNot, mB, mAndV, mOrV, mNotV, mChain, mNil, mCons, mTup, mOp2, mUn, mSl, mPart, mNoPart, mC, mVar, oE, oN, oNil, oCons, mCB, rsv, rsvs, content, lift, setv, gmNil, gmCons, gmTup, mFrz, OD.d, mIter, walkD, mRange1, mRange2, mYes, aNil, aV, aS, aT, mCall, fCall, Mi.cellOf, cellsOf, apart, aparts, back, samePars, mPar, mAug, mRaise, mRaise0, mGet2, mSetIx, mPut, mAppend, mFor, Cell.isPar, Cell.olst, Cell.odk, Cell.put, fLst, fDk, fDict, fMove, bind_ok, bind_no, bind_err, List.cons_append, List.nil_append, List.replicate_succ, List.replicate_zero, List.getElem?_cons_zero, List.getElem?_cons_succ, List.getElem?_nil, List.set_cons_zero, List.set_cons_succ, List.length_cons, List.length_nil, List.take_succ_cons, List.take_zero, List.take_nil, Option.bind_some, Option.bind_none, Option.map_some, Option.map_none, List.all_nil, List.all_cons, Bool.and_true, Bool.true_and, Bool.and_false, Bool.false_and, Bool.not_true, Bool.not_false, decide_true, decide_false, reduceIte, Bool.false_eq_true, Bool.true_eq_false, if_true, if_false, beq_self_eq_true, Nat.reduceAdd, Nat.reduceEqDiff, Nat.reduceLeDiff, dAdd, dSub, dMulH, dMul, dDiv, dMod, dPow, dGt, dLt, dLe, dGe, dIx, ixL, dNeg, dAbs, dMax, dMin, dLen, deq_ii, deq_ss, deq_bb, dne_ii, dne_ss, dne_bb, atI_0, atI_1, atI_2, ixN_3_0, ixN_3_2, ne_eq, Int.reduceEq, Int.reduceNe, not_false_eq_true, not_true_eq_false, Int.reduceLT, Int.reduceLE, and_true, true_and, and_false, false_and, Int.reduceToNat, lim, Mi.key, fSorted, mM1, dStarts])
/-! ### a turn of reading -/
inductive Tn where
  | bad (e : Nat) | fin (e : Nat) (w : List Nat) (v : Int) | go (b : Nat) (w : List Nat) (v : Int)
def mid (t : List Nat) (b e : Nat) : List Nat := (t.take e).drop b
def behind (t : List Nat) (w : List Nat) : Nat × Option Int → Tn
  | (e2, none) => .bad e2
  | (e2, some v) => if e2 = t.length then .fin e2 w v else if t[e2]? = some 32 ∧ w < lastT [] then .go (e2 + 1) w v else .bad e2
def turnP (t L : List Nat) (b : Nat) : Tn :=
  if (readF t L b).2 then behind t (mid t b (readF t L b).1) (readP t (readF t L b).1) else .bad (readF t L b).1
theorem mid_len (t : List Nat) (b e : Nat) : (mid t b e).length ≤ t.length := by
  unfold mid
  rw [List.length_drop, List.length_take]
  omega
theorem begun_nil : begunT [] = true := by decide +kernel
theorem fol_nil (n : Nat) {L : List Nat} (hL : L.length ≤ 900) : run (n + 15) 34 [.val (.str ""), .val (.str (S L))] = .ok (.bl (decide (L < lastT []))) [.val (.str ""), .val (.str (S L))] := canF_ok hL 11 n [] begun_nil (by simp)
def p1s (x : Cell) : Prop := plain1 x
abbrev begB (n : Nat) : Mi.Env → Out Fl := (mSeq (mAsg (mVar 1) (setv 4))
  (mSeq (whileL (mTru (oE (mCall 4 ((run (n + 16)) 35) (aV (mVar 0) (aV (mVar 4) (aV (mVar 1) (aV (mVar 2) aNil))))))) (mAsg (mOp2 dAdd (oN 1) (oE (mC (.int 1)))) (setv 1)) wf)
  (mSeq (mIf (mOr (mNot (mTru (oE (mCall 1 ((run (n + 16)) 32) (aV (mSl (oN 0) (mPart (mVar 4)) (mPart (mVar 1))) aNil))))) (mNot (mTest (mOp2 dGt (oE (mSl (oN 0) (mPart (mVar 4)) (mPart (mVar 1)))) (oN 2))))) (mRet (mTup (mCons (mVar 1) (mCons (mC (.bl false)) mNil)))) mNext)
  (mSeq (mAsg (mSl (oN 0) (mPart (mVar 4)) (mPart (mVar 1))) (setv 2))
  (mSeq (mIf (mAnd (mTest (mOp2 dLt (oN 1) (oE (mCB dLen (oCons (oN 0) oNil))))) (mTest (mOp2 dEqH (oE (mOp2 dIx (oN 0) (oN 1))) (oE (mC (.str "^")))))) (mSeq (mAsg (mCall 2 ((run (n + 16)) 38) (aV (mVar 0) (aV (mOp2 dAdd (oN 1) (oE (mC (.int 1)))) aNil))) (gmTup 2 (gmCons (setv 1) (gmCons (setv 5) gmNil))))
  (mIf (mNot (mTru (oN 5))) (mRet (mTup (mCons (mVar 1) (mCons (mC (.bl false)) mNil)))) mNext)) mNext)
  (mSeq (mIf (mTest (mOp2 dEqH (oN 1) (oE (mCB dLen (oCons (oN 0) oNil))))) (mRet (mTup (mCons (mVar 1) (mCons (mC (.bl true)) mNil)))) mNext)
  (mSeq (mIf (mOr (mTest (mOp2 dNeH (oE (mOp2 dIx (oN 0) (oN 1))) (oE (mC (.str " "))))) (mNot (mTru (oE (mCall 2 ((run (n + 16)) 34) (aV (mC (.str "")) (aV (mVar 2) aNil))))))) (mRet (mTup (mCons (mVar 1) (mCons (mC (.bl false)) mNil)))) mNext)
  (mAsg (mOp2 dAdd (oN 1) (oE (mC (.int 1)))) (setv 1)))))))))
def outB (t : List Nat) (x : Cell) (bc : Cell) (y : Cell) : Tn → Out Fl
  | .bad e => .ok (.rt (.tup [.int (e : Nat), .bl false])) []
  | .fin e _ _ => .ok (.rt (.tup [.int (e : Nat), .bl true])) []
  | .go b w _ => .ok .nx [.val (.str (S t)), .val (.int (b : Nat)), .val (.str (S w)), x, bc, y]
/-- the same, but for the names behind a return -/
def sameO (a b : Out Fl) : Prop := match a, b with
  | .ok (.rt d) ρ, .ok (.rt d') _ => d = d' ∧ ρ ≠ []
  | .ok .nx ρ, .ok .nx ρ' => ρ = ρ'
  | _, _ => False
theorem eq32 (c : Nat) : decide ((⟨#[c]⟩ : Str) = " ") = decide (c = 32) := by
  have := S_eq [c] [32]
  have h : decide ([c] = [32]) = decide (c = 32) := by simp
  rw [h] at this
  exact this
theorem eq94 (c : Nat) : decide ((⟨#[c]⟩ : Str) = "^") = decide (c = 94) := by
  have := S_eq [c] [94]
  have h : decide ([c] = [94]) = decide (c = 94) := by simp
  rw [h] at this
  exact this
theorem beg_turn (n : Nat) {t L : List Nat} {b : Nat} {d : D} {x y : Cell} (ht : t.length ≤ 900) (ha : Asc t) (hL : L.length ≤ 900) (hb : b ≤ t.length) (hx : plain1 x) (hy : plain1 y) :
    ∃ y', plain1 y' ∧ sameO (begB n [.val (.str (S t)), .val (.int (b : Nat)), .val (.str (S L)), .val d, x, y]) (outB t (.val d) (.val (.int (b : Nat))) y' (turnP t L b)) := by
  have c0 : ((S t).length ≤ 100000) = True := by rw [S_len]; simp only [eq_iff_iff, iff_true]; omega
  have g0 : begunT ((t.take b).drop b) = true := by
    have : (t.take b).drop b = [] := List.drop_eq_nil_of_le (by rw [List.length_take]; omega)
    rw [this]
    exact begun_nil
  have loop := more_loop (n := n) (L := L) (b := b) (x := .val d) (y := y) ht ha hL t.length b wf (Nat.le_refl _) hb (by omega) (by unfold wf; omega) g0
  have hle := stretch_le t L b t.length b
  have htp := stretch_top t L b t.length b hb
  have r1 : (readF t L b).1 = stretch t L b t.length b := rfl
  have r2 : (readF t L b).2 = (isF ((t.take (stretch t L b t.length b)).drop b) && sless (S L) (S ((t.take (stretch t L b t.length b)).drop b))) := rfl
  unfold turnP
  rw [r1, r2]
  generalize stretch t L b t.length b = e at *
  have cu : cutS (S t) (some (b : Int)) (some (e : Int)) = S ((t.take e).drop b) := cut_mid t b e hle
  have hwl := mid_len t b e
  have f := lisF_ok (n + 13) ((t.take e).drop b) (by unfold mid at hwl; omega) (mid_asc ha b e)
  have fol := fol_nil (n + 1) (L := (t.take e).drop b) (by unfold mid at hwl; omega)
  have ew : mid t b e = (t.take e).drop b := rfl
  rw [ew]
  generalize (t.take e).drop b = w at *
  have asg : ∀ x y : Cell, plain1 x → setv 4 (.int (b : Nat)) [.val (.str (S t)), .val (.int (b : Nat)), .val (.str (S L)), .val d, x, y] = some [.val (.str (S t)), .val (.int (b : Nat)), .val (.str (S L)), .val d, .val (.int (b : Nat)), y] := by
    rintro x y (rfl | ⟨z, rfl⟩)
    · rfl
    · rfl
  have set5 : ∀ (i : Int) (z : D) (y : Cell), plain1 y → gmTup 2 (gmCons (setv 1) (gmCons (setv 5) gmNil)) (.tup [.int i, z]) [.val (.str (S t)), .val (.int (e : Nat)), .val (.str (S w)), .val d, .val (.int (b : Nat)), y] = some [.val (.str (S t)), .val (.int i), .val (.str (S w)), .val d, .val (.int (b : Nat)), .val z] := by
    rintro i z y (rfl | ⟨q, rfl⟩)
    · rfl
    · rfl
  obtain ⟨tail, htail⟩ : ∃ q : Mi.Env → Out Fl, q = (mSeq (mIf (mTest (mOp2 dEqH (oN 1) (oE (mCB dLen (oCons (oN 0) oNil))))) (mRet (mTup (mCons (mVar 1) (mCons (mC (.bl true)) mNil)))) mNext)
  (mSeq (mIf (mOr (mTest (mOp2 dNeH (oE (mOp2 dIx (oN 0) (oN 1))) (oE (mC (.str " "))))) (mNot (mTru (oE (mCall 2 ((run (n + 16)) 34) (aV (mC (.str "")) (aV (mVar 2) aNil))))))) (mRet (mTup (mCons (mVar 1) (mCons (mC (.bl false)) mNil)))) mNext)
  (mAsg (mOp2 dAdd (oN 1) (oE (mC (.int 1)))) (setv 1)))) := ⟨_, rfl⟩
  have tl : ∀ (e2 : Nat) (v : Int) (y : Cell), e2 ≤ t.length → plain1 y → sameO (tail [.val (.str (S t)), .val (.int (e2 : Nat)), .val (.str (S w)), .val d, .val (.int (b : Nat)), y]) (outB t (.val d) (.val (.int (b : Nat))) y (behind t w (e2, some v))) := by
    intro e2 v y h2 hy2
    rw [htail]
    unfold behind
    simp only
    by_cases q1 : e2 = t.length
    · rw [if_pos q1]
      have d1 : decide ((e2 : Int) = ((S t).length : Int)) = true := by rw [S_len]; exact decide_eq_true (by omega)
      iterate 12 (first | (walk_at "rd"; done) | (try walk_at "rd"; try simp only [c0, d1, outB, sameO, reduceCtorEq, not_false_eq_true, ne_eq]))
    · rw [if_neg q1]
      have d1 : decide ((e2 : Int) = ((S t).length : Int)) = false := by rw [S_len]; exact decide_eq_false (by omega)
      have hlt : e2 < t.length := by omega
      have a1 : atI (S t).cps.toList (e2 : Int) = some t[e2] := atI_nat hlt
      have hg : t[e2]? = some t[e2] := List.getElem?_eq_getElem hlt
      have e32 := eq32 t[e2]
      by_cases q2 : t[e2] = 32
      · rw [decide_eq_true q2] at e32
        by_cases q3 : w < lastT []
        · rw [decide_eq_true q3] at fol
          rw [if_pos ⟨by rw [hg, q2], q3⟩]
          iterate 12 (first | (walk_at "rd"; done) | (try walk_at "rd"; try simp only [c0, d1, a1, e32, fol, dTru, outB, sameO, reduceCtorEq, not_false_eq_true, ne_eq]))
          rfl
        · rw [decide_eq_false q3] at fol
          rw [if_neg (fun z => q3 z.2)]
          iterate 12 (first | (walk_at "rd"; done) | (try walk_at "rd"; try simp only [c0, d1, a1, e32, fol, dTru, outB, sameO, reduceCtorEq, not_false_eq_true, ne_eq]))
      · rw [decide_eq_false q2] at e32
        rw [if_neg (fun z => q2 (by rw [hg] at z; exact Option.some.inj z.1))]
        iterate 12 (first | (walk_at "rd"; done) | (try walk_at "rd"; try simp only [c0, d1, a1, e32, outB, sameO, reduceCtorEq, not_false_eq_true, ne_eq]))
  unfold begB
  rw [← htail]
  have asg' := asg x y hx
  have st : ∀ R : Mi.Env → Out Fl, (mSeq (mAsg (mVar 1) (setv 4)) R) [.val (.str (S t)), .val (.int (b : Nat)), .val (.str (S L)), .val d, x, y] = R [.val (.str (S t)), .val (.int (b : Nat)), .val (.str (S L)), .val d, .val (.int (b : Nat)), y] := by
    intro R
    unfold mSeq mAsg mVar
    simp only [List.getElem?_cons_succ, List.getElem?_cons_zero, bind_ok, asg']
    rfl
  rw [st]
  cases h1 : isF w with
  | false =>
    rw [h1] at f
    rw [Bool.false_and]
    refine ⟨y, hy, ?_⟩
    rw [if_neg (by decide)]
    iterate 12 (first | (walk_at "rd"; done) | (try walk_at "rd"; try simp only [loop, dSl, c0, cu, f, dTru, outB, sameO, reduceCtorEq, not_false_eq_true, ne_eq, if_true]))
  | true =>
    rw [h1] at f
    rw [Bool.true_and]
    cases h2 : sless (S L) (S w) with
    | false =>
      refine ⟨y, hy, ?_⟩
      rw [if_neg (by decide)]
      iterate 12 (first | (walk_at "rd"; done) | (try walk_at "rd"; try simp only [loop, dSl, c0, cu, f, h2, dTru, outB, sameO, reduceCtorEq, not_false_eq_true, ne_eq, if_true]))
    | true =>
      rw [if_pos rfl]
      by_cases h3 : t[e]? = some 94
      · have hlt : e < t.length := (List.getElem?_eq_some_iff.mp h3).1
        have d2 : decide ((e : Int) < ((S t).length : Int)) = true := by rw [S_len]; exact decide_eq_true (by omega)
        have a1 : atI (S t).cps.toList (e : Int) = some 94 := by
          have : atI (S t).cps.toList (e : Int) = some t[e] := atI_nat hlt
          rw [this, (List.getElem?_eq_some_iff.mp h3).2]
        have e94 := eq94 94
        rw [decide_eq_true rfl] at e94
        have pe := powE_ok (n + 15) ht h3
        have hr := readP_le (t := t) (b := e) htp
        have z1 : ((e + 1 : Nat) : Int) = (e : Int) + 1 := by omega
        rw [z1] at pe
        revert pe hr
        generalize readP t e = r
        obtain ⟨e2, o⟩ := r
        cases o with
        | none =>
          intro pe hr
          simp only [Option.isSome_none] at pe
          refine ⟨.val (.bl false), .inr ⟨_, rfl⟩, ?_⟩
          rcases hy with rfl | ⟨q, rfl⟩ <;> iterate 18 (first | (walk_at "rd"; done) | (try walk_at "rd"; try simp only [loop, dSl, c0, cu, f, h2, dTru, d2, a1, e94, pe, behind, outB, sameO, reduceCtorEq, not_false_eq_true, ne_eq, if_true]))
        | some v =>
          intro pe hr
          simp only [Option.isSome_some] at pe
          have tl' := tl e2 v (.val (.bl true)) hr.1 (.inr ⟨_, rfl⟩)
          refine ⟨.val (.bl true), .inr ⟨_, rfl⟩, ?_⟩
          revert tl'
          generalize outB t (.val d) (.val (.int (b : Nat))) (.val (.bl true)) (behind t w (e2, some v)) = R
          intro tl'
          rcases hy with rfl | ⟨q, rfl⟩ <;> iterate 18 (first | (walk_at "rd"; done) | exact tl' | (try walk_at "rd"; try simp only [loop, dSl, c0, cu, f, h2, dTru, d2, a1, e94, pe, if_true]))
      · have rp : readP t e = (e, some 1) := by unfold readP; rw [if_neg h3]
        rw [rp]
        refine ⟨y, hy, ?_⟩
        have tl' := tl e 1 y htp hy
        revert tl'
        generalize outB t (.val d) (.val (.int (b : Nat))) y (behind t w (e, some 1)) = R
        intro tl'
        by_cases h4 : e < t.length
        · have d2 : decide ((e : Int) < ((S t).length : Int)) = true := by rw [S_len]; exact decide_eq_true (by omega)
          have a1 : atI (S t).cps.toList (e : Int) = some t[e] := atI_nat h4
          have e94 : decide ((⟨#[t[e]]⟩ : Str) = "^") = false := by
            rw [eq94]
            exact decide_eq_false (fun z => h3 (by rw [List.getElem?_eq_getElem h4, z]))
          iterate 18 (first | (walk_at "rd"; done) | exact tl' | (try walk_at "rd"; try simp only [loop, dSl, c0, cu, f, h2, dTru, d2, a1, e94, if_true]))
        · have d2 : decide ((e : Int) < ((S t).length : Int)) = false := by rw [S_len]; exact decide_eq_false (by omega)
          iterate 18 (first | (walk_at "rd"; done) | exact tl' | (try walk_at "rd"; try simp only [loop, dSl, c0, cu, f, h2, dTru, d2, if_true]))
end Mea
set_option Elab.async false
set_option linter.all false
set_option maxRecDepth 100000
set_option maxHeartbeats 4000000
namespace Mea
open PySem L2 Wk Mi
local macro_rules | `(tactic| walk_at "rd") => `(tactic| simp only [mBody, mBodyF, fin, finF, finC, mSeq, seqK, mAsg, mAsgO, mRet, mRetN, mDrop, mNext, mIf, mTest, mTru, mAnd, mOr, mNot, mB, mAndV, mOrV, mNotV, mChain, mNil, mCons, mTup, mOp2, mUn, mSl, mPart, mNoPart, mC, mVar, oE, oN, oNil, oCons, mCB, rsv, rsvs, content, lift, setv, gmNil, gmCons, gmTup, mFrz, OD.d, mIter, walkD, mRange1, mRange2, mYes, aNil, aV, aS, aT, mCall, fCall, Mi.cellOf, cellsOf, apart, aparts, back, samePars, mPar, mAug, mRaise, mRaise0, mGet2, mSetIx, mPut, mAppend, mFor, Cell.isPar, Cell.olst, Cell.odk, Cell.put, fLst, fDk, fDict, fMove, bind_ok, bind_no, bind_err, List.cons_append, List.nil_append, List.replicate_succ, List.replicate_zero, List.getElem?_cons_zero, List.getElem?_cons_succ, List.getElem?_nil, List.set_cons_zero, List.set_cons_succ, List.length_cons, List.length_nil, List.take_succ_cons, List.take_zero, List.take_nil, Option.bind_some, Option.bind_none, Option.map_some, Option.map_none, List.all_nil, List.all_cons, Bool.and_true, Bool.true_and, Bool.and_false, Bool.false_and, Bool.not_true, Bool.not_false, decide_true, decide_false, reduceIte, Bool.false_eq_true, Bool.true_eq_false, if_true, if_false, beq_self_eq_true, Nat.reduceAdd, Nat.reduceEqDiff, Nat.reduceLeDiff, dAdd, dSub, dMulH, dMul, dDiv, dMod, dPow, dGt, dLt, dLe, dGe, dIx, ixL, dNeg, dAbs, dMax, dMin, dLen, deq_ii, deq_ss, deq_bb, dne_ii, dne_ss, dne_bb, atI_0, atI_1, atI_2, ixN_3_0, ixN_3_2, ne_eq, Int.reduceEq, Int.reduceNe, not_false_eq_true, not_true_eq_false, Int.reduceLT, Int.reduceLE, and_true, true_and, and_false, false_and, Int.reduceToNat, lim, Mi.key, fSorted, mM1, dStarts])
def readA (t : List Nat) : Nat → List Nat → Nat → List (List Nat × Int) → Nat × Option (List (List Nat × Int))
  | 0, _, b, _ => (b, none)
  | k + 1, L, b, acc => match turnP t L b with
    | .bad e => (e, none)
    | .fin e w v => (e, some (acc ++ [(w, v)]))
    | .go b' w v => readA t k w b' (acc ++ [(w, v)])
theorem turn_go {t L : List Nat} {b b' : Nat} {w : List Nat} {v : Int} (h : turnP t L b = .go b' w v) (hb : b ≤ t.length) : b < b' ∧ b' ≤ t.length ∧ w.length ≤ t.length := by
  unfold turnP at h
  split at h
  · have h1 := stretch_le t L b t.length b
    have h2 := stretch_top t L b t.length b hb
    have r1 : (readF t L b).1 = stretch t L b t.length b := rfl
    have hr := readP_le (t := t) (b := (readF t L b).1) (by omega)
    revert h hr
    generalize readP t (readF t L b).1 = r
    obtain ⟨e2, o⟩ := r
    cases o with
    | none =>
      intro h hr
      cases h
    | some u =>
      intro h hr
      unfold behind at h
      simp only at h hr
      split at h
      · cases h
      · split at h
        · rename_i q
          cases h
          have hl := (List.getElem?_eq_some_iff.mp q.1).1
          exact ⟨by omega, by omega, mid_len _ _ _⟩
        · cases h
  · cases h
theorem beg_loop {n : Nat} {t : List Nat} (ht : t.length ≤ 900) (ha : Asc t) : ∀ (js : List D) (L : List Nat) (b : Nat) (x y z : Cell) (acc : List (List Nat × Int)), L.length ≤ 900 → b ≤ t.length → t.length < b + js.length → plain1 x → plain1 y → plain1 z →
    sameO (forL (setv 3) (begB n) js [.val (.str (S t)), .val (.int (b : Nat)), .val (.str (S L)), x, y, z]) (.ok (.rt (.tup [.int ((readA t js.length L b acc).1 : Nat), .bl (readA t js.length L b acc).2.isSome])) [])
  | [], L, b, x, y, z, acc, hL, hb, hk, _, _, _ => by simp only [List.length_nil] at hk; omega
  | d :: js, L, b, x, y, z, acc, hL, hb, hk, hx, hy, hz => by
    have st : setv 3 d [.val (.str (S t)), .val (.int (b : Nat)), .val (.str (S L)), x, y, z] = some [.val (.str (S t)), .val (.int (b : Nat)), .val (.str (S L)), .val d, y, z] := by
      rcases hx with rfl | ⟨q, rfl⟩
      · rfl
      · rfl
    obtain ⟨z', hz', h⟩ := beg_turn n (d := d) ht ha hL hb hy hz
    rw [List.length_cons] at hk ⊢
    unfold forL
    rw [st]
    show sameO (loopK _ _) _
    unfold readA
    revert h
    cases e : turnP t L b with
    | bad q =>
      intro h
      revert h
      cases begB n [.val (.str (S t)), .val (.int (b : Nat)), .val (.str (S L)), .val d, y, z] with
      | no => intro h; exact h.elim
      | err x ρ => intro h; exact h.elim
      | ok a ρ => cases a <;> intro h <;> first | exact h | exact h.elim
    | fin q w v =>
      intro h
      revert h
      cases begB n [.val (.str (S t)), .val (.int (b : Nat)), .val (.str (S L)), .val d, y, z] with
      | no => intro h; exact h.elim
      | err x ρ => intro h; exact h.elim
      | ok a ρ => cases a <;> intro h <;> first | exact h | exact h.elim
    | go b' w v =>
      obtain ⟨g1, g2, g3⟩ := turn_go e hb
      have ih := beg_loop (n := n) ht ha js w b' (.val d) (.val (.int (b : Nat))) z' (acc ++ [(w, v)]) (by omega) g2 (by omega) (.inr ⟨_, rfl⟩) (.inr ⟨_, rfl⟩) hz'
      intro h
      revert h
      cases begB n [.val (.str (S t)), .val (.int (b : Nat)), .val (.str (S L)), .val d, y, z] with
      | no => intro h; exact h.elim
      | err x ρ => intro h; exact h.elim
      | ok a ρ => cases a <;> intro h <;> first | exact h.elim | (have h' : ρ = _ := h; subst h'; exact ih)
theorem seq_for {mi : Mi.Env → Out (List D)} {mg : D → Mi.Env → Option Mi.Env} {mb R : Mi.Env → Out Fl} {ρ : Mi.Env} : mSeq (mFor mi mg mb) R ρ = ((mi ρ).bind (forL mg mb)).bind (seqK R) := rfl
theorem begun_ok (n : Nat) {t : List Nat} (ht : t.length ≤ 900) (ha : Asc t) : run (n + 17) 36 [.val (.str (S t))] = .ok (.tup [.int ((readA t (t.length + 1) [] 0 []).1 : Nat), .bl (readA t (t.length + 1) [] 0 []).2.isSome]) [.val (.str (S t))] := by
  have c0 : ((S t).length ≤ 100000) = True := by rw [S_len]; simp only [eq_iff_iff, iff_true]; omega
  have hr : (rngD 0 (t.length + 1)).length = t.length + 1 := by unfold rngD; rw [List.length_map, List.length_range]
  have lp := beg_loop (n := n) ht ha (rngD 0 (t.length + 1)) [] 0 .no .no .no [] (by simp) (by omega) (by rw [hr]; omega) (.inl rfl) (.inl rfl) (.inl rfl)
  rw [hr] at lp
  have z0 : S [] = "" := rfl
  rw [z0] at lp
  have le : mOp2 dAdd (oE (mCB dLen (oCons (oN 0) oNil))) (oE (mC (.int 1))) [.val (.str (S t)), .val (.int 0), .val (.str ""), .no, .no, .no] = .ok (.int ((t.length + 1 : Nat) : Int)) [.val (.str (S t)), .val (.int 0), .val (.str ""), .no, .no, .no] := by
    have q : ((S t).length : Int) + 1 = ((t.length + 1 : Nat) : Int) := by rw [S_len]; omega
    iterate 6 (first | (walk_at "rd"; done) | (try walk_at "rd"; try simp only [c0, q]))
  have rg := rng_at le (by omega)
  show mBody 5 (m_l_begun (run (n + 16)) (runF (n + 16))) _ = _
  unfold m_l_begun mBody
  have e1 : ∀ R : Mi.Env → Out Fl, (mSeq (mAsg (mTup (mCons (mC (.int 0)) (mCons (mC (.str "")) mNil))) (gmTup 2 (gmCons (setv 1) (gmCons (setv 2) gmNil)))) R) ([.val (.str (S t))] ++ List.replicate 5 .no) = R [.val (.str (S t)), .val (.int 0), .val (.str ""), .no, .no, .no] := fun R => rfl
  rw [e1]
  rw [seq_for, rg, bind_ok]
  have ez : ((0 : Nat) : Int) = 0 := rfl
  rw [ez] at lp
  revert lp
  generalize (readA t (t.length + 1) [] 0 []) = r
  generalize hF : forL (setv 3) (begB n) (rngD 0 (t.length + 1)) [.val (.str (S t)), .val (.int 0), .val (.str ""), .no, .no, .no] = F
  cases F with
  | no => intro h; exact h.elim
  | err x ρ => intro h; exact h.elim
  | ok a ρ =>
    cases a <;> intro h <;> first | exact h.elim | skip
    rename_i d
    obtain ⟨h1, h2⟩ := h
    subst h1
    cases ρ with
    | nil => exact absurd rfl h2
    | cons c ρ => rfl
end Mea
set_option Elab.async false
set_option linter.all false
set_option maxRecDepth 100000
set_option maxHeartbeats 4000000
namespace Mea
open PySem L2 Wk Mi
local macro_rules | `(tactic| walk_at "rd") => `(tactic| simp only [mBody, mBodyF, fin, finF, finC, mSeq, seqK, mAsg, mAsgO, mRet, mRetN, mDrop, mNext, mIf, mTest, mTru, mAnd, mOr, mNot, mB, mAndV, mOrV, mNotV, mChain, mNil, mCons, mTup, mOp2, mUn, mSl, mPart, mNoPart, mC, mVar, oE, oN, oNil, oCons, mCB, rsv, rsvs, content, lift, setv, gmNil, gmCons, gmTup, mFrz, OD.d, mIter, walkD, mRange1, mRange2, mYes, aNil, aV, aS, aT, mCall, fCall, Mi.cellOf, cellsOf, apart, aparts, back, samePars, mPar, mAug, mRaise, mRaise0, mGet2, mSetIx, mPut, mAppend, mFor, Cell.isPar, Cell.olst, Cell.odk, Cell.put, fLst, fDk, fDict, fMove, bind_ok, bind_no, bind_err, List.cons_append, List.nil_append, List.replicate_succ, List.replicate_zero, List.getElem?_cons_zero, List.getElem?_cons_succ, List.getElem?_nil, List.set_cons_zero, List.set_cons_succ, List.length_cons, List.length_nil, List.take_succ_cons, List.take_zero, List.take_nil, Option.bind_some, Option.bind_none, Option.map_some, Option.map_none, List.all_nil, List.all_cons, Bool.and_true, Bool.true_and, Bool.and_false, Bool.false_and, Bool.not_true, Bool.not_false, decide_true, decide_false, reduceIte, Bool.false_eq_true, Bool.true_eq_false, if_true, if_false, beq_self_eq_true, Nat.reduceAdd, Nat.reduceEqDiff, Nat.reduceLeDiff, dAdd, dSub, dMulH, dMul, dDiv, dMod, dPow, dGt, dLt, dLe, dGe, dIx, ixL, dNeg, dAbs, dMax, dMin, dLen, deq_ii, deq_ss, deq_bb, dne_ii, dne_ss, dne_bb, atI_0, atI_1, atI_2, ixN_3_0, ixN_3_2, ne_eq, Int.reduceEq, Int.reduceNe, not_false_eq_true, not_true_eq_false, Int.reduceLT, Int.reduceLE, and_true, true_and, and_false, false_and, Int.reduceToNat, lim, Mi.key, fSorted, mM1, dStarts])
/-! ### read_measure -/
def encW (p : List Nat × Int) : D := .tup [.str (S p.1), .int p.2]
def sameR (a b : Out Fl) : Prop := match a, b with
  | .ok (.rt d) ρ, .ok (.rt d') _ => d = d' ∧ ρ ≠ []
  | .err x ρ, .err x' _ => x = x' ∧ ρ ≠ []
  | .ok .nx ρ, .ok .nx ρ' => ρ = ρ'
  | _, _ => False
def outR (t : List Nat) (acc : List (List Nat × Int)) (bc : Cell) : Tn → Out Fl
  | .bad e => .err ⟨0, [.int (e : Nat)]⟩ []
  | .fin _ w v => .ok (.rt (.tup ((acc ++ [(w, v)]).map encW))) []
  | .go b w v => .ok .nx [.val (.str (S t)), .own (.lst ((acc ++ [(w, v)]).map encW)), .val (.int (b : Nat)), .val (.str (S w)), bc, .val (.int v)]
abbrev rdB (n : Nat) : Mi.Env → Out Fl := (mSeq (mAsg (mVar 2) (setv 4))
  (mSeq (mAsg (mCall 3 ((run (n + 6)) 16) (aV (mVar 0) (aV (mVar 4) (aV (mVar 3) aNil)))) (setv 2))
  (mSeq (mAsg (mSl (oN 0) (mPart (mVar 4)) (mPart (mVar 2))) (setv 3))
  (mSeq (mAsg (mCall 2 ((run (n + 6)) 17) (aV (mVar 0) (aV (mVar 2) aNil))) (gmTup 2 (gmCons (setv 2) (gmCons (setv 5) gmNil))))
  (mSeq (mDrop (mAppend 1 (mTup (mCons (mVar 3) (mCons (mVar 5) mNil)))))
  (mSeq (mIf (mTest (mOp2 dEqH (oN 2) (oE (mCB dLen (oCons (oN 0) oNil))))) (mRet (mCB dTuple (oCons (oN 1) oNil))) mNext)
  (mSeq (mIf (mOr (mTest (mOp2 dNeH (oE (mOp2 dIx (oN 0) (oN 2))) (oE (mC (.str " "))))) (mNot (mTru (oE (mCall 2 ((run (n + 6)) 15) (aV (mC (.str "")) (aV (mVar 3) aNil))))))) (mRaise 0 (mVar 2)) mNext)
  (mAug 2 (· + ·) (mC (.int 1))))))))))
theorem rd_turn (n : Nat) {t L : List Nat} {b : Nat} {acc : List (List Nat × Int)} {x y : Cell} (ht : t.length ≤ 900) (hs : t.countP isD ≤ 600) (hL : L.length ≤ 900) (hb : b ≤ t.length) (hac : acc.length ≤ b) (hx : plain1 x) (hy : plain1 y) :
    sameR (rdB n [.val (.str (S t)), .own (.lst (acc.map encW)), .val (.int (b : Nat)), .val (.str (S L)), x, y]) (outR t acc (.val (.int (b : Nat))) (turnP t L b)) := by
  have c0 : ((S t).length ≤ 100000) = True := by rw [S_len]; simp only [eq_iff_iff, iff_true]; omega
  have rf := readF_ok n t L b ht
  have hle := stretch_le t L b t.length b
  have htp := stretch_top t L b t.length b hb
  have r1 : (readF t L b).1 = stretch t L b t.length b := rfl
  rw [← r1] at hle htp
  unfold turnP
  revert rf hle htp
  generalize readF t L b = R
  obtain ⟨e, ok⟩ := R
  simp only
  intro rf hle htp
  have st : ∀ R : Mi.Env → Out Fl, (mSeq (mAsg (mVar 2) (setv 4)) R) [.val (.str (S t)), .own (.lst (acc.map encW)), .val (.int (b : Nat)), .val (.str (S L)), x, y] = R [.val (.str (S t)), .own (.lst (acc.map encW)), .val (.int (b : Nat)), .val (.str (S L)), .val (.int (b : Nat)), y] := by
    intro R
    rcases hx with rfl | ⟨q, rfl⟩
    · rfl
    · rfl
  unfold rdB
  rw [st]
  cases ok with
  | false =>
    rw [if_neg (by decide)] at rf ⊢
    iterate 8 (first | (walk_at "rd"; done) | (try walk_at "rd"; try simp only [rf, outR, sameR, reduceCtorEq, not_false_eq_true, ne_eq]))
  | true =>
    rw [if_pos rfl] at rf ⊢
    have cu : cutS (S t) (some (b : Int)) (some (e : Int)) = S (mid t b e) := cut_mid t b e hle
    have hwl := mid_len t b e
    generalize mid t b e = w at *
    have rp := readP_ok (n + 5) t e ht hs
    have hr := readP_le (t := t) (b := e) htp
    revert rp hr
    generalize readP t e = r
    obtain ⟨e2, o⟩ := r
    simp only
    cases o with
    | none =>
      intro rp hr
      simp only at rp
      unfold behind
      iterate 12 (first | (walk_at "rd"; done) | (try walk_at "rd"; try simp only [rf, dSl, c0, cu, rp, outR, sameR, reduceCtorEq, not_false_eq_true, ne_eq, if_true]))
    | some v =>
      intro rp hr
      simp only at rp hr
      have fo := follow_ok (n + 2) [] w (by simp)
      have z0 : S [] = "" := rfl
      have m0 : mayF [] w = decide (w < lastT []) := by
        unfold mayF
        rw [begun_nil, Bool.true_and]
        rfl
      rw [z0, m0] at fo
      have al : ((acc.map encW).length < 100000) = True := by rw [List.length_map]; simp only [eq_iff_iff, iff_true]; omega
      have ap : acc.map encW ++ [.tup [.str (S w), .int v]] = (acc ++ [(w, v)]).map encW := by rw [List.map_append]; rfl
      obtain ⟨tail, htail⟩ : ∃ q : Mi.Env → Out Fl, q = (mSeq (mIf (mTest (mOp2 dEqH (oN 2) (oE (mCB dLen (oCons (oN 0) oNil))))) (mRet (mCB dTuple (oCons (oN 1) oNil))) mNext)
  (mSeq (mIf (mOr (mTest (mOp2 dNeH (oE (mOp2 dIx (oN 0) (oN 2))) (oE (mC (.str " "))))) (mNot (mTru (oE (mCall 2 ((run (n + 6)) 15) (aV (mC (.str "")) (aV (mVar 3) aNil))))))) (mRaise 0 (mVar 2)) mNext)
  (mAug 2 (· + ·) (mC (.int 1))))) := ⟨_, rfl⟩
      have tl : sameR (tail [.val (.str (S t)), .own (.lst ((acc ++ [(w, v)]).map encW)), .val (.int (e2 : Nat)), .val (.str (S w)), .val (.int (b : Nat)), .val (.int v)]) (outR t acc (.val (.int (b : Nat))) (behind t w (e2, some v))) := by
        rw [htail]
        unfold behind
        simp only
        by_cases q1 : e2 = t.length
        · rw [if_pos q1]
          have d1 : decide ((e2 : Int) = ((S t).length : Int)) = true := by rw [S_len]; exact decide_eq_true (by omega)
          iterate 8 (first | (walk_at "rd"; done) | (try walk_at "rd"; try simp only [c0, d1, dTuple, outR, sameR, reduceCtorEq, not_false_eq_true, ne_eq]))
        · rw [if_neg q1]
          have d1 : decide ((e2 : Int) = ((S t).length : Int)) = false := by rw [S_len]; exact decide_eq_false (by omega)
          have hlt : e2 < t.length := by omega
          have a1 : atI (S t).cps.toList (e2 : Int) = some t[e2] := atI_nat hlt
          have hg : t[e2]? = some t[e2] := List.getElem?_eq_getElem hlt
          have e32 := eq32 t[e2]
          by_cases q2 : t[e2] = 32
          · rw [decide_eq_true q2] at e32
            by_cases q3 : w < lastT []
            · rw [decide_eq_true q3] at fo
              rw [if_pos ⟨by rw [hg, q2], q3⟩]
              iterate 12 (first | (walk_at "rd"; done) | (try walk_at "rd"; try simp only [c0, d1, a1, e32, fo, dTru, outR, sameR, reduceCtorEq, not_false_eq_true, ne_eq]))
              rfl
            · rw [decide_eq_false q3] at fo
              rw [if_neg (fun z => q3 z.2)]
              iterate 12 (first | (walk_at "rd"; done) | (try walk_at "rd"; try simp only [c0, d1, a1, e32, fo, dTru, outR, sameR, reduceCtorEq, not_false_eq_true, ne_eq]))
          · rw [decide_eq_false q2] at e32
            rw [if_neg (fun z => q2 (by rw [hg] at z; exact Option.some.inj z.1))]
            iterate 12 (first | (walk_at "rd"; done) | (try walk_at "rd"; try simp only [c0, d1, a1, e32, outR, sameR, reduceCtorEq, not_false_eq_true, ne_eq]))
      rw [← htail]
      revert tl
      generalize outR t acc (.val (.int (b : Nat))) (behind t w (e2, some v)) = R
      intro tl
      rcases hy with rfl | ⟨q, rfl⟩ <;> iterate 18 (first | (walk_at "rd"; done) | exact tl | (try walk_at "rd"; try simp only [rf, dSl, c0, cu, rp, al, ap, if_true]))
end Mea
set_option Elab.async false
set_option linter.all false
set_option maxRecDepth 100000
set_option maxHeartbeats 4000000
namespace Mea
open PySem L2 Wk Mi
local macro_rules | `(tactic| walk_at "rd") => `(tactic| simp only [mBody, mBodyF, fin, finF, finC, mSeq, seqK, mAsg, mAsgO, mRet, mRetN, mDrop, mNext, mIf, mTest, mTru, mAnd, mOr, mNot, mB, mAndV, mOrV, mNotV, mChain, mNil, mCons, mTup, mOp2, mUn, mSl, mPart, mNoPart, mC, mVar, oE, oN, oNil, oCons, mCB, rsv, rsvs, content, lift, setv, gmNil, gmCons, gmTup, mFrz, OD.d, mIter, walkD, mRange1, mRange2, mYes, aNil, aV, aS, aT, mCall, fCall, Mi.cellOf, cellsOf, apart, aparts, back, samePars, mPar, mAug, mRaise, mRaise0, mGet2, mSetIx, mPut, mAppend, mFor, Cell.isPar, Cell.olst, Cell.odk, Cell.put, fLst, fDk, fDict, fMove, bind_ok, bind_no, bind_err, List.cons_append, List.nil_append, List.replicate_succ, List.replicate_zero, List.getElem?_cons_zero, List.getElem?_cons_succ, List.getElem?_nil, List.set_cons_zero, List.set_cons_succ, List.length_cons, List.length_nil, List.take_succ_cons, List.take_zero, List.take_nil, Option.bind_some, Option.bind_none, Option.map_some, Option.map_none, List.all_nil, List.all_cons, Bool.and_true, Bool.true_and, Bool.and_false, Bool.false_and, Bool.not_true, Bool.not_false, decide_true, decide_false, reduceIte, Bool.false_eq_true, Bool.true_eq_false, if_true, if_false, beq_self_eq_true, Nat.reduceAdd, Nat.reduceEqDiff, Nat.reduceLeDiff, dAdd, dSub, dMulH, dMul, dDiv, dMod, dPow, dGt, dLt, dLe, dGe, dIx, ixL, dNeg, dAbs, dMax, dMin, dLen, deq_ii, deq_ss, deq_bb, dne_ii, dne_ss, dne_bb, atI_0, atI_1, atI_2, ixN_3_0, ixN_3_2, ne_eq, Int.reduceEq, Int.reduceNe, not_false_eq_true, not_true_eq_false, Int.reduceLT, Int.reduceLE, and_true, true_and, and_false, false_and, Int.reduceToNat, lim, Mi.key, fSorted, mM1, dStarts])
def outM : Nat × Option (List (List Nat × Int)) → Out Fl
  | (e, none) => .err ⟨0, [.int (e : Nat)]⟩ []
  | (_, some l) => .ok (.rt (.tup (l.map encW))) []
theorem rd_loop {n : Nat} {t : List Nat} (ht : t.length ≤ 900) (hs : t.countP isD ≤ 600) (hne : t ≠ []) : ∀ (k m : Nat) (L : List Nat) (b : Nat) (x y : Cell) (acc : List (List Nat × Int)), L.length ≤ 900 → b ≤ t.length → acc.length ≤ b → t.length < b + k → k < m → plain1 x → plain1 y →
    sameR (whileL (mTest (mOp2 dNeH (oN 0) (oE (mC (.str ""))))) (rdB n) m [.val (.str (S t)), .own (.lst (acc.map encW)), .val (.int (b : Nat)), .val (.str (S L)), x, y]) (outM (readA t k L b acc))
  | 0, m, L, b, x, y, acc, hL, hb, hac, hk, _, _, _ => by omega
  | k + 1, 0, L, b, x, y, acc, hL, hb, hac, hk, hm, _, _ => by omega
  | k + 1, m + 1, L, b, x, y, acc, hL, hb, hac, hk, hm, hx, hy => by
    have h := rd_turn n (L := L) (acc := acc) ht hs hL hb hac hx hy
    have zt := S_nil t
    rw [decide_eq_false hne] at zt
    have tst : mTest (mOp2 dNeH (oN 0) (oE (mC (.str "")))) [.val (.str (S t)), .own (.lst (acc.map encW)), .val (.int (b : Nat)), .val (.str (S L)), x, y] = .ok true [.val (.str (S t)), .own (.lst (acc.map encW)), .val (.int (b : Nat)), .val (.str (S L)), x, y] := by
      iterate 4 (first | (walk_at "rd"; done) | (try walk_at "rd"; try simp only [zt]))
    unfold whileL
    rw [tst, bind_ok]
    show sameR (loopK _ _) _
    unfold readA
    revert h
    cases e : turnP t L b with
    | bad q =>
      cases rdB n [.val (.str (S t)), .own (.lst (acc.map encW)), .val (.int (b : Nat)), .val (.str (S L)), x, y] with
      | no => intro h; exact h.elim
      | err x ρ => intro h; exact h
      | ok a ρ => cases a <;> intro h <;> first | exact h | exact h.elim
    | fin q w v =>
      cases rdB n [.val (.str (S t)), .own (.lst (acc.map encW)), .val (.int (b : Nat)), .val (.str (S L)), x, y] with
      | no => intro h; exact h.elim
      | err x ρ => intro h; exact h.elim
      | ok a ρ => cases a <;> intro h <;> first | exact h | exact h.elim
    | go b' w v =>
      obtain ⟨g1, g2, g3⟩ := turn_go e hb
      have ih := rd_loop (n := n) ht hs hne k m w b' (.val (.int (b : Nat))) (.val (.int v)) (acc ++ [(w, v)]) (by omega) g2 (by rw [List.length_append]; simp; omega) (by omega) (by omega) (.inr ⟨_, rfl⟩) (.inr ⟨_, rfl⟩)
      cases rdB n [.val (.str (S t)), .own (.lst (acc.map encW)), .val (.int (b : Nat)), .val (.str (S L)), x, y] with
      | no => intro h; exact h.elim
      | err x ρ => intro h; exact h.elim
      | ok a ρ => cases a <;> intro h <;> first | exact h.elim | (have h' : ρ = _ := h; subst h'; exact ih)
/-- read_measure -/
def readM (t : List Nat) : Nat × Option (List (List Nat × Int)) := if t = [] then (0, some []) else readA t (t.length + 1) [] 0 []
theorem seq_while {mc : Mi.Env → Out Bool} {mb R : Mi.Env → Out Fl} {k : Nat} {ρ : Mi.Env} : mSeq (whileL mc mb k) R ρ = (whileL mc mb k ρ).bind (seqK R) := rfl
theorem readM_ok (n : Nat) {t : List Nat} (ht : t.length ≤ 900) (hs : t.countP isD ≤ 600) :
    run (n + 7) 18 [.val (.str (S t))] = match readM t with
      | (e, none) => .err ⟨0, [.int (e : Nat)]⟩ [.val (.str (S t))]
      | (_, some l) => .ok (.tup (l.map encW)) [.val (.str (S t))] := by
  show mBody 5 (m_read_measure (run (n + 6)) (runF (n + 6))) _ = _
  unfold m_read_measure
  by_cases hne : t = []
  · subst hne
    have rm : readM [] = (0, some []) := by unfold readM; rw [if_pos rfl]
    rw [rm]
    have z0 : S [] = "" := rfl
    have wh : ∀ mb : Mi.Env → Out Fl, whileL (mTest (mOp2 dNeH (oN 0) (oE (mC (.str ""))))) mb wf [.val (.str (S [])), .own (.lst []), .val (.int 0), .val (.str ""), .no, .no] = .ok .nx [.val (.str (S [])), .own (.lst []), .val (.int 0), .val (.str ""), .no, .no] := fun mb => rfl
    iterate 8 (first | (walk_at "rd"; done) | (try walk_at "rd"; try simp only [wh]))
    rfl
  · have lp := rd_loop (n := n) ht hs hne (t.length + 1) wf [] 0 .no .no [] (by simp) (by omega) (by simp) (by omega) (by unfold wf; omega) (.inl rfl) (.inl rfl)
    have rm : readM t = readA t (t.length + 1) [] 0 [] := by unfold readM; rw [if_neg hne]
    rw [rm]
    have z0 : S [] = "" := rfl
    have ez : ((0 : Nat) : Int) = 0 := rfl
    have em : ([] : List (List Nat × Int)).map encW = [] := rfl
    rw [z0, ez, em] at lp
    unfold mBody
    have e1 : ∀ R : Mi.Env → Out Fl, (mSeq (mPar 6 [1, 2, 3] (aT (fLst mNil) (aV (mC (.int 0)) (aV (mC (.str "")) aNil)))) R) ([.val (.str (S t))] ++ List.replicate 5 .no) = R [.val (.str (S t)), .own (.lst []), .val (.int 0), .val (.str ""), .no, .no] := fun R => rfl
    rw [e1, seq_while]
    revert lp
    generalize readA t (t.length + 1) [] 0 [] = r
    generalize hF : whileL (mTest (mOp2 dNeH (oN 0) (oE (mC (.str ""))))) (rdB n) wf [.val (.str (S t)), .own (.lst []), .val (.int 0), .val (.str ""), .no, .no] = F
    obtain ⟨e, o⟩ := r
    cases o with
    | none =>
      cases F with
      | no => intro h; exact h.elim
      | err x ρ =>
        intro h
        obtain ⟨h1, h2⟩ := h
        subst h1
        cases ρ with
        | nil => exact absurd rfl h2
        | cons c ρ => rfl
      | ok a ρ => cases a <;> intro h <;> exact h.elim
    | some l =>
      cases F with
      | no => intro h; exact h.elim
      | err x ρ => intro h; exact h.elim
      | ok a ρ =>
        cases a <;> intro h <;> first | exact h.elim | skip
        obtain ⟨h1, h2⟩ := h
        subst h1
        cases ρ with
        | nil => exact absurd rfl h2
        | cons c ρ => rfl
def toldP (t : List Nat) : D := match readM t with
  | (e, none) => .lst [.str "text", .int (e : Nat)]
  | (_, some l) => .lst [.str "read", .tup (l.map encW)]
theorem told_ok (n : Nat) {t : List Nat} (ht : t.length ≤ 900) (hs : t.countP isD ≤ 600) : run (n + 8) 39 [.val (.str (S t))] = .ok (toldP t) [.val (.str (S t))] := by
  have e := readM_ok n ht hs
  unfold toldP
  show mBody 1 (m_l_told (run (n + 7)) (runF (n + 7))) _ = _
  unfold m_l_told
  revert e
  generalize readM t = r
  obtain ⟨pe, o⟩ := r
  cases o with
  | none =>
    intro e
    simp only at e
    have np : noPin [.val (.str (S t)), .no] = true := rfl
    unfold mBody mTryC
    simp only [List.cons_append, List.nil_append, List.replicate_succ, List.replicate_zero]
    have b1 : mRet (mFrz (fLst (mCons (mC (.str "read")) (mCons (mCall 1 (run (n + 7) 18) (aV (mVar 0) aNil)) mNil)))) [.val (.str (S t)), .no] = .err ⟨0, [.int (pe : Nat)]⟩ [.val (.str (S t)), .no] := by
      iterate 8 (first | (walk_at "rd"; done) | (try walk_at "rd"; try simp only [e]))
    rw [b1]
    rfl
  | some l =>
    intro e
    simp only at e
    have b1 : mRet (mFrz (fLst (mCons (mC (.str "read")) (mCons (mCall 1 (run (n + 7) 18) (aV (mVar 0) aNil)) mNil)))) [.val (.str (S t)), .no] = .ok (.rt (.lst [.str "read", .tup (l.map encW)])) [.val (.str (S t)), .no] := by
      iterate 8 (first | (walk_at "rd"; done) | (try walk_at "rd"; try simp only [e]))
    unfold mBody mTryC
    simp only [List.cons_append, List.nil_append, List.replicate_succ, List.replicate_zero]
    rw [b1]
    rfl
end Mea
set_option Elab.async false
set_option linter.all false
set_option maxRecDepth 100000
set_option maxHeartbeats 4000000
namespace Mea
open PySem L2 Wk Mi
local macro_rules | `(tactic| walk_at "rd") => `(tactic| simp only [mBody, mBodyF, fin, finF, finC, mSeq, seqK, mAsg, mAsgO, mRet, mRetN, mDrop, mNext, mIf, mTest, mTru, mAnd, mOr, mNot, mB, mAndV, mOrV, mNotV, mChain, mNil, mCons, mTup, mOp2, mUn, mSl, mPart, mNoPart, mC, mVar, oE, oN, oNil, oCons, mCB, rsv, rsvs, content, lift, setv, gmNil, gmCons, gmTup, mFrz, OD.d, mIter, walkD, mRange1, mRange2, mYes, aNil, aV, aS, aT, mCall, fCall, Mi.cellOf, cellsOf, apart, aparts, back, samePars, mPar, mAug, mRaise, mRaise0, mGet2, mSetIx, mPut, mAppend, mFor, Cell.isPar, Cell.olst, Cell.odk, Cell.put, fLst, fDk, fDict, fMove, bind_ok, bind_no, bind_err, List.cons_append, List.nil_append, List.replicate_succ, List.replicate_zero, List.getElem?_cons_zero, List.getElem?_cons_succ, List.getElem?_nil, List.set_cons_zero, List.set_cons_succ, List.length_cons, List.length_nil, List.take_succ_cons, List.take_zero, List.take_nil, Option.bind_some, Option.bind_none, Option.map_some, Option.map_none, List.all_nil, List.all_cons, Bool.and_true, Bool.true_and, Bool.and_false, Bool.false_and, Bool.not_true, Bool.not_false, decide_true, decide_false, reduceIte, Bool.false_eq_true, Bool.true_eq_false, if_true, if_false, beq_self_eq_true, Nat.reduceAdd, Nat.reduceEqDiff, Nat.reduceLeDiff, dAdd, dSub, dMulH, dMul, dDiv, dMod, dPow, dGt, dLt, dLe, dGe, dIx, ixL, dNeg, dAbs, dMax, dMin, dLen, deq_ii, deq_ss, deq_bb, dne_ii, dne_ss, dne_bb, atI_0, atI_1, atI_2, ixN_3_0, ixN_3_2, ne_eq, Int.reduceEq, Int.reduceNe, not_false_eq_true, not_true_eq_false, Int.reduceLT, Int.reduceLE, and_true, true_and, and_false, false_and, Int.reduceToNat, lim, Mi.key, fSorted, mM1, dStarts])
/-! ### texts of measures -/
abbrev ML := List (List Nat × Int)
def wordL (p : List Nat × Int) : List Nat := if p.2 = 1 then p.1 else p.1 ++ [94] ++ (istr p.2).cps.toList
def joinL : List (List Nat) → List Nat
  | [] => []
  | [x] => x
  | x :: y :: r => x ++ 32 :: joinL (y :: r)
def showL (l : ML) : List Nat := joinL (l.map wordL)
theorem join_S : ∀ ws : List (List Nat), Txt.join " " (ws.map S) = S (joinL ws)
  | [] => by unfold Txt.join; rw [StrLaws.glued_eq_join]; rfl
  | [x] => by unfold Txt.join; rw [StrLaws.glued_eq_join]; rfl
  | x :: y :: r => by
    have ih := join_S (y :: r)
    unfold Txt.join at ih ⊢
    rw [StrLaws.glued_eq_join] at ih ⊢
    show S x ++ " " ++ Str.join " " ((y :: r).map S) = _
    rw [ih]
    have e : (" " : Str) = S [32] := rfl
    have e2 : joinL (x :: y :: r) = x ++ [32] ++ joinL (y :: r) := by
      rw [List.append_assoc]
      rfl
    rw [e, S_app, S_app, e2]
structure Fit (l : ML) : Prop where
  sum : ((l.map wordL).map List.length).sum + l.length ≤ 90000
  num : ∀ p ∈ l, p.2.natAbs.log2 < 1920
theorem Fit.tail {p : List Nat × Int} {l : ML} (h : Fit (p :: l)) : Fit l := by
  refine ⟨?_, fun q hq => h.num q (List.mem_cons_of_mem _ hq)⟩
  have := h.sum
  simp only [List.map_cons, List.sum_cons, List.length_cons] at this
  omega
theorem Fit.head {p : List Nat × Int} {l : ML} (h : Fit (p :: l)) : (wordL p).length ≤ 90000 := by
  have := h.sum
  simp only [List.map_cons, List.sum_cons, List.length_cons] at this
  omega
theorem strsOf_S : ∀ ws : List (List Nat), strsOf (ws.map fun w => D.str (S w)) = some (ws.map S)
  | [] => rfl
  | w :: ws => by
    rw [List.map_cons]
    unfold strsOf
    rw [strsOf_S ws]
    rfl
theorem wordL_1 {p : List Nat × Int} (h : p.2 = 1) : S (wordL p) = S p.1 := by unfold wordL; rw [if_pos h]
theorem wordL_n {p : List Nat × Int} (h : ¬ p.2 = 1) : S (wordL p) = S p.1 ++ "^" ++ istr p.2 := by
  unfold wordL
  rw [if_neg h]
  have e : ("^" : Str) = S [94] := rfl
  rw [e, S_app, ← S_list (istr p.2), S_app, S_cps]
theorem wordL_len {p : List Nat × Int} (h : ¬ p.2 = 1) (hl : (wordL p).length ≤ 90000) : (S p.1).length + ("^" : Str).length ≤ 90000 ∧ (S p.1 ++ "^").length + (istr p.2).length ≤ 90000 := by
  have e := congrArg Str.length (wordL_n h)
  rw [S_len] at e
  have l1 : (S p.1 ++ "^" ++ istr p.2).length = (S p.1 ++ "^").length + (istr p.2).length := Str.length_append _ _
  have l2 : (S p.1 ++ "^").length = (S p.1).length + ("^" : Str).length := Str.length_append _ _
  omega
theorem join_ok {l : ML} (h : Fit l) : dJoin " " (.lst (l.map fun p => .str (S (wordL p)))) = some (.str (S (showL l))) := by
  have e : (l.map fun p => D.str (S (wordL p))) = (l.map wordL).map fun w => D.str (S w) := by rw [List.map_map]; rfl
  unfold dJoin
  rw [e]
  show ((strsOf _).bind _) = _
  rw [strsOf_S]
  have hs := h.sum
  have e2 : (((l.map wordL).map S).map (·.length)).sum = ((l.map wordL).map List.length).sum := by
    rw [List.map_map]
    congr 1
  have e3 : (" " : Str).length = 1 := rfl
  rw [Option.bind_some, e2, e3, List.length_map, List.length_map, if_pos (by omega), join_S]
  rfl
theorem shown_loop {a : Cell} : ∀ (l : ML) (acc : List D) (x y : Cell), Fit l → acc.length + l.length ≤ 90000 → blank x y →
    ∃ x' y', forL (gmTup 2 (gmCons (setv 2) (gmCons (setv 3) gmNil))) (mDrop (mAppend 1 (mIf (mTest (mOp2 dEqH (oN 3) (oE (mC (.int 1))))) (mVar 2) (mOp2 dAdd (oE (mOp2 dAdd (oN 2) (oE (mC (.str "^"))))) (oE (mCB dStr (oCons (oN 3) oNil))))))) (l.map encW) [a, .own (.lst acc), x, y]
      = .ok .nx [a, .own (.lst (acc ++ l.map fun p => .str (S (wordL p)))), x', y']
  | [], acc, x, y, _, _, _ => ⟨x, y, by rw [List.map_nil, List.map_nil, List.append_nil]; rfl⟩
  | p :: l, acc, x, y, hf, hl, hb => by
    rw [List.length_cons] at hl
    obtain ⟨x', y', ih⟩ := shown_loop (a := a) l (acc ++ [.str (S (wordL p))]) (.val (.str (S p.1))) (.val (.int p.2)) hf.tail (by rw [List.length_append]; simp; omega) (.inr ⟨_, _, rfl, rfl⟩)
    refine ⟨x', y', ?_⟩
    rw [List.append_assoc] at ih
    rw [List.map_cons, List.map_cons]
    have e : ([D.str (S (wordL p))] ++ l.map fun p => D.str (S (wordL p))) = D.str (S (wordL p)) :: l.map fun p => D.str (S (wordL p)) := rfl
    rw [e] at ih
    rw [← ih]
    have al : (acc.length < 100000) = True := by simp only [eq_iff_iff, iff_true]; omega
    have nn : (p.2.natAbs.log2 < 1920) = True := by simp only [eq_iff_iff, iff_true]; exact hf.num p (by simp)
    refine forL_cons (ρ1 := [a, .own (.lst acc), .val (.str (S p.1)), .val (.int p.2)]) ?_ ?_
    · rcases hb with ⟨rfl, rfl⟩ | ⟨d, e, rfl, rfl⟩
      · rfl
      · rfl
    · by_cases h : p.2 = 1
      · have d1 : decide (p.2 = 1) = true := decide_eq_true h
        rw [wordL_1 h]
        iterate 8 (first | (walk_at "rd"; done) | (try walk_at "rd"; try simp only [d1, al]))
      · have d1 : decide (p.2 = 1) = false := decide_eq_false h
        obtain ⟨l1, l2⟩ := wordL_len h hf.head
        have g1 : ((S p.1).length + (Str.ofString "^").length ≤ 100000) = True := by simp only [eq_iff_iff, iff_true]; exact Nat.le_trans l1 (by decide)
        have g2 : ((S p.1 ++ Str.ofString "^").length + (istr p.2).length ≤ 100000) = True := by simp only [eq_iff_iff, iff_true]; exact Nat.le_trans l2 (by decide)
        rw [wordL_n h]
        iterate 8 (first | (walk_at "rd"; done) | (try walk_at "rd"; try simp only [d1, al, g1, g2, dStr, nn, if_true]))
theorem shown_ok (n : Nat) {l : ML} (h : Fit l) : run (n + 1) 29 [.val (.tup (l.map encW))] = .ok (.str (S (showL l))) [.val (.tup (l.map encW))] := by
  have hs := h.sum
  obtain ⟨x, y, lp⟩ := shown_loop (a := .val (.tup (l.map encW))) l [] .no .no h (by simp; omega) (.inl ⟨rfl, rfl⟩)
  have j := join_ok h
  rw [List.nil_append] at lp
  show mBody 3 (m_l_shown (run n) (runF n)) _ = _
  unfold m_l_shown
  iterate 8 (first | (walk_at "rd"; done) | (try walk_at "rd"; try simp only [lp, j]))
def gW : D → D
  | .tup [.str k, .int v] => .str (S (wordL (k.cps.toList, v)))
  | d => d
def fstW : D → D
  | .tup [a, _] => a
  | d => d
def sndW : D → D
  | .tup [_, a] => a
  | d => d
theorem le_sum {a : Nat} : ∀ {l : List Nat}, a ∈ l → a ≤ l.sum
  | b :: l, h => by
    rw [List.sum_cons]
    rcases List.mem_cons.mp h with rfl | h
    · omega
    · have := le_sum h
      omega
theorem text_ok (n : Nat) {l : ML} (h : Fit l) : run (n + 1) 12 [.val (.tup (l.map encW))] = .ok (.str (S (showL l))) [.val (.tup (l.map encW))] := by
  have hs := h.sum
  have j := join_ok h
  have key := fLc_pure (vs := [1, 2]) (mi := mIter (mVar 0)) (mg := gmTup 2 (gmCons (setv 1) (gmCons (setv 2) gmNil))) (mt := mYes) (me := mIf (mTest (mOp2 dEqH (oN 2) (oE (mC (.int 1))))) (mVar 1) (mJoined (jCons (mFmt (mVar 1)) (jCons (mC (.str "^")) (jCons (mFmt (mVar 2)) jNil)))))
    (ρ := [.val (.tup (l.map encW)), .no, .no]) (ρ1 := [.val (.tup (l.map encW)), .no, .no]) (ds := l.map encW) (p := fun _ => true) (g := gW)
    (fun d => [.val (.tup (l.map encW)), .val (fstW d), .val (sndW d)]) rfl rfl (by simp) (fun d _ => ⟨rfl, rfl, rfl⟩) rfl
    (fun d hd c => by
      obtain ⟨p, hp, rfl⟩ := List.mem_map.mp hd
      rfl) (fun _ _ _ => rfl) (fun d hd _ c => by
      obtain ⟨p, hp, rfl⟩ := List.mem_map.mp hd
      have e1 : fstW (encW p) = .str (S p.1) := rfl
      have e2 : sndW (encW p) = .int p.2 := rfl
      have e3 : gW (encW p) = .str (S (wordL p)) := rfl
      rw [e1, e2, e3]
      have hw : (wordL p).length ≤ 90000 := by
        have : (wordL p).length ≤ ((l.map wordL).map List.length).sum := le_sum (List.mem_map.mpr ⟨_, List.mem_map.mpr ⟨p, hp, rfl⟩, rfl⟩)
        omega
      have nn : (p.2.natAbs.log2 < 1920) = True := by simp only [eq_iff_iff, iff_true]; exact h.num p hp
      by_cases hq : p.2 = 1
      · have d1 : decide (p.2 = 1) = true := decide_eq_true hq
        rw [wordL_1 hq]
        iterate 8 (first | (walk_at "rd"; done) | (try walk_at "rd"; try simp only [d1]))
      · have d1 : decide (p.2 = 1) = false := decide_eq_false hq
        obtain ⟨l1, l2⟩ := wordL_len hq hw
        have em : Str.empty ++ S p.1 = S p.1 := by
          have e : Str.empty = S [] := rfl
          rw [e, S_app, List.nil_append]
        have q1 : ((S p.1).length ≤ 100000) = True := by simp only [eq_iff_iff, iff_true]; omega
        have q2 : ((S p.1 ++ Str.ofString "^").length ≤ 100000) = True := by rw [Str.length_append]; simp only [eq_iff_iff, iff_true]; exact Nat.le_trans l1 (by decide)
        have q3 : ((S p.1 ++ Str.ofString "^" ++ istr p.2).length ≤ 100000) = True := by rw [Str.length_append]; simp only [eq_iff_iff, iff_true]; exact Nat.le_trans l2 (by decide)
        rw [wordL_n hq]
        iterate 8 (first | (walk_at "rd"; done) | (try walk_at "rd"; try simp only [d1, mJoined, jCons, jNil, mFmt, fmtD, nn, em, q1, q2, q3, lim, if_true]))) (by rw [List.length_map]; show _ ≤ 100000; omega)
  have e1 : ((l.map encW).filter fun _ => true) = l.map encW := List.filter_eq_self.mpr fun _ _ => rfl
  have e2 : (l.map encW).map gW = l.map fun p => .str (S (wordL p)) := by
    rw [List.map_map]
    rfl
  rw [e1, e2] at key
  show mBody 2 (m_measure_text (run n) (runF n)) _ = _
  unfold m_measure_text
  iterate 8 (first | (walk_at "rd"; done) | (try walk_at "rd"; try simp only [key, j]))
end Mea
set_option Elab.async false
set_option linter.all false
set_option maxRecDepth 100000
set_option maxHeartbeats 4000000
namespace Mea
open PySem L2 Wk Mi
local macro_rules | `(tactic| walk_at "rd") => `(tactic| simp only [mBody, mBodyF, fin, finF, finC, mSeq, seqK, mAsg, mAsgO, mRet, mRetN, mDrop, mNext, mIf, mTest, mTru, mAnd, mOr, mNot, mB, mAndV, mOrV, mNotV, mChain, mNil, mCons, mTup, mOp2, mUn, mSl, mPart, mNoPart, mC, mVar, oE, oN, oNil, oCons, mCB, rsv, rsvs, content, lift, setv, gmNil, gmCons, gmTup, mFrz, OD.d, mIter, walkD, mRange1, mRange2, mYes, aNil, aV, aS, aT, mCall, fCall, Mi.cellOf, cellsOf, apart, aparts, back, samePars, mPar, mAug, mRaise, mRaise0, mGet2, mSetIx, mPut, mAppend, mFor, Cell.isPar, Cell.olst, Cell.odk, Cell.put, fLst, fDk, fDict, fMove, bind_ok, bind_no, bind_err, List.cons_append, List.nil_append, List.replicate_succ, List.replicate_zero, List.getElem?_cons_zero, List.getElem?_cons_succ, List.getElem?_nil, List.set_cons_zero, List.set_cons_succ, List.length_cons, List.length_nil, List.take_succ_cons, List.take_zero, List.take_nil, Option.bind_some, Option.bind_none, Option.map_some, Option.map_none, List.all_nil, List.all_cons, Bool.and_true, Bool.true_and, Bool.and_false, Bool.false_and, Bool.not_true, Bool.not_false, decide_true, decide_false, reduceIte, Bool.false_eq_true, Bool.true_eq_false, if_true, if_false, beq_self_eq_true, Nat.reduceAdd, Nat.reduceEqDiff, Nat.reduceLeDiff, dAdd, dSub, dMulH, dMul, dDiv, dMod, dPow, dGt, dLt, dLe, dGe, dIx, ixL, dNeg, dAbs, dMax, dMin, dLen, deq_ii, deq_ss, deq_bb, dne_ii, dne_ss, dne_bb, atI_0, atI_1, atI_2, ixN_3_0, ixN_3_2, ne_eq, Int.reduceEq, Int.reduceNe, not_false_eq_true, not_true_eq_false, Int.reduceLT, Int.reduceLE, and_true, true_and, and_false, false_and, Int.reduceToNat, lim, Mi.key, fSorted, mM1, dStarts])
open PySem.NumText PySem.W.KIN PyProof.Rows
/-! ### what is read is shown so -/
theorem mid_app {t : List Nat} {b e f : Nat} (h1 : b ≤ e) (h2 : e ≤ f) (h3 : e ≤ t.length) : mid t b f = mid t b e ++ mid t e f := by
  unfold mid
  have e1 : t.take f = t.take e ++ (t.take f).drop e := by
    conv => lhs; rw [← List.take_append_drop e (t.take f)]
    rw [List.take_take, Nat.min_eq_left h2]
  conv => lhs; rw [e1]
  rw [List.drop_append_of_le_length (by rw [List.length_take]; omega)]
theorem dv_lt : ∀ (cs : List Nat) (a : Nat), AllDigits cs → cs.foldl (fun acc c => acc * 10 + (c - 48)) a < (a + 1) * 10 ^ cs.length
  | [], a, _ => by simp
  | c :: cs, a, h => by
    have hc := h c (by simp)
    have ih := dv_lt cs (a * 10 + (c - 48)) h.tail
    rw [List.foldl_cons, List.length_cons, Nat.pow_succ]
    refine Nat.lt_of_lt_of_le ih ?_
    rw [← Nat.mul_assoc, Nat.mul_comm ((a + 1) * 10 ^ cs.length) 10, ← Nat.mul_assoc]
    exact Nat.mul_le_mul_right _ (by omega)
theorem readP_some {t : List Nat} {e e2 : Nat} {v : Int} (hs : t.countP isD ≤ 500) (h : readP t e = (e2, some v)) :
    (t[e]? ≠ some 94 ∧ e2 = e ∧ v = 1) ∨ (t[e]? = some 94 ∧ e + 1 ≤ e2 ∧ mid t (e + 1) e2 = (istr v).cps.toList ∧ v ≠ 1 ∧ v.natAbs < 10 ^ 500) := by
  unfold readP at h
  by_cases z : t[e]? = some 94
  · rw [if_pos z] at h
    refine .inr ⟨z, ?_⟩
    cases q : t[e0Of t e]? with
    | none => rw [q] at h; cases h
    | some c =>
      rw [q] at h
      simp only at h
      cases hc : isD1 c with
      | false => rw [hc] at h; cases h
      | true =>
        rw [hc, if_pos rfl] at h
        obtain ⟨w1, w2, w3, w4⟩ := wOf_int q hc (by omega)
        by_cases y : wOf t e = [49]
        · rw [if_pos y] at h; cases h
        · rw [if_neg y] at h
          injection h with h1 h2
          injection h2 with h2
          subst h1
          subst h2
          refine ⟨by unfold e0Of; split <;> omega, ?_, fun x => y (w3.mp x), ?_⟩
          · rw [w4, S_cps]
            rfl
          · obtain ⟨hd, hn⟩ := dgs_dec q hc
            have hl := (dgs_len t (e0Of t e)).1
            have lt : ∀ cs : List Nat, AllDigits cs → digitsVal cs < 10 ^ cs.length := fun cs hcs => by
              have := dv_lt cs 0 hcs
              rw [Nat.zero_add, Nat.one_mul] at this
              exact this
            have hv : (decV (wOf t e)).natAbs = digitsVal (dgs t (e0Of t e)) := by
              rw [wOf_eq]
              by_cases x : t[e + 1]? = some 45
              · rw [if_pos x]
                have : decV ([45] ++ dgs t (e0Of t e)) = -((digitsVal (dgs t (e0Of t e)) : Nat) : Int) := rfl
                rw [this]
                omega
              · rw [if_neg x, List.nil_append, decV_dec hd hn]
                omega
            rw [hv]
            exact Nat.lt_of_lt_of_le (lt _ hd.dig) (Nat.pow_le_pow_right (by decide) (by omega))
  · rw [if_neg z] at h
    injection h with h1 h2
    injection h2 with h2
    exact .inl ⟨z, h1.symm, h2.symm⟩
theorem word_mid {t : List Nat} {b e e2 : Nat} {v : Int} (hs : t.countP isD ≤ 500) (hb : b ≤ e) (he : e ≤ t.length) (h : readP t e = (e2, some v)) : wordL (mid t b e, v) = mid t b e2 := by
  rcases readP_some hs h with ⟨_, rfl, rfl⟩ | ⟨h1, h2, h3, h4, _⟩
  · unfold wordL
    rw [if_pos rfl]
  · unfold wordL
    rw [if_neg h4]
    rw [mid_app hb (by omega : e ≤ e2) he, List.append_assoc]
    congr 1
    have hl := (List.getElem?_eq_some_iff.mp h1).1
    have := (readP_le (t := t) (b := e) he).1
    rw [h] at this
    have e3 : (t.take e2)[e]? = some 94 := by rw [List.getElem?_take_of_lt (by omega)]; exact h1
    show [94] ++ _ = (t.take e2).drop e
    rw [drop_at e3, ← h3]
    rfl
def sumL (l : ML) : Nat := ((l.map wordL).map List.length).sum + l.length
theorem join_len : ∀ l : ML, l ≠ [] → (joinL (l.map wordL)).length + 1 = sumL l
  | [], h => absurd rfl h
  | [p], _ => by simp [sumL, joinL]
  | p :: q :: l, _ => by
    have ih := join_len (q :: l) (by simp)
    have e : joinL ((p :: q :: l).map wordL) = wordL p ++ 32 :: joinL ((q :: l).map wordL) := rfl
    rw [e, List.length_append, List.length_cons]
    unfold sumL at ih ⊢
    simp only [List.map_cons, List.sum_cons, List.length_cons] at ih ⊢
    omega
theorem back_A {t : List Nat} (hs : t.countP isD ≤ 500) : ∀ (k : Nat) (L : List Nat) (b : Nat) (acc l : ML) (e : Nat), b ≤ t.length → readA t k L b acc = (e, some l) →
    ∃ l', l = acc ++ l' ∧ l' ≠ [] ∧ joinL (l'.map wordL) = t.drop b ∧ ∀ p ∈ l', p.2.natAbs < 10 ^ 500
  | 0, L, b, acc, l, e, _, h => by cases h
  | k + 1, L, b, acc, l, e, hb, h => by
    unfold readA at h
    have hle := stretch_le t L b t.length b
    have htp := stretch_top t L b t.length b hb
    have r1 : (readF t L b).1 = stretch t L b t.length b := rfl
    rw [← r1] at hle htp
    have step : ∀ (e2 : Nat) (w : List Nat) (v : Int), (readF t L b).2 = true → w = mid t b (readF t L b).1 → readP t (readF t L b).1 = (e2, some v) → wordL (w, v) = mid t b e2 ∧ v.natAbs < 10 ^ 500 := by
      intro e2 w v _ hw hp
      refine ⟨by rw [hw]; exact word_mid hs hle htp hp, ?_⟩
      rcases readP_some hs hp with ⟨_, _, h3⟩ | ⟨_, _, _, _, h3⟩
      · rw [h3]
        exact Nat.one_lt_pow (by decide) (by decide)
      · exact h3
    cases q : turnP t L b with
    | bad x => rw [q] at h; cases h
    | fin x w v =>
      rw [q] at h
      simp only at h
      injection h with h1 h2
      injection h2 with h2
      unfold turnP at q
      split at q
      · rename_i ok
        revert q
        cases hp : readP t (readF t L b).1 with
        | mk e2 o =>
          cases o with
          | none => intro q; cases q
          | some u =>
            intro q
            unfold behind at q
            simp only at q
            split at q
            · rename_i z
              injection q with q1 q2 q3
              subst q2
              subst q3
              obtain ⟨s1, s2⟩ := step e2 _ u ok rfl hp
              refine ⟨[(mid t b (readF t L b).1, u)], h2.symm, by simp, ?_, fun p hp' => ?_⟩
              · show wordL _ = _
                rw [s1, z]
                unfold mid
                rw [List.take_of_length_le (Nat.le_refl _)]
              · rw [List.mem_singleton.mp hp']
                exact s2
            · split at q <;> cases q
      · cases q
    | go b' w v =>
      rw [q] at h
      simp only at h
      obtain ⟨g1, g2, g3⟩ := turn_go q hb
      obtain ⟨l', h1, h2, h3, h4⟩ := back_A hs k w b' (acc ++ [(w, v)]) l e g2 h
      unfold turnP at q
      split at q
      · rename_i ok
        revert q
        cases hp : readP t (readF t L b).1 with
        | mk e2 o =>
          cases o with
          | none => intro q; cases q
          | some u =>
            intro q
            unfold behind at q
            simp only at q
            split at q
            · cases q
            · split at q
              · rename_i z1 z
                injection q with q1 q2 q3
                subst q2
                subst q3
                subst q1
                obtain ⟨s1, s2⟩ := step e2 _ u ok rfl hp
                refine ⟨(mid t b (readF t L b).1, u) :: l', by rw [h1, List.append_assoc]; rfl, by simp, ?_, fun p hp' => ?_⟩
                · have hr := (readP_le (t := t) (b := (readF t L b).1) htp)
                  rw [hp] at hr
                  simp only at hr
                  have e1 : joinL (((mid t b (readF t L b).1, u) :: l').map wordL) = wordL (mid t b (readF t L b).1, u) ++ 32 :: joinL (l'.map wordL) := by
                    cases l' with
                    | nil => exact absurd rfl h2
                    | cons p l' => rfl
                  rw [e1, h3, s1]
                  have hd := drop_at z.1
                  rw [← hd]
                  unfold mid
                  have e3 : t.drop b = (t.take e2).drop b ++ t.drop e2 := by
                    conv => lhs; rw [← List.take_append_drop e2 t]
                    rw [List.drop_append_of_le_length (by rw [List.length_take]; omega)]
                  exact e3.symm
                · rcases List.mem_cons.mp hp' with rfl | hp'
                  · exact s2
                  · exact h4 p hp'
              · cases q
      · cases q
theorem ten600 : (10 : Nat) ^ 600 < 2 ^ 2000 := by decide +kernel
end Mea
set_option Elab.async false
set_option linter.all false
set_option maxRecDepth 100000
set_option maxHeartbeats 4000000
namespace Mea
open PySem L2 Wk Mi
local macro_rules | `(tactic| walk_at "rd") => `(tactic| simp only [mBody, mBodyF, fin, finF, finC, mSeq, seqK, mAsg, mAsgO, mRet, mRetN, mDrop, mNext, mIf, mTest, mTru, mAnd, mOr, mNot, mB, mAndV, mOrV, mNotV, mChain, mNil, mCons, mTup, mOp2, mUn, mSl, mPart, mNoPart, mC, mVar, oE, oN, oNil, oCons, mCB, rsv, rsvs, content, lift, setv, gmNil, gmCons, gmTup, mFrz, OD.d, mIter, walkD, mRange1, mRange2, mYes, aNil, aV, aS, aT, mCall, fCall, Mi.cellOf, cellsOf, apart, aparts, back, samePars, mPar, mAug, mRaise, mRaise0, mGet2, mSetIx, mPut, mAppend, mFor, Cell.isPar, Cell.olst, Cell.odk, Cell.put, fLst, fDk, fDict, fMove, bind_ok, bind_no, bind_err, List.cons_append, List.nil_append, List.replicate_succ, List.replicate_zero, List.getElem?_cons_zero, List.getElem?_cons_succ, List.getElem?_nil, List.set_cons_zero, List.set_cons_succ, List.length_cons, List.length_nil, List.take_succ_cons, List.take_zero, List.take_nil, Option.bind_some, Option.bind_none, Option.map_some, Option.map_none, List.all_nil, List.all_cons, Bool.and_true, Bool.true_and, Bool.and_false, Bool.false_and, Bool.not_true, Bool.not_false, decide_true, decide_false, reduceIte, Bool.false_eq_true, Bool.true_eq_false, if_true, if_false, beq_self_eq_true, Nat.reduceAdd, Nat.reduceEqDiff, Nat.reduceLeDiff, dAdd, dSub, dMulH, dMul, dDiv, dMod, dPow, dGt, dLt, dLe, dGe, dIx, ixL, dNeg, dAbs, dMax, dMin, dLen, deq_ii, deq_ss, deq_bb, dne_ii, dne_ss, dne_bb, atI_0, atI_1, atI_2, ixN_3_0, ixN_3_2, ne_eq, Int.reduceEq, Int.reduceNe, not_false_eq_true, not_true_eq_false, Int.reduceLT, Int.reduceLE, and_true, true_and, and_false, false_and, Int.reduceToNat, lim, Mi.key, fSorted, mM1, dStarts])
open PySem.NumText PySem.W.KIN PyProof.Rows
/-! ### what is shown is read so -/
theorem begun_snoc {q : List Nat} {c : Nat} (h : begunT (q ++ [c]) = true) : begunT q = true := by
  obtain ⟨qt, a, d, r⟩ := rep_begun h
  have e := r.eq
  rcases List.eq_nil_or_concat d with rfl | ⟨d', x, rfl⟩
  · rcases List.eq_nil_or_concat a with rfl | ⟨a', x, rfl⟩
    · rcases r.hq with rfl | rfl
      · simp at e
      · have : q = [] := by
          cases q with
          | nil => rfl
          | cons y q => simp at e
        rw [this]
        exact begun_nil
    · simp only [List.concat_eq_append, List.append_nil] at *
      rw [← List.append_assoc] at e
      obtain ⟨e1, e2⟩ := List.append_inj' e rfl
      have hl := r.la
      rw [List.length_append] at hl
      exact begun_rep (q := q) (qt := qt) (a := a') (d := []) ⟨by rw [e1]; simp, r.hq, fun y hy => r.ha y (List.mem_append_left _ hy), by simp, by simp at hl ⊢; omega, by simp, fun _ => rfl, by simp⟩
  · simp only [List.concat_eq_append] at *
    rw [← List.append_assoc, ← List.append_assoc] at e
    obtain ⟨e1, e2⟩ := List.append_inj' e rfl
    have hl := r.ld
    rw [List.length_append] at hl
    have ha : a ≠ [] := fun z => by have := r.ad z; simp at this
    have h0 := r.h0
    exact begun_rep (q := q) (qt := qt) (a := a) (d := d') ⟨by rw [e1]; simp, r.hq, r.ha, fun y hy => r.hd y (List.mem_append_left _ hy), r.la, by simp at hl; omega, fun z => absurd z ha, by
      cases d' with
      | nil => simp
      | cons y d' => exact h0⟩
theorem begun_pre : ∀ (r p : List Nat), begunT (p ++ r) = true → begunT p = true
  | [], p, h => by rwa [List.append_nil] at h
  | c :: r, p, h => by
    have e : p ++ c :: r = (p ++ [c]) ++ r := by rw [List.append_assoc]; rfl
    rw [e] at h
    exact begun_snoc (begun_pre r (p ++ [c]) h)
theorem last_ge {L : List Nat} : ∀ (r p : List Nat), begunT (p ++ r) = true → L < p ++ r → L < lastT p
  | [], p, hb, h => by
    rw [List.append_nil] at h hb
    obtain ⟨r, e⟩ := last_pre hb
    rw [e]
    exact lt_app _ _ _ h
  | c :: r, p, hb, h => by
    have e : p ++ c :: r = (p ++ [c]) ++ r := by rw [List.append_assoc]; rfl
    rw [e] at h hb
    have h1 := last_ge r (p ++ [c]) hb h
    have hbc := begun_pre r (p ++ [c]) hb
    have hbp := begun_snoc hbc
    have hc : c ∈ nextP p := by
      have := claimA hbp c
      rw [hbc] at this
      exact of_decide_eq_true this.symm
    obtain ⟨t, ht, hm, hl⟩ := next_max hbp (fun z => by rw [z] at hc; cases hc)
    rw [← hl]
    by_cases z : c = t
    · subst z
      exact h1
    · obtain ⟨r1, e1⟩ := last_pre hbc
      have hbt : begunT (p ++ [t]) = true := by rw [claimA hbp t]; exact decide_eq_true ht
      obtain ⟨r2, e2⟩ := last_pre hbt
      rw [e1, List.append_assoc] at h1
      rw [e2, List.append_assoc]
      exact lt_up (by have := hm c hc; omega) p L h1
theorem isF_begun {w : List Nat} (h : isF w = true) : begunT w = true := by
  rw [isF_unq] at h
  unfold begunT
  unfold isW at h
  rw [Bool.and_eq_true] at h
  rw [h.2, Bool.or_true]
theorem next_sub {q : List Nat} {c : Nat} (h : c ∈ nextP q) : c = 39 ∨ 48 ≤ c := by
  unfold nextP at h
  split at h
  · rcases List.mem_append.mp h with h | h
    · have := (mem_L c).mp h
      omega
    · split at h
      · exact .inl (List.mem_singleton.mp h)
      · cases h
  · split at h
    · rcases List.mem_append.mp h with h | h
      · split at h
        · have := (mem_L c).mp h
          omega
        · cases h
      · have := (mem_D1 c).mp h
        omega
    · split at h
      · have := (mem_D c).mp h
        omega
      · cases h
theorem next_not94 {q : List Nat} (h : 94 ∈ nextP q) : False := by
  unfold nextP at h
  split at h
  · rcases List.mem_append.mp h with h | h
    · have := (mem_L 94).mp h
      omega
    · split at h
      · have := List.mem_singleton.mp h
        omega
      · cases h
  · split at h
    · rcases List.mem_append.mp h with h | h
      · split at h
        · have := (mem_L 94).mp h
          omega
        · cases h
      · have := (mem_D1 94).mp h
        omega
    · split at h
      · have := (mem_D 94).mp h
        omega
      · cases h
/-- what may stand behind a factor -/
def edge (r : List Nat) : Prop := r = [] ∨ r.head? = some 94 ∨ r.head? = some 32
theorem stretch_eq {t L w r : List Nat} {b : Nat} (ht : t.drop b = w ++ r) (hb : b ≤ t.length) (hw : isF w = true) (hL : L < w) (hr : edge r) : ∀ (k e : Nat), b ≤ e → e ≤ b + w.length → b + w.length ≤ e + k → stretch t L b k e = b + w.length
  | 0, e, h1, h2, h3 => by unfold stretch; omega
  | k + 1, e, h1, h2, h3 => by
    have hlen : t.length = b + w.length + r.length := by
      have := congrArg List.length ht
      rw [List.length_drop, List.length_append] at this
      omega
    have hbw := isF_begun hw
    unfold stretch
    by_cases h : e = b + w.length
    · rw [if_neg ?_, h]
      rintro ⟨z1, z2⟩
      have hm : (t.take (e + 1)).drop b = w ++ [t[e]] := by
        rw [snoc_at h1 z1, List.drop_take, ht]
        have e0 : e - b = w.length := by omega
        rw [e0, List.take_left]
      rw [hm] at z2
      unfold mayF at z2
      rw [Bool.and_eq_true, claimA hbw] at z2
      have hin := of_decide_eq_true z2.1
      have hc : r.head? = some t[e] := by
        have e1 := List.getElem?_drop (xs := t) (i := b) (j := w.length)
        rw [ht, List.getElem?_append_right (Nat.le_refl _), Nat.sub_self, ← h, List.getElem?_eq_getElem z1] at e1
        rw [List.head?_eq_getElem?]
        exact e1
      rcases hr with z | z | z
      · rw [z] at hc; cases hc
      · rw [z] at hc
        injection hc with hc
        rw [← hc] at hin
        exact next_not94 hin
      · rw [z] at hc
        injection hc with hc
        rw [← hc] at hin
        rcases next_sub hin with y | y <;> omega
    · have hm : (t.take (e + 1)).drop b = w.take (e + 1 - b) := by
        rw [List.drop_take, ht, List.take_append_of_le_length (by omega)]
      have hs := List.take_append_drop (e + 1 - b) w
      have hmf : mayF ((t.take (e + 1)).drop b) L = true := by
        rw [hm]
        unfold mayF
        rw [Bool.and_eq_true]
        have hL' := hL
        rw [← hs] at hbw hL'
        refine ⟨begun_pre _ _ hbw, ?_⟩
        exact decide_eq_true (last_ge _ _ hbw hL')
      rw [if_pos ⟨by omega, hmf⟩]
      exact stretch_eq ht hb hw hL hr k (e + 1) (by omega) (by omega) (by omega)
theorem readF_eq {t L w r : List Nat} {b : Nat} (ht : t.drop b = w ++ r) (hb : b ≤ t.length) (hw : isF w = true) (hL : L < w) (hr : edge r) : readF t L b = (b + w.length, true) := by
  have hlen : t.length = b + w.length + r.length := by
    have := congrArg List.length ht
    rw [List.length_drop, List.length_append] at this
    omega
  have e := stretch_eq ht hb hw hL hr t.length b (Nat.le_refl _) (by omega) (by omega)
  unfold readF
  simp only [e]
  have hm : (t.take (b + w.length)).drop b = w := by rw [List.drop_take, ht, Nat.add_sub_cancel_left, List.take_left]
  rw [hm, hw]
  have : sless (S L) (S w) = true := decide_eq_true hL
  rw [this]
  rfl
end Mea
set_option Elab.async false
set_option linter.all false
set_option maxRecDepth 100000
set_option maxHeartbeats 4000000
namespace Mea
open PySem L2 Wk Mi
local macro_rules | `(tactic| walk_at "rd") => `(tactic| simp only [mBody, mBodyF, fin, finF, finC, mSeq, seqK, mAsg, mAsgO, mRet, mRetN, mDrop, mNext, mIf, mTest, mTru, mAnd, mOr, mNot, mB, mAndV, mOrV, mNotV, mChain, mNil, mCons, mTup, mOp2, mUn, mSl, mPart, mNoPart, mC, mVar, oE, oN, oNil, oCons, mCB, rsv, rsvs, content, lift, setv, gmNil, gmCons, gmTup, mFrz, OD.d, mIter, walkD, mRange1, mRange2, mYes, aNil, aV, aS, aT, mCall, fCall, Mi.cellOf, cellsOf, apart, aparts, back, samePars, mPar, mAug, mRaise, mRaise0, mGet2, mSetIx, mPut, mAppend, mFor, Cell.isPar, Cell.olst, Cell.odk, Cell.put, fLst, fDk, fDict, fMove, bind_ok, bind_no, bind_err, List.cons_append, List.nil_append, List.replicate_succ, List.replicate_zero, List.getElem?_cons_zero, List.getElem?_cons_succ, List.getElem?_nil, List.set_cons_zero, List.set_cons_succ, List.length_cons, List.length_nil, List.take_succ_cons, List.take_zero, List.take_nil, Option.bind_some, Option.bind_none, Option.map_some, Option.map_none, List.all_nil, List.all_cons, Bool.and_true, Bool.true_and, Bool.and_false, Bool.false_and, Bool.not_true, Bool.not_false, decide_true, decide_false, reduceIte, Bool.false_eq_true, Bool.true_eq_false, if_true, if_false, beq_self_eq_true, Nat.reduceAdd, Nat.reduceEqDiff, Nat.reduceLeDiff, dAdd, dSub, dMulH, dMul, dDiv, dMod, dPow, dGt, dLt, dLe, dGe, dIx, ixL, dNeg, dAbs, dMax, dMin, dLen, deq_ii, deq_ss, deq_bb, dne_ii, dne_ss, dne_bb, atI_0, atI_1, atI_2, ixN_3_0, ixN_3_2, ne_eq, Int.reduceEq, Int.reduceNe, not_false_eq_true, not_true_eq_false, Int.reduceLT, Int.reduceLE, and_true, true_and, and_false, false_and, Int.reduceToNat, lim, Mi.key, fSorted, mM1, dStarts])
open PySem.NumText PySem.W.KIN PyProof.Rows
def digs (m : Nat) : List Nat := (Nat.toDigits 10 m).map Char.toNat
theorem digs_ne (m : Nat) : digs m ≠ [] := fun z => by
  have h := toDigits_len_ge 10 m
  have := congrArg List.length z
  unfold digs at this
  rw [List.length_map] at this
  simp only [List.length_nil] at this
  omega
theorem istr_pos (m : Nat) : (istr (m : Nat)).cps.toList = digs m := by rw [istr_nat, S_cps]; rfl
theorem istr_negm {m : Nat} (h : 1 ≤ m) : (istr (-(m : Nat))).cps.toList = 45 :: digs m := by
  have e := istr_neg (digs_dec h) (digs_ne m)
  rw [val_back] at e
  rw [e, S_cps]
  rfl
theorem tw_dig {a r : List Nat} (ha : AllDigits a) (hr : r = [] ∨ r.head? = some 32) : (a ++ r).takeWhile isD = a := by
  rw [List.takeWhile_append_of_pos fun c hc => (isD_iff c).mpr (ha c hc)]
  rcases hr with rfl | hr
  · simp
  · cases r with
    | nil => simp
    | cons c r =>
      have : c = 32 := by simpa using hr
      subst this
      have e : isD 32 = false := by decide +kernel
      rw [List.takeWhile_cons, e]
      simp
theorem get_drop {t r : List Nat} {e : Nat} (h : t.drop e = r) : t[e]? = r.head? := by
  rw [← h, List.head?_drop]
theorem drop_more {t a r : List Nat} {e : Nat} (h : t.drop e = a ++ r) : t.drop (e + a.length) = r := by
  rw [← List.drop_drop, h, List.drop_left]
theorem readP_1 {t r : List Nat} {e : Nat} (h : t.drop e = r) (hr : r = [] ∨ r.head? = some 32) : readP t e = (e, some 1) := by
  unfold readP
  rw [if_neg]
  rw [get_drop h]
  rcases hr with z | z
  · rw [z]; simp
  · rw [z]; decide
theorem readP_n {t r : List Nat} {e : Nat} {v : Int} (h1 : v ≠ 1) (h0 : v ≠ 0) (h : t.drop e = 94 :: ((istr v).cps.toList ++ r)) (hr : r = [] ∨ r.head? = some 32) : readP t e = (e + 1 + (istr v).cps.toList.length, some v) := by
  have g0 : t[e]? = some 94 := by rw [get_drop h]; rfl
  have h' : t.drop (e + 1) = (istr v).cps.toList ++ r := by
    have := drop_at g0
    rw [h] at this
    injection this with _ this
    exact this.symm
  unfold readP
  rw [if_pos g0]
  by_cases hv : 0 ≤ v
  · obtain ⟨m, rfl⟩ := Int.eq_ofNat_of_zero_le hv
    have hm : 1 ≤ m := by omega
    have hd : Dec (digs m) := digs_dec hm
    have hn := digs_ne m
    have hp := istr_pos m
    have hp' : (istr (Int.ofNat m)).cps.toList = digs m := hp
    rw [hp] at h' ⊢
    obtain ⟨c, cs, ec⟩ : ∃ c cs, digs m = c :: cs := by
      cases z : digs m with
      | nil => exact absurd z hn
      | cons c cs => exact ⟨c, cs, rfl⟩
    have hc1 : 49 ≤ c := hd.hd c (by show (digs m).head? = _; rw [ec]; rfl)
    have hc2 := hd.dig c (by show c ∈ digs m; rw [ec]; simp)
    have g1 : t[e + 1]? = some c := by rw [get_drop h', ec]; rfl
    have e0 : e0Of t e = e + 1 := by
      unfold e0Of
      rw [if_neg (by rw [g1]; intro z; injection z with z; omega)]
    have dg : dgs t (e + 1) = digs m := by
      unfold dgs
      rw [h', tw_dig hd.dig hr]
    have w : wOf t e = digs m := by
      rw [wOf_eq, e0, dg, if_neg (by rw [g1]; intro z; injection z with z; omega)]
      rfl
    have dv : decV (digs m) = (m : Int) := by
      rw [decV_dec hd hn]
      show ((digitsVal (digs m) : Nat) : Int) = _
      have : digitsVal (digs m) = m := val_back m
      rw [this]
    rw [e0, g1, dg, w, dv]
    simp only
    rw [if_pos ((isD1_iff c).mpr ⟨hc1, hc2.2⟩), if_neg]
    intro z
    rw [z] at dv
    have : decV [49] = 1 := rfl
    omega
  · obtain ⟨m, hm, rfl⟩ : ∃ m : Nat, 1 ≤ m ∧ v = -(m : Int) := ⟨v.natAbs, by omega, by omega⟩
    have hd : Dec (digs m) := digs_dec hm
    have hn := digs_ne m
    have hp := istr_negm hm
    rw [hp] at h' ⊢
    have g1 : t[e + 1]? = some 45 := by rw [get_drop h']; rfl
    have h2 : t.drop (e + 2) = digs m ++ r := by
      have := drop_at g1
      rw [h'] at this
      injection this with _ this
      exact this.symm
    obtain ⟨c, cs, ec⟩ : ∃ c cs, digs m = c :: cs := by
      cases z : digs m with
      | nil => exact absurd z hn
      | cons c cs => exact ⟨c, cs, rfl⟩
    have hc1 : 49 ≤ c := hd.hd c (by show (digs m).head? = _; rw [ec]; rfl)
    have hc2 := hd.dig c (by show c ∈ digs m; rw [ec]; simp)
    have g2 : t[e + 2]? = some c := by rw [get_drop h2, ec]; rfl
    have e0 : e0Of t e = e + 2 := by
      unfold e0Of
      rw [if_pos g1]
    have dg : dgs t (e + 2) = digs m := by
      unfold dgs
      rw [h2, tw_dig hd.dig hr]
    have w : wOf t e = 45 :: digs m := by
      rw [wOf_eq, e0, dg, if_pos g1]
      rfl
    have dv : decV (45 :: digs m) = -(m : Int) := by
      show -((digitsVal (digs m) : Nat) : Int) = _
      have : digitsVal (digs m) = m := val_back m
      rw [this]
    rw [e0, g2, dg, w, dv]
    simp only
    rw [if_pos ((isD1_iff c).mpr ⟨hc1, hc2.2⟩), if_neg (by simp)]
    rw [List.length_cons]
    congr 1
    omega
def OkW : List Nat → ML → Prop
  | _, [] => True
  | L, p :: l => L < p.1 ∧ isF p.1 = true ∧ p.2 ≠ 0 ∧ OkW p.1 l
theorem rt_A {t : List Nat} : ∀ (l : ML) (L : List Nat) (b : Nat) (acc : ML) (k : Nat), l ≠ [] → OkW L l → t.drop b = joinL (l.map wordL) → b ≤ t.length → l.length ≤ k → readA t k L b acc = (t.length, some (acc ++ l))
  | [], _, _, _, _, h, _, _, _, _ => absurd rfl h
  | p :: l, L, b, acc, 0, _, _, _, _, hk => by simp at hk
  | p :: l, L, b, acc, k + 1, _, ho, ht, hb, hk => by
    obtain ⟨o1, o2, o3, o4⟩ := ho
    obtain ⟨r, hr, hj, hrl⟩ : ∃ r, (r = [] ∨ r.head? = some 32) ∧ joinL ((p :: l).map wordL) = wordL p ++ r ∧ (l = [] → r = []) ∧ (l ≠ [] → r = 32 :: joinL (l.map wordL)) := by
      cases l with
      | nil => exact ⟨[], .inl rfl, by rw [List.append_nil]; rfl, fun _ => rfl, fun z => absurd rfl z⟩
      | cons q l => exact ⟨32 :: joinL ((q :: l).map wordL), .inr rfl, rfl, (fun z => by cases z), fun _ => rfl⟩
    rw [hj] at ht
    have key : ∃ pw, wordL p = p.1 ++ pw ∧ edge (pw ++ r) ∧ ∀ e, t.drop e = pw ++ r → readP t e = (e + pw.length, some p.2) := by
      by_cases z : p.2 = 1
      · refine ⟨[], by unfold wordL; rw [if_pos z, List.append_nil], ?_, fun e he => ?_⟩
        · rcases hr with y | y
          · exact .inl y
          · exact .inr (.inr y)
        · rw [readP_1 he hr, z]
          rfl
      · refine ⟨94 :: (istr p.2).cps.toList, by unfold wordL; rw [if_neg z, List.append_assoc]; rfl, .inr (.inl rfl), fun e he => ?_⟩
        rw [readP_n z o3 he hr, List.length_cons]
        congr 1
        omega
    obtain ⟨pw, k1, k2, k3⟩ := key
    rw [k1, List.append_assoc] at ht
    have rf := readF_eq ht hb o2 o1 k2
    have hd := drop_more ht
    have rp := k3 _ hd
    have hd2 := drop_more hd
    have hlen : t.length = b + p.1.length + pw.length + r.length := by
      have := congrArg List.length ht
      rw [List.length_drop, List.length_append, List.length_append] at this
      omega
    have hm : mid t b (b + p.1.length) = p.1 := by
      unfold mid
      rw [List.drop_take, ht, Nat.add_sub_cancel_left, List.take_left]
    unfold readA
    have tp : turnP t L b = behind t p.1 (b + p.1.length + pw.length, some p.2) := by
      unfold turnP
      rw [rf]
      simp only [if_true]
      rw [hm, rp]
    rw [tp]
    unfold behind
    simp only
    by_cases z : l = []
    · have : r = [] := hrl.1 z
      rw [this] at hlen
      simp only [List.length_nil] at hlen
      rw [if_pos (by omega)]
      simp only
      have e9 : b + p.1.length + pw.length = t.length := by omega
      rw [z, e9]
    · have er := hrl.2 z
      rw [er] at hd2 hlen
      rw [List.length_cons] at hlen
      have g : t[b + p.1.length + pw.length]? = some 32 := by rw [get_drop hd2]; rfl
      have hlt : p.1 < lastT [] := by
        cases l with
        | nil => exact absurd rfl z
        | cons q l =>
          obtain ⟨w1, w2, _⟩ := o4
          exact last_ge (L := p.1) q.1 [] (isF_begun w2) w1
      rw [if_neg (by omega), if_pos ⟨g, hlt⟩]
      simp only
      have hd3 : t.drop (b + p.1.length + pw.length + 1) = joinL (l.map wordL) := by
        have := drop_at g
        rw [hd2] at this
        injection this with _ this
        exact this.symm
      rw [rt_A l p.1 _ (acc ++ [(p.1, p.2)]) k z o4 hd3 (by omega) (by simp at hk; omega), List.append_assoc]
      rfl
theorem ML_len (l : ML) (h : l ≠ []) : l.length ≤ (joinL (l.map wordL)).length + 1 := by
  rw [join_len l h]
  unfold sumL
  omega
theorem rt_M {l : ML} (h : OkW [] l) : readM (showL l) = ((showL l).length, some l) ∨ (l = [] ∧ readM (showL l) = (0, some [])) := by
  by_cases z : l = []
  · subst z
    exact .inr ⟨rfl, rfl⟩
  · left
    have hl := ML_len l z
    unfold readM
    rw [if_neg]
    · have := rt_A (t := showL l) l [] 0 [] ((showL l).length + 1) z h rfl (by omega) hl
      rw [this, List.nil_append]
    · intro y
      have h1 := join_len l z
      have : joinL (l.map wordL) = [] := y
      rw [this] at h1
      cases l with
      | nil => exact z rfl
      | cons p l =>
        obtain ⟨o1, o2, _⟩ := h
        unfold sumL at h1
        simp only [List.map_cons, List.sum_cons, List.length_cons, List.length_nil] at h1
        have hw : wordL p = [] := by
          cases q : wordL p with
          | nil => rfl
          | cons c w => rw [q] at h1; simp at h1; omega
        have hp : p.1 = [] := by
          unfold wordL at hw
          split at hw
          · exact hw
          · simp at hw
        rw [hp] at o1
        exact List.not_lt_nil _ o1
end Mea
set_option Elab.async false
set_option linter.all false
set_option maxRecDepth 100000
set_option maxHeartbeats 4000000
namespace Mea
open PySem L2 Wk Mi
local macro_rules | `(tactic| walk_at "rd") => `(tactic| simp only [mBody, mBodyF, fin, finF, finC, mSeq, seqK, mAsg, mAsgO, mRet, mRetN, mDrop, mNext, mIf, mTest, mTru, mAnd, mOr, mNot, mB, mAndV, mOrV, mNotV, mChain, mNil, mCons, mTup, mOp2, mUn, mSl, mPart, mNoPart, mC, mVar, oE, oN, oNil, oCons, mCB, rsv, rsvs, content, lift, setv, gmNil, gmCons, gmTup, mFrz, OD.d, mIter, walkD, mRange1, mRange2, mYes, aNil, aV, aS, aT, mCall, fCall, Mi.cellOf, cellsOf, apart, aparts, back, samePars, mPar, mAug, mRaise, mRaise0, mGet2, mSetIx, mPut, mAppend, mFor, Cell.isPar, Cell.olst, Cell.odk, Cell.put, fLst, fDk, fDict, fMove, bind_ok, bind_no, bind_err, List.cons_append, List.nil_append, List.replicate_succ, List.replicate_zero, List.getElem?_cons_zero, List.getElem?_cons_succ, List.getElem?_nil, List.set_cons_zero, List.set_cons_succ, List.length_cons, List.length_nil, List.take_succ_cons, List.take_zero, List.take_nil, Option.bind_some, Option.bind_none, Option.map_some, Option.map_none, List.all_nil, List.all_cons, Bool.and_true, Bool.true_and, Bool.and_false, Bool.false_and, Bool.not_true, Bool.not_false, decide_true, decide_false, reduceIte, Bool.false_eq_true, Bool.true_eq_false, if_true, if_false, beq_self_eq_true, Nat.reduceAdd, Nat.reduceEqDiff, Nat.reduceLeDiff, dAdd, dSub, dMulH, dMul, dDiv, dMod, dPow, dGt, dLt, dLe, dGe, dIx, ixL, dNeg, dAbs, dMax, dMin, dLen, deq_ii, deq_ss, deq_bb, dne_ii, dne_ss, dne_bb, atI_0, atI_1, atI_2, ixN_3_0, ixN_3_2, ne_eq, Int.reduceEq, Int.reduceNe, not_false_eq_true, not_true_eq_false, Int.reduceLT, Int.reduceLE, and_true, true_and, and_false, false_and, Int.reduceToNat, lim, Mi.key, fSorted, mM1, dStarts])
/-! ### spoiled texts -/
theorem cutD_to (l : List D) (j : Nat) : cutD l none (some (j : Int)) = l.take j := by
  unfold cutD
  rw [HT.sIx_nat]
  have e : HT.sIx l.length 0 none = 0 := rfl
  rw [e, List.drop_zero, Nat.sub_zero]
  by_cases h : j ≤ l.length
  · rw [Nat.min_eq_left h]
  · rw [Nat.min_eq_right (by omega), List.take_of_length_le (Nat.le_refl _), List.take_of_length_le (by omega)]
theorem cutD_from (l : List D) (j : Nat) : cutD l (some (j : Int)) none = l.drop j := by
  unfold cutD
  rw [HT.sIx_nat]
  have e : HT.sIx l.length l.length none = l.length := rfl
  rw [e]
  by_cases h : j ≤ l.length
  · rw [Nat.min_eq_left h, List.take_of_length_le (by rw [List.length_drop]; omega)]
  · rw [Nat.min_eq_right (by omega), Nat.sub_self, List.take_zero, List.drop_of_length_le (by omega)]
def lenS (xs : List (List Nat)) : Nat := (xs.map fun x => x.length + 1).sum
def cntS (p : Nat → Bool) (xs : List (List Nat)) : Nat := (xs.map fun x => x.countP p).sum
theorem joinL_len : ∀ xs : List (List Nat), (joinL xs).length ≤ lenS xs ∧ (xs ≠ [] → (joinL xs).length + 1 = lenS xs)
  | [] => ⟨by simp [joinL], fun h => absurd rfl h⟩
  | [x] => ⟨by simp [joinL, lenS], fun _ => by simp [joinL, lenS]⟩
  | x :: y :: r => by
    have ih := (joinL_len (y :: r)).2 (by simp)
    have e : joinL (x :: y :: r) = x ++ 32 :: joinL (y :: r) := rfl
    have e2 : lenS (x :: y :: r) = x.length + 1 + lenS (y :: r) := by simp [lenS]
    rw [e, e2, List.length_append, List.length_cons]
    exact ⟨by omega, fun _ => by omega⟩
theorem joinL_cnt {p : Nat → Bool} (h : p 32 = false) : ∀ xs : List (List Nat), (joinL xs).countP p = cntS p xs
  | [] => rfl
  | [x] => by simp [joinL, cntS]
  | x :: y :: r => by
    have ih := joinL_cnt h (y :: r)
    have e : joinL (x :: y :: r) = x ++ 32 :: joinL (y :: r) := rfl
    have e2 : cntS p (x :: y :: r) = x.countP p + cntS p (y :: r) := by simp [cntS]
    rw [e, e2, List.countP_append, List.countP_cons_of_neg (by rw [h]; decide), ih]
theorem joinL_mem {c : Nat} : ∀ xs : List (List Nat), (c ∈ joinL xs → c = 32 ∨ ∃ w ∈ xs, c ∈ w) ∧ ∀ w ∈ xs, c ∈ w → c ∈ joinL xs
  | [] => ⟨(fun h => by cases h), (fun w hw => by cases hw)⟩
  | [x] => ⟨fun h => .inr ⟨x, by simp, h⟩, fun w hw hc => by rw [List.mem_singleton.mp hw] at hc; exact hc⟩
  | x :: y :: r => by
    obtain ⟨h1, h2⟩ := joinL_mem (c := c) (y :: r)
    have e : joinL (x :: y :: r) = x ++ 32 :: joinL (y :: r) := rfl
    rw [e]
    constructor
    · intro h
      rcases List.mem_append.mp h with h | h
      · exact .inr ⟨x, by simp, h⟩
      · rcases List.mem_cons.mp h with h | h
        · exact .inl h
        · rcases h1 h with h | ⟨w, hw, hc⟩
          · exact .inl h
          · exact .inr ⟨w, List.mem_cons_of_mem _ hw, hc⟩
    · intro w hw hc
      rcases List.mem_cons.mp hw with rfl | hw
      · exact List.mem_append_left _ hc
      · exact List.mem_append_right _ (List.mem_cons_of_mem _ (h2 w hw hc))
theorem sum_app (f : List Nat → Nat) (a b : List (List Nat)) : ((a ++ b).map f).sum = (a.map f).sum + (b.map f).sum := by
  rw [List.map_append, List.sum_append]
theorem sum_take (f : List Nat → Nat) (a : List (List Nat)) (j : Nat) : ((a.take j).map f).sum ≤ (a.map f).sum ∧ ((a.drop j).map f).sum ≤ (a.map f).sum := by
  have h := sum_app f (a.take j) (a.drop j)
  rw [List.take_append_drop] at h
  omega
theorem sum_rev (f : List Nat → Nat) (a : List (List Nat)) : ((a.reverse).map f).sum = (a.map f).sum := by
  rw [List.map_reverse, List.sum_reverse]
/-- a text that came of another one -/
structure Came (t t' : List Nat) : Prop where
  asc : Asc t'
  len : t'.length ≤ 2 * t.length + 3
  cnt : t'.countP isD ≤ 2 * t.countP isD + 1
theorem came_join {t : List Nat} {ws xs : List (List Nat)} (hw : joinL ws = t) (hne : ws ≠ []) (ha : Asc t) (hm : ∀ x ∈ xs, x ∈ ws) (hl : lenS xs ≤ 2 * lenS ws) (hc : cntS isD xs ≤ 2 * cntS isD ws) : Came t (joinL xs) := by
  have d32 : isD 32 = false := by decide +kernel
  refine ⟨fun c hcm => ?_, ?_, ?_⟩
  · rcases (joinL_mem xs).1 hcm with z | ⟨w, hw', hcw⟩
    · omega
    · exact ha c (by rw [← hw]; exact (joinL_mem ws).2 w (hm w hw') hcw)
  · have h1 := (joinL_len xs).1
    have h2 := (joinL_len ws).2 hne
    rw [hw] at h2
    omega
  · rw [joinL_cnt d32]
    have := joinL_cnt d32 ws
    rw [hw] at this
    omega
theorem splitN (t : List Nat) : ∃ ws : List (List Nat), Txt.split (S t) " " = ws.map S ∧ ws ≠ [] ∧ joinL ws = t := by
  refine ⟨(Txt.split (S t) " ").map fun z => z.cps.toList, ?_, ?_, ?_⟩
  · rw [List.map_map]
    have : (S ∘ fun z : Str => z.cps.toList) = id := by
      funext z
      exact S_list z
    rw [this, List.map_id]
  · intro z
    have : Txt.split (S t) " " = [] := List.map_eq_nil_iff.mp z
    unfold Txt.split at this
    split at this
    · cases this
    · split at this
      · cases this
      · rw [StrLaws.partsBetween_eq] at this
        obtain ⟨p, r, e⟩ := StrLaws.partsFrom_ne (S t) (" " : Str).length 0 (Builtin.Str.occurrences (S t) " " 0 (S t).length ((S t).length + 1))
        rw [e] at this
        cases this
  · have h := StrLaws.join_split (S t) " "
    have h2 := join_S ((Txt.split (S t) " ").map fun z => z.cps.toList)
    rw [List.map_map] at h2
    have : (S ∘ fun z : Str => z.cps.toList) = id := by
      funext z
      exact S_list z
    rw [this, List.map_id] at h2
    unfold Txt.join at h2
    rw [StrLaws.glued_eq_join, h] at h2
    exact (S_inj h2).symm
theorem join_any {xs : List (List Nat)} (h : lenS xs ≤ 90000) : dJoin " " (.lst (xs.map fun w => .str (S w))) = some (.str (S (joinL xs))) := by
  unfold dJoin
  show ((strsOf _).bind _) = _
  rw [strsOf_S]
  have e2 : ((xs.map S).map (·.length)).sum + xs.length = lenS xs := by
    unfold lenS
    rw [List.map_map]
    clear h
    induction xs with
    | nil => rfl
    | cons x xs ih =>
      simp only [List.map_cons, List.sum_cons, List.length_cons, Function.comp, S_len] at ih ⊢
      omega
  have e3 : (" " : Str).length = 1 := rfl
  rw [Option.bind_some, e3, List.length_map, if_pos (by omega), join_S]
def odds : List (List Nat) := [[], [32], [94], [45], [48], [49], [55], [109], [115], [39], [65], [32, 32], [94, 49], [95], [32, 97], [32, 122, 122]]
theorem odds_ok : ∀ w ∈ odds, w.length ≤ 3 ∧ w.countP isD ≤ 1 ∧ (∀ c ∈ w, c < 128) := by decide +kernel
end Mea
set_option Elab.async false
set_option linter.all false
set_option maxRecDepth 100000
set_option maxHeartbeats 4000000
namespace Mea
open PySem L2 Wk Mi
local macro_rules | `(tactic| walk_at "rd") => `(tactic| simp only [mBody, mBodyF, fin, finF, finC, mSeq, seqK, mAsg, mAsgO, mRet, mRetN, mDrop, mNext, mIf, mTest, mTru, mAnd, mOr, mNot, mB, mAndV, mOrV, mNotV, mChain, mNil, mCons, mTup, mOp2, mUn, mSl, mPart, mNoPart, mC, mVar, oE, oN, oNil, oCons, mCB, rsv, rsvs, content, lift, setv, gmNil, gmCons, gmTup, mFrz, OD.d, mIter, walkD, mRange1, mRange2, mYes, aNil, aV, aS, aT, mCall, fCall, Mi.cellOf, cellsOf, apart, aparts, back, samePars, mPar, mAug, mRaise, mRaise0, mGet2, mSetIx, mPut, mAppend, mFor, Cell.isPar, Cell.olst, Cell.odk, Cell.put, fLst, fDk, fDict, fMove, bind_ok, bind_no, bind_err, List.cons_append, List.nil_append, List.replicate_succ, List.replicate_zero, List.getElem?_cons_zero, List.getElem?_cons_succ, List.getElem?_nil, List.set_cons_zero, List.set_cons_succ, List.length_cons, List.length_nil, List.take_succ_cons, List.take_zero, List.take_nil, Option.bind_some, Option.bind_none, Option.map_some, Option.map_none, List.all_nil, List.all_cons, Bool.and_true, Bool.true_and, Bool.and_false, Bool.false_and, Bool.not_true, Bool.not_false, decide_true, decide_false, reduceIte, Bool.false_eq_true, Bool.true_eq_false, if_true, if_false, beq_self_eq_true, Nat.reduceAdd, Nat.reduceEqDiff, Nat.reduceLeDiff, dAdd, dSub, dMulH, dMul, dDiv, dMod, dPow, dGt, dLt, dLe, dGe, dIx, ixL, dNeg, dAbs, dMax, dMin, dLen, deq_ii, deq_ss, deq_bb, dne_ii, dne_ss, dne_bb, atI_0, atI_1, atI_2, ixN_3_0, ixN_3_2, ne_eq, Int.reduceEq, Int.reduceNe, not_false_eq_true, not_true_eq_false, Int.reduceLT, Int.reduceLE, and_true, true_and, and_false, false_and, Int.reduceToNat, lim, Mi.key, fSorted, mM1, dStarts])
theorem came_cut {t : List Nat} (ha : Asc t) (k : Nat) : Came t (t.take k) := by
  refine ⟨ha.take k, by rw [List.length_take]; omega, ?_⟩
  have := List.Sublist.countP_le (p := isD) (List.take_sublist k t)
  omega
theorem came_put {t w : List Nat} (ha : Asc t) (hw : w ∈ odds) (k j : Nat) (hk : k ≤ j) : Came t (t.take k ++ w ++ t.drop j) := by
  obtain ⟨w1, w2, w3⟩ := odds_ok w hw
  refine ⟨Asc.app (Asc.app (ha.take k) w3) (ha.drop j), ?_, ?_⟩
  · rw [List.length_append, List.length_append, List.length_take, List.length_drop]
    omega
  · rw [List.countP_append, List.countP_append]
    have h1 := List.Sublist.countP_le (p := isD) (List.take_sublist k t)
    have h2 := List.Sublist.countP_le (p := isD) (List.drop_sublist j t)
    omega
theorem spoiled_ok (n k : Nat) {o : OD} {t : List Nat} (h : Bx (k + 4) o) (ht : t.length ≤ 900) (ha : Asc t) :
    ∃ (o' : OD) (t' : List Nat), Bx k o' ∧ Came t t' ∧ run (n + 2) 40 [.par o, .val (.str (S t))] = .ok (.str (S t')) [.par o', .val (.str (S t))] := by
  obtain ⟨o1, kk, a1, a2, a3, a4⟩ := take_ok (k := k + 3) h n ((t.length : Nat) + 1) (by omega) (by omega)
  obtain ⟨o2, r2, b1, b2, b3, b4⟩ := take_ok (k := k + 2) a1 n 16 (by decide) (by decide)
  obtain ⟨o3, r3, c1, c2, c3, c4⟩ := take_ok (k := k + 1) b1 n 6 (by decide) (by decide)
  obtain ⟨ws, s1, s2, s3⟩ := splitN t
  have hws := (joinL_len ws).2 s2
  rw [s3] at hws
  have wl : ws.length ≤ t.length + 1 := by
    rw [hws]
    unfold lenS
    clear hws s1 s2 s3
    induction ws with
    | nil => simp
    | cons x ws ih => simp only [List.map_cons, List.sum_cons, List.length_cons]; omega
  obtain ⟨kn, rfl⟩ := Int.eq_ofNat_of_zero_le a2
  obtain ⟨d, hd, eo⟩ := atI_lt (l := odds.map fun w => D.str (S w)) b2 (by simpa [odds] using b3)
  obtain ⟨w, hw, rfl⟩ := List.mem_map.mp hd
  obtain ⟨w1, w2, w3⟩ := odds_ok w hw
  have eo' : atI [D.str (Str.ofString ""), D.str (Str.ofString " "), D.str (Str.ofString "^"), D.str (Str.ofString "-"), D.str (Str.ofString "0"), D.str (Str.ofString "1"), D.str (Str.ofString "7"), D.str (Str.ofString "m"), D.str (Str.ofString "s"), D.str (Str.ofString "'"), D.str (Str.ofString "A"), D.str (Str.ofString "  "), D.str (Str.ofString "^1"), D.str (Str.ofString "_"), D.str (Str.ofString " a"), D.str (Str.ofString " zz")] r2 = some (D.str (S w)) := eo
  have c0 : ((S t).length ≤ 100000) = True := by rw [S_len]; simp only [eq_iff_iff, iff_true]; omega
  have lt1 : ((S t).length : Int) + 1 = (t.length : Int) + 1 := by rw [S_len]
  have cu1 : cutS (S t) none (some (kn : Int)) = S (t.take kn) := cut_to t kn
  have cu2 : cutS (S t) (some (kn : Int)) none = S (t.drop kn) := cut_from t kn
  have sp : dSplit (S t) (.str (Str.ofString " ")) = some (.lst (ws.map fun w => .str (S w))) := by
    unfold dSplit
    simp only
    rw [if_pos ⟨by decide +kernel, by rw [S_len]; show _ ≤ 100000; omega⟩]
    have : Txt.split (S t) (Str.ofString " ") = ws.map S := s1
    rw [this, List.map_map]
    rfl
  have sz : ∀ x : List Nat, x.length ≤ 50000 → ∀ y : List Nat, y.length ≤ 50000 → ((S x).length + (S y).length ≤ 100000) = True := fun x hx y hy => by
    rw [S_len, S_len]
    simp only [eq_iff_iff, iff_true]
    omega
  have tk := List.length_take_le kn t
  have z1 := sz (t.take kn) (by omega) w (by omega)
  have z2 : ∀ j : Nat, ((S (t.take kn ++ w)).length + (S (t.drop j)).length ≤ 100000) = True := fun j => sz (t.take kn ++ w) (by rw [List.length_append]; omega) (t.drop j) (by rw [List.length_drop]; omega)
  have sl := fun j => S_app (t.take kn ++ w) (t.drop j)
  have cases6 : r3 = 0 ∨ r3 = 1 ∨ r3 = 2 ∨ r3 = 3 ∨ r3 = 4 ∨ r3 = 5 := by omega
  show ∃ o' t', _ ∧ _ ∧ mBody 5 (m_l_spoiled (run (n + 1)) (runF (n + 1))) _ = _
  unfold m_l_spoiled
  rcases cases6 with rfl | rfl | rfl | rfl | rfl | rfl
  · refine ⟨o3, t.take kn, c1.mono (by omega), came_cut ha kn, ?_⟩
    iterate 14 (first | (walk_at "rd"; done) | (try walk_at "rd"; try simp only [c0, lt1, a4, b4, c4, eo', sp, dSl, parSet, cu1, if_true, decide_true]))
  · refine ⟨o3, t.take kn ++ w ++ t.drop kn, c1.mono (by omega), came_put ha hw kn kn (Nat.le_refl _), ?_⟩
    iterate 14 (first | (walk_at "rd"; done) | (try walk_at "rd"; try simp only [c0, lt1, a4, b4, c4, eo', sp, dSl, parSet, cu1, cu2, z1, z2, S_app, if_true, decide_true]))
  · have cu3 : cutS (S t) (some ((kn : Int) + 1 + 0)) none = S (t.drop (kn + 1)) := by
      rw [← cut_from]
      congr 2
    have fm : Int.fmod 2 2 = 0 := by decide
    refine ⟨o3, t.take kn ++ w ++ t.drop (kn + 1), c1.mono (by omega), came_put ha hw kn (kn + 1) (by omega), ?_⟩
    iterate 14 (first | (walk_at "rd"; done) | (try walk_at "rd"; try simp only [c0, lt1, a4, b4, c4, eo', sp, dSl, parSet, cu1, cu3, fm, z1, z2, S_app, if_true, decide_true]))
  · have cu3 : cutS (S t) (some ((kn : Int) + 1 + 1)) none = S (t.drop (kn + 2)) := by
      rw [← cut_from]
      congr 2
    have fm : Int.fmod 3 2 = 1 := by decide
    refine ⟨o3, t.take kn ++ w ++ t.drop (kn + 2), c1.mono (by omega), came_put ha hw kn (kn + 2) (by omega), ?_⟩
    iterate 14 (first | (walk_at "rd"; done) | (try walk_at "rd"; try simp only [c0, lt1, a4, b4, c4, eo', sp, dSl, parSet, cu1, cu3, fm, z1, z2, S_app, if_true, decide_true]))
  · have wl1 : 1 ≤ ws.length := by
      cases ws with
      | nil => exact absurd rfl s2
      | cons x ws => simp
    obtain ⟨o4, j, d1, d2, d3, d4⟩ := take_ok (k := k) c1 n (ws.length : Nat) (by omega) (by omega)
    obtain ⟨jn, rfl⟩ := Int.eq_ofNat_of_zero_le d2
    have lw : (((ws.map fun w => D.str (S w)).length : Nat) : Int) = (ws.length : Int) := by rw [List.length_map]
    have e1 : cutD (ws.map fun w => D.str (S w)) none (some ((jn : Int) + 1)) = (ws.take (jn + 1)).map fun w => D.str (S w) := by
      have := cutD_to (ws.map fun w => D.str (S w)) (jn + 1)
      rw [List.map_take]
      exact this
    have e2 : cutD (ws.map fun w => D.str (S w)) (some (jn : Int)) none = (ws.drop jn).map fun w => D.str (S w) := by
      rw [cutD_from, List.map_drop]
    have la : ((((ws.take (jn + 1)).map fun w => D.str (S w)).length + ((ws.drop jn).map fun w => D.str (S w)).length) ≤ 100000) = True := by
      rw [List.length_map, List.length_map, List.length_take, List.length_drop]
      simp only [eq_iff_iff, iff_true]
      omega
    have ap : ((ws.take (jn + 1)).map fun w => D.str (S w)) ++ ((ws.drop jn).map fun w => D.str (S w)) = (ws.take (jn + 1) ++ ws.drop jn).map fun w => D.str (S w) := by rw [List.map_append]
    have hl : lenS (ws.take (jn + 1) ++ ws.drop jn) ≤ 2 * lenS ws := by
      unfold lenS
      rw [sum_app]
      have h1 := (sum_take (fun x => x.length + 1) ws (jn + 1)).1
      have h2 := (sum_take (fun x => x.length + 1) ws jn).2
      omega
    have hc : cntS isD (ws.take (jn + 1) ++ ws.drop jn) ≤ 2 * cntS isD ws := by
      unfold cntS
      rw [sum_app]
      have h1 := (sum_take (fun x => x.countP isD) ws (jn + 1)).1
      have h2 := (sum_take (fun x => x.countP isD) ws jn).2
      omega
    have jo := join_any (xs := ws.take (jn + 1) ++ ws.drop jn) (by omega)
    refine ⟨o4, joinL (ws.take (jn + 1) ++ ws.drop jn), d1, came_join s3 s2 ha (fun x hx => ?_) hl hc, ?_⟩
    · rcases List.mem_append.mp hx with hx | hx
      · exact List.mem_of_mem_take hx
      · exact List.mem_of_mem_drop hx
    · iterate 18 (first | (walk_at "rd"; done) | (try walk_at "rd"; try simp only [c0, lt1, a4, b4, c4, eo', sp, lw, d4, dSl, parSet, e1, e2, la, ap, jo, if_true, decide_true]))
  · have rv : (ws.map fun w => D.str (S w)).reverse = ws.reverse.map fun w => D.str (S w) := by rw [List.map_reverse]
    have hl : lenS ws.reverse = lenS ws := sum_rev _ _
    have hc : cntS isD ws.reverse = cntS isD ws := sum_rev _ _
    have jo := join_any (xs := ws.reverse) (by omega)
    refine ⟨o3, joinL ws.reverse, c1.mono (by omega), came_join s3 s2 ha (fun x hx => List.mem_reverse.mp hx) (by omega) (by omega), ?_⟩
    iterate 18 (first | (walk_at "rd"; done) | (try walk_at "rd"; try simp only [c0, lt1, a4, b4, c4, eo', sp, parSet, fRev, rv, jo, if_true, decide_true]))
end Mea
set_option Elab.async false
set_option linter.all false
set_option maxRecDepth 100000
set_option maxHeartbeats 4000000
namespace Mea
open PySem L2 Wk Mi
local macro_rules | `(tactic| walk_at "rd") => `(tactic| simp only [mBody, mBodyF, fin, finF, finC, mSeq, seqK, mAsg, mAsgO, mRet, mRetN, mDrop, mNext, mIf, mTest, mTru, mAnd, mOr, mNot, mB, mAndV, mOrV, mNotV, mChain, mNil, mCons, mTup, mOp2, mUn, mSl, mPart, mNoPart, mC, mVar, oE, oN, oNil, oCons, mCB, rsv, rsvs, content, lift, setv, gmNil, gmCons, gmTup, mFrz, OD.d, mIter, walkD, mRange1, mRange2, mYes, aNil, aV, aS, aT, mCall, fCall, Mi.cellOf, cellsOf, apart, aparts, back, samePars, mPar, mAug, mRaise, mRaise0, mGet2, mSetIx, mPut, mAppend, mFor, Cell.isPar, Cell.olst, Cell.odk, Cell.put, fLst, fDk, fDict, fMove, bind_ok, bind_no, bind_err, List.cons_append, List.nil_append, List.replicate_succ, List.replicate_zero, List.getElem?_cons_zero, List.getElem?_cons_succ, List.getElem?_nil, List.set_cons_zero, List.set_cons_succ, List.length_cons, List.length_nil, List.take_succ_cons, List.take_zero, List.take_nil, Option.bind_some, Option.bind_none, Option.map_some, Option.map_none, List.all_nil, List.all_cons, Bool.and_true, Bool.true_and, Bool.and_false, Bool.false_and, Bool.not_true, Bool.not_false, decide_true, decide_false, reduceIte, Bool.false_eq_true, Bool.true_eq_false, if_true, if_false, beq_self_eq_true, Nat.reduceAdd, Nat.reduceEqDiff, Nat.reduceLeDiff, dAdd, dSub, dMulH, dMul, dDiv, dMod, dPow, dGt, dLt, dLe, dGe, dIx, ixL, dNeg, dAbs, dMax, dMin, dLen, deq_ii, deq_ss, deq_bb, dne_ii, dne_ss, dne_bb, atI_0, atI_1, atI_2, ixN_3_0, ixN_3_2, ne_eq, Int.reduceEq, Int.reduceNe, not_false_eq_true, not_true_eq_false, Int.reduceLT, Int.reduceLE, and_true, true_and, and_false, false_and, Int.reduceToNat, lim, Mi.key, fSorted, mM1, dStarts])
/-! ### texts_right -/
theorem ten500 : (10 : Nat) ^ 500 < 2 ^ 1920 := by decide +kernel
/-- a text that is read is the one that is shown -/
theorem back_M {t : List Nat} (ht : t.length ≤ 900) (hs : t.countP isD ≤ 500) {e : Nat} {l : ML} (h : readM t = (e, some l)) : showL l = t ∧ Fit l := by
  unfold readM at h
  split at h
  · rename_i z
    injection h with h1 h2
    injection h2 with h2
    subst h2
    exact ⟨z.symm, by simp, fun p hp => by cases hp⟩
  · obtain ⟨l', h1, h2, h3, h4⟩ := back_A hs _ _ _ _ _ _ (by omega) h
    rw [List.nil_append] at h1
    subst h1
    rw [List.drop_zero] at h3
    refine ⟨h3, ?_, fun p hp => ?_⟩
    · have := join_len l h2
      rw [h3] at this
      unfold sumL at this
      omega
    · have := h4 p hp
      have h5 := Nat.lt_trans this ten500
      by_cases z : p.2.natAbs = 0
      · rw [z]
        decide
      · exact (Nat.log2_lt z).mpr h5
theorem strOk_S {w : List Nat} (h : Asc w) : PyData.strOk (S w) = true := by
  unfold PyData.strOk S
  simp only [List.all_toArray, List.all_eq_true, decide_eq_true_eq]
  intro c hc
  have := h c hc
  omega
theorem pls_W : ∀ l : ML, (∀ p ∈ l, Asc p.1) → pls (l.map encW) = true ∧ deps (l.map encW) ≤ 1
  | [], _ => ⟨by rw [List.map_nil, pls], by rw [List.map_nil, deps]; omega⟩
  | p :: l, h => by
    obtain ⟨h1, h2⟩ := pls_W l fun q hq => h q (List.mem_cons_of_mem _ hq)
    have hp := strOk_S (h p (by simp))
    refine ⟨?_, ?_⟩
    · rw [List.map_cons, pls, h1, Bool.and_true]
      unfold encW
      rw [pl, pls, pl, hp, pls, pl, pls]
      rfl
    · rw [List.map_cons, deps]
      have : dep (encW p) = 1 := by
        unfold encW
        rw [dep, deps, dep, deps, dep, deps]
        rfl
      omega
theorem pl_read {l : ML} (h : ∀ p ∈ l, Asc p.1) : pl (.lst [.str "read", .tup (l.map encW)]) = true ∧ dep (.lst [.str "read", .tup (l.map encW)]) ≤ 64 := by
  obtain ⟨h1, h2⟩ := pls_W l h
  refine ⟨?_, ?_⟩
  · rw [pl, pls, pl, pls, pl, h1, pls]
    decide +kernel
  · rw [dep, deps, dep, deps, dep, deps]
    omega
theorem pl_text (i : Int) : pl (.lst [.str "text", .int i]) = true ∧ dep (.lst [.str "text", .int i]) ≤ 64 := by
  refine ⟨?_, ?_⟩
  · rw [pl, pls, pl, pls, pl, pls]
    decide +kernel
  · rw [dep, deps, dep, deps, dep, deps]
    decide
abbrev trB (n : Nat) : Mi.Env → Out Fl := (mSeq (mAsg (mCall 2 ((run (n + 17)) 40) (aS 0 (aV (mVar 2) aNil))) (setv 2))
  (mSeq (mAsg (mCall 1 ((run (n + 17)) 39) (aV (mVar 2) aNil)) (setv 4))
  (mIf (mTest (mOp2 dEqH (oN 2) (oE (mC (.str ""))))) (mIf (mTest (mOp2 dNeH (oN 4) (oE (mFrz (fLst (mCons (mC (.str "read")) (mCons (mTup mNil) mNil))))))) (mRet (mC (.bl false))) mNext) (mSeq (mAsg (mCall 1 ((run (n + 17)) 36) (aV (mVar 2) aNil)) (gmTup 2 (gmCons (setv 5) (gmCons (setv 6) gmNil))))
  (mIf (mOr (mAnd (mTru (oN 6)) (mOr (mTest (mOp2 dNeH (oE (mOp2 dIx (oN 4) (oE (mC (.int 0))))) (oE (mC (.str "read"))))) (mTest (mOp2 dNeH (oE (mCall 1 ((run (n + 17)) 29) (aV (mOp2 dIx (oN 4) (oE (mC (.int 1)))) aNil))) (oN 2))))) (mAnd (mNot (mTru (oN 6))) (mTest (mOp2 dNeH (oN 4) (oE (mFrz (fLst (mCons (mC (.str "text")) (mCons (mVar 5) mNil))))))))) (mRet (mC (.bl false))) mNext)))))
theorem tr_turn (n k : Nat) {o : OD} {t : List Nat} {a x y z u : Cell} (h : Bx (k + 4) o) (ht : (t.length + 3) * 2 ≤ 903) (hs : (t.countP isD + 1) * 2 ≤ 501) (ha : Asc t) (hx : plain1 x) (hy : plain1 y) (hz : plain1 z) (hu : plain1 u) :
    ∃ (o' : OD) (t' : List Nat) (y' z' u' : Cell), Bx k o' ∧ Came t t' ∧ plain1 y' ∧ plain1 z' ∧ plain1 u' ∧ trB n [.par o, a, .val (.str (S t)), x, y, z, u] = .ok .nx [.par o', a, .val (.str (S t')), x, y', z', u'] := by
  obtain ⟨o', t', h1, h2, h3⟩ := spoiled_ok (n + 15) k h (by omega) ha
  have l2 := h2.len
  have c2 := h2.cnt
  have td := told_ok (n + 9) (t := t') (by omega) (by omega)
  unfold toldP at td
  by_cases z0 : t' = []
  · subst z0
    have rm : readM [] = (0, some []) := by unfold readM; rw [if_pos rfl]
    rw [rm] at td
    simp only at td
    have zz : decide (S [] = "") = true := by decide +kernel
    obtain ⟨p1, p2⟩ := pl_read (l := []) (by simp)
    have ne := dne_self p1 p2
    have em : ([] : ML).map encW = [] := rfl
    rw [em] at ne td
    refine ⟨o', [], .val (.lst [.str "read", .tup []]), z, u, h1, h2, .inr ⟨_, rfl⟩, hz, hu, ?_⟩
    rcases hy with rfl | ⟨q, rfl⟩ <;> iterate 12 (first | (walk_at "rd"; done) | (try walk_at "rd"; try simp only [h3, td, zz, ne]))
  · have bg := begun_ok n (t := t') (by omega) h2.asc
    have rm : readM t' = readA t' (t'.length + 1) [] 0 [] := by unfold readM; rw [if_neg z0]
    have zz : decide (S t' = "") = false := by rw [S_nil]; exact decide_eq_false z0
    cases r : readA t' (t'.length + 1) [] 0 [] with
    | mk e o2 =>
      rw [r] at bg rm
      rw [rm] at td
      cases o2 with
      | none =>
        simp only [Option.isSome_none] at td bg
        obtain ⟨p1, p2⟩ := pl_text (e : Nat)
        have ne := dne_self p1 p2
        refine ⟨o', t', .val (.lst [.str "text", .int (e : Nat)]), .val (.int (e : Nat)), .val (.bl false), h1, h2, .inr ⟨_, rfl⟩, .inr ⟨_, rfl⟩, .inr ⟨_, rfl⟩, ?_⟩
        rcases hy with rfl | ⟨q, rfl⟩ <;> rcases hz with rfl | ⟨q2, rfl⟩ <;> rcases hu with rfl | ⟨q3, rfl⟩ <;> iterate 12 (first | (walk_at "rd"; done) | (try walk_at "rd"; try simp only [h3, td, zz, bg, dTru, ne]))
      | some l =>
        simp only [Option.isSome_some] at td bg
        obtain ⟨b1, b2⟩ := back_M (t := t') (by omega) (by omega) rm
        have sh := shown_ok (n + 16) b2
        rw [b1] at sh
        have e0 : decide (Str.ofString "read" = Str.ofString "read") = true := decide_eq_true rfl
        have e1 : decide (S t' = S t') = true := decide_eq_true rfl
        refine ⟨o', t', .val (.lst [.str "read", .tup (l.map encW)]), .val (.int (e : Nat)), .val (.bl true), h1, h2, .inr ⟨_, rfl⟩, .inr ⟨_, rfl⟩, .inr ⟨_, rfl⟩, ?_⟩
        rcases hy with rfl | ⟨q, rfl⟩ <;> rcases hz with rfl | ⟨q2, rfl⟩ <;> rcases hu with rfl | ⟨q3, rfl⟩ <;> iterate 14 (first | (walk_at "rd"; done) | (try walk_at "rd"; try simp only [h3, td, zz, bg, dTru, sh, e0, e1]))
theorem tr_loop (n : Nat) {a : Cell} : ∀ (js : List D) (k : Nat) (o : OD) (t : List Nat) (x y z u : Cell), Bx (k + 4 * js.length) o → (t.length + 3) * 2 ^ js.length ≤ 903 → (t.countP isD + 1) * 2 ^ js.length ≤ 501 → Asc t → plain1 x → plain1 y → plain1 z → plain1 u →
    ∃ (o' : OD) (ρ : List Cell), Bx k o' ∧ forL (setv 3) (trB n) js [.par o, a, .val (.str (S t)), x, y, z, u] = .ok .nx (.par o' :: a :: ρ)
  | [], k, o, t, x, y, z, u, h, _, _, _, _, _, _, _ => ⟨o, _, h, rfl⟩
  | d :: js, k, o, t, x, y, z, u, h, ht, hs, ha, hx, hy, hz, hu => by
    rw [List.length_cons] at h ht hs
    rw [Nat.pow_succ] at ht hs
    have hp : 1 ≤ 2 ^ js.length := Nat.one_le_two_pow
    have ht' : (t.length + 3) * 2 * 2 ^ js.length ≤ 903 := by rw [Nat.mul_assoc, Nat.mul_comm 2]; exact ht
    have hs' : (t.countP isD + 1) * 2 * 2 ^ js.length ≤ 501 := by rw [Nat.mul_assoc, Nat.mul_comm 2]; exact hs
    have ht2 : (t.length + 3) * 2 ≤ 903 := Nat.le_trans (Nat.le_mul_of_pos_right _ hp) ht'
    have hs2 : (t.countP isD + 1) * 2 ≤ 501 := Nat.le_trans (Nat.le_mul_of_pos_right _ hp) hs'
    obtain ⟨o1, t1, y1, z1, u1, g1, g2, g3, g4, g5, g6⟩ := tr_turn n (k + 4 * js.length) (a := a) (x := .val d) (o := o) (t := t) (h.mono (by omega)) ht2 hs2 ha (.inr ⟨_, rfl⟩) hy hz hu
    obtain ⟨o', ρ, i1, i2⟩ := tr_loop n (a := a) js k o1 t1 (.val d) y1 z1 u1 g1
      (Nat.le_trans (Nat.mul_le_mul_right _ (by have := g2.len; omega)) ht') (Nat.le_trans (Nat.mul_le_mul_right _ (by have := g2.cnt; omega)) hs') g2.asc (.inr ⟨_, rfl⟩) g3 g4 g5
    refine ⟨o', ρ, i1, ?_⟩
    rw [← i2]
    refine forL_cons ?_ g6
    rcases hx with rfl | ⟨q, rfl⟩
    · rfl
    · rfl
structure Shw (l : ML) : Prop where
  fit : Fit l
  ok : OkW [] l
  asc : ∀ p ∈ l, Asc p.1
  tasc : Asc (showL l)
  len : (showL l).length ≤ 109
  cnt : (showL l).countP isD ≤ 61
theorem right_ok (n k : Nat) {o : OD} {l : ML} (h : Bx (k + 12) o) (hl : Shw l) :
    ∃ o', Bx k o' ∧ run (n + 18) 41 [.par o, .val (.tup (l.map encW))] = .ok (.bl true) [.par o', .val (.tup (l.map encW))] := by
  have sh := shown_ok (n + 16) hl.fit
  have tx := text_ok (n + 16) hl.fit
  have td := told_ok (n + 9) (t := showL l) (by have := hl.len; omega) (by have := hl.cnt; omega)
  have tp : toldP (showL l) = .lst [.str "read", .tup (l.map encW)] := by
    unfold toldP
    rcases rt_M hl.ok with e | ⟨e1, e2⟩
    · rw [e]
    · rw [e2, e1]
  rw [tp] at td
  obtain ⟨p1, p2⟩ := pl_read hl.asc
  have ne := dne_self p1 p2
  have e1 : decide (S (showL l) = S (showL l)) = true := decide_eq_true rfl
  have hr : (rngD 0 3).length = 3 := rfl
  obtain ⟨o', ρ, h1, h2⟩ := tr_loop n (a := .val (.tup (l.map encW))) (rngD 0 3) k o (showL l) .no .no .no .no h (by rw [hr]; have := hl.len; omega) (by rw [hr]; have := hl.cnt; omega) hl.tasc (.inl rfl) (.inl rfl) (.inl rfl) (.inl rfl)
  refine ⟨o', h1, ?_⟩
  have rg : ∀ ρ : Mi.Env, mRange1 (mC (.int 3)) ρ = .ok (rngD 0 3) ρ := fun ρ => rng_at (k := 3) rfl (by decide)
  show mBody 5 (m_l_texts_right (run (n + 17)) (runF (n + 17))) _ = _
  unfold m_l_texts_right mBody
  have hd : ∀ (R : Mi.Env → Out Fl), (mSeq (mAsg (mCall 1 ((run (n + 17)) 29) (aV (mVar 1) aNil)) (setv 2))
  (mSeq (mIf (mOr (mTest (mOp2 dNeH (oE (mCall 1 ((run (n + 17)) 12) (aV (mVar 1) aNil))) (oN 2))) (mTest (mOp2 dNeH (oE (mCall 1 ((run (n + 17)) 39) (aV (mVar 2) aNil))) (oE (mFrz (fLst (mCons (mC (.str "read")) (mCons (mVar 1) mNil)))))))) (mRet (mC (.bl false))) mNext) R)) ([.par o, .val (.tup (l.map encW))] ++ List.replicate 5 .no) = R [.par o, .val (.tup (l.map encW)), .val (.str (S (showL l))), .no, .no, .no, .no] := by
    intro R
    iterate 10 (first | (walk_at "rd"; done) | (try walk_at "rd"; try simp only [sh, tx, td, e1, ne]))
  rw [hd, seq_for, rg, bind_ok]
  have h3 : forL (setv 3) (trB n) (rngD 0 3) [.par o, .val (.tup (l.map encW)), .val (.str (S (showL l))), .no, .no, .no, .no] = .ok .nx (.par o' :: .val (.tup (l.map encW)) :: ρ) := h2
  generalize hF : forL (setv 3) (trB n) (rngD 0 3) [.par o, .val (.tup (l.map encW)), .val (.str (S (showL l))), .no, .no, .no, .no] = F at h3 ⊢
  subst h3
  rfl
end Mea
set_option Elab.async false
set_option linter.all false
set_option maxRecDepth 100000
set_option maxHeartbeats 4000000
namespace Mea
open PySem L2 Wk Mi
local macro_rules | `(tactic| walk_at "rd") => `(tactic| simp only [mBody, mBodyF, fin, finF, finC, mSeq, seqK, mAsg, mAsgO, mRet, mRetN, mDrop, mNext, mIf, mTest, mTru, mAnd, mOr, mNot, mB, mAndV, mOrV, mNotV, mChain, mNil, mCons, mTup, mOp2, mUn, mSl, mPart, mNoPart, mC, mVar, oE, oN, oNil, oCons, mCB, rsv, rsvs, content, lift, setv, gmNil, gmCons, gmTup, mFrz, OD.d, mIter, walkD, mRange1, mRange2, mYes, aNil, aV, aS, aT, mCall, fCall, Mi.cellOf, cellsOf, apart, aparts, back, samePars, mPar, mAug, mRaise, mRaise0, mGet2, mSetIx, mPut, mAppend, mFor, Cell.isPar, Cell.olst, Cell.odk, Cell.put, fLst, fDk, fDict, fMove, bind_ok, bind_no, bind_err, List.cons_append, List.nil_append, List.replicate_succ, List.replicate_zero, List.getElem?_cons_zero, List.getElem?_cons_succ, List.getElem?_nil, List.set_cons_zero, List.set_cons_succ, List.length_cons, List.length_nil, List.take_succ_cons, List.take_zero, List.take_nil, Option.bind_some, Option.bind_none, Option.map_some, Option.map_none, List.all_nil, List.all_cons, Bool.and_true, Bool.true_and, Bool.and_false, Bool.false_and, Bool.not_true, Bool.not_false, decide_true, decide_false, reduceIte, Bool.false_eq_true, Bool.true_eq_false, if_true, if_false, beq_self_eq_true, Nat.reduceAdd, Nat.reduceEqDiff, Nat.reduceLeDiff, dAdd, dSub, dMulH, dMul, dDiv, dMod, dPow, dGt, dLt, dLe, dGe, dIx, ixL, dNeg, dAbs, dMax, dMin, dLen, deq_ii, deq_ss, deq_bb, dne_ii, dne_ss, dne_bb, atI_0, atI_1, atI_2, ixN_3_0, ixN_3_2, ne_eq, Int.reduceEq, Int.reduceNe, not_false_eq_true, not_true_eq_false, Int.reduceLT, Int.reduceLE, and_true, true_and, and_false, false_and, Int.reduceToNat, lim, Mi.key, fSorted, mM1, dStarts])
/-! ### which values are measures -/
theorem int_ok (n : Nat) (i : Int) : run (n + 1) 0 [.val (.int i)] = .ok (.bl true) [.val (.int i)] := by
  have e0 : run (n + 1) 0 = mBody 0 (m_is_integer (run n) (runF n)) := rfl
  rw [e0]
  unfold m_is_integer
  iterate 6 (first | (walk_at "rd"; done) | (try walk_at "rd"; try simp only [mIsi, isiB, dTru]))
theorem pow_ok (n : Nat) {p : List Nat × Int} (h1 : isF p.1 = true) (h2 : p.2 ≠ 0) : run (n + 6) 6 [.val (encW p)] = .ok (.bl true) [.val (encW p)] := by
  have hl : p.1.length ≤ 1000 := by have := begun_len (isF_begun h1); omega
  have e1 := isF_ok n p.1 hl
  rw [h1] at e1
  have e2 := int_ok (n + 4) p.2
  have d0 : decide (p.2 = 0) = false := decide_eq_false h2
  have d2 : decide (((2 : Nat) : Int) = 2) = true := rfl
  show mBody 0 (m_is_power (run (n + 5)) (runF (n + 5))) _ = _
  unfold m_is_power encW
  iterate 10 (first | (walk_at "rd"; done) | (try walk_at "rd"; try simp only [mIsi, isiB, dTru, e1, e2, d0, d2]))
  all_goals rfl
theorem bls_true : ∀ l : List D, bls (l.map fun _ => D.bl true) = some (l.map fun _ => true)
  | [] => rfl
  | d :: l => by
    rw [List.map_cons]
    unfold bls
    rw [bls_true l]
    rfl
theorem all_true (l : List D) : dAll [.lst (l.map fun _ => D.bl true)] = some (.bl true) := by
  unfold dAll
  simp only [bls_true, Option.map_some, List.all_map]
  congr 2
  rw [List.all_eq_true]
  intro x _
  rfl
theorem okW_all : ∀ (l : ML) (L : List Nat), OkW L l → ∀ p ∈ l, isF p.1 = true ∧ p.2 ≠ 0
  | [], _, _, p, hp => by cases hp
  | q :: l, L, h, p, hp => by
    obtain ⟨_, h2, h3, h4⟩ := h
    rcases List.mem_cons.mp hp with rfl | hp
    · exact ⟨h2, h3⟩
    · exact okW_all l _ h4 p hp
theorem okW_zip : ∀ (l : ML) (L : List Nat), OkW L l → ∀ d ∈ zipD (l.map encW) ((l.drop 1).map encW), ∃ p q : List Nat × Int, d = .pr [encW p, encW q] ∧ p.1 < q.1
  | [], _, _, d, hd => by simp [zipD] at hd
  | [p], _, _, d, hd => by simp [zipD] at hd
  | p :: q :: l, L, h, d, hd => by
    have e : zipD ((p :: q :: l).map encW) (((p :: q :: l).drop 1).map encW) = .pr [encW p, encW q] :: zipD ((q :: l).map encW) (((q :: l).drop 1).map encW) := rfl
    rw [e] at hd
    obtain ⟨_, _, _, h4⟩ := h
    rcases List.mem_cons.mp hd with rfl | hd
    · exact ⟨p, q, rfl, h4.1⟩
    · exact okW_zip (q :: l) _ h4 d hd
theorem zip_len : ∀ a b : List D, (zipD a b).length ≤ a.length
  | [], _ => by simp [zipD]
  | _ :: _, [] => by simp [zipD]
  | x :: a, y :: b => by
    have := zip_len a b
    simp only [zipD, List.length_cons]
    omega
def fstP : D → D
  | .pr [a, _] => a
  | d => d
def sndP : D → D
  | .pr [_, a] => a
  | d => d
theorem isM_ok (n : Nat) {l : ML} (h : OkW [] l) (hl : l.length ≤ 1000) : run (n + 7) 7 [.val (.tup (l.map encW))] = .ok (.bl true) [.val (.tup (l.map encW))] := by
  have k1 := fLc_pure (vs := [1]) (mi := mIter (mVar 0)) (mg := setv 1) (mt := mYes) (me := mCall 1 ((run (n + 6)) 6) (aV (mVar 1) aNil))
    (ρ := [.val (.tup (l.map encW)), .no, .no, .no]) (ρ1 := [.val (.tup (l.map encW)), .no, .no, .no]) (ds := l.map encW) (p := fun _ => true) (g := fun _ => .bl true)
    (fun d => [.val (.tup (l.map encW)), .val d, .no, .no]) rfl rfl (by simp) (fun d _ => ⟨rfl, rfl, rfl⟩) rfl (fun _ _ _ => rfl) (fun _ _ _ => rfl) (fun d hd _ c => by
      obtain ⟨p, hp, rfl⟩ := List.mem_map.mp hd
      obtain ⟨w1, w2⟩ := okW_all l _ h p hp
      have e := pow_ok n w1 w2
      iterate 6 (first | (walk_at "rd"; done) | (try walk_at "rd"; try simp only [e]))) (by rw [List.length_map]; show _ ≤ 100000; omega)
  rw [List.filter_eq_self.mpr fun _ _ => rfl] at k1
  have z1 : cutD (l.map encW) (some 1) none = (l.drop 1).map encW := by
    have := cutD_from (l.map encW) 1
    rw [List.map_drop]
    exact this
  have s1 : mSl (oN 0) (mPart (mC (.int 1))) mNoPart [.val (.tup (l.map encW)), .no, .no, .no] = .ok (.tup ((l.drop 1).map encW)) [.val (.tup (l.map encW)), .no, .no, .no] := by
    iterate 6 (first | (walk_at "rd"; done) | (try walk_at "rd"; try simp only [dSl, z1]))
  have zi : mZip (mVar 0) (mSl (oN 0) (mPart (mC (.int 1))) mNoPart) [.val (.tup (l.map encW)), .no, .no, .no] = .ok (zipD (l.map encW) ((l.drop 1).map encW)) [.val (.tup (l.map encW)), .no, .no, .no] := by
    have v0 : mVar 0 [.val (.tup (l.map encW)), .no, .no, .no] = .ok (.tup (l.map encW)) [.val (.tup (l.map encW)), .no, .no, .no] := rfl
    unfold mZip
    rw [v0, bind_ok, s1, bind_ok]
    rfl
  have k2 := fLc_pure (vs := [2, 3]) (mi := mZip (mVar 0) (mSl (oN 0) (mPart (mC (.int 1))) mNoPart)) (mg := gmTup 2 (gmCons (setv 2) (gmCons (setv 3) gmNil))) (mt := mYes) (me := mOp2 dLt (oE (mOp2 dIx (oN 2) (oE (mC (.int 0))))) (oE (mOp2 dIx (oN 3) (oE (mC (.int 0))))))
    (ρ := [.val (.tup (l.map encW)), .no, .no, .no]) (ρ1 := [.val (.tup (l.map encW)), .no, .no, .no]) (ds := zipD (l.map encW) ((l.drop 1).map encW)) (p := fun _ => true) (g := fun _ => .bl true)
    (fun d => [.val (.tup (l.map encW)), .no, .val (fstP d), .val (sndP d)]) zi rfl (by simp) (fun d _ => ⟨rfl, rfl, rfl⟩) rfl (fun d hd c => by
      obtain ⟨p, q, rfl, _⟩ := okW_zip l _ h d hd
      rfl) (fun _ _ _ => rfl) (fun d hd _ c => by
      obtain ⟨p, q, rfl, hlt⟩ := okW_zip l _ h d hd
      have e1 : fstP (.pr [encW p, encW q]) = .tup [.str (S p.1), .int p.2] := rfl
      have e2 : sndP (.pr [encW p, encW q]) = .tup [.str (S q.1), .int q.2] := rfl
      have e3 : sless (S p.1) (S q.1) = true := decide_eq_true hlt
      rw [e1, e2]
      iterate 6 (first | (walk_at "rd"; done) | (try walk_at "rd"; try simp only [e3]))) (by have := zip_len (l.map encW) ((l.drop 1).map encW); rw [List.length_map] at this; show _ ≤ 100000; omega)
  rw [List.filter_eq_self.mpr fun _ _ => rfl] at k2
  have a1 := all_true (l.map encW)
  have a2 := all_true (zipD (l.map encW) ((l.drop 1).map encW))
  show mBody 3 (m_is_measure (run (n + 6)) (runF (n + 6))) _ = _
  unfold m_is_measure
  iterate 10 (first | (walk_at "rd"; done) | (try walk_at "rd"; try simp only [mIsi, isiB, dTru, k1, a1, k2, a2]))
theorem isM_lst (n : Nat) (l : List D) : run (n + 1) 7 [.val (.lst l)] = .ok (.bl false) [.val (.lst l)] := by
  have e0 : run (n + 1) 7 = mBody 3 (m_is_measure (run n) (runF n)) := rfl
  rw [e0]
  unfold m_is_measure
  iterate 10 (first | (walk_at "rd"; done) | (try walk_at "rd"; try simp only [mIsi, isiB, dTru]))
def oddL : List D := [.non, .int 3, .str "m", .lst [.tup [.str "m", .int 1]], .tup [.tup [.str "m", .int 0]], .tup [.tup [.str "m", .bl true]], .tup [.tup [.str "m", .int 1], .tup [.str "m", .int 2]], .tup [.tup [.str "s", .int 1], .tup [.str "m", .int 1]],
  .tup [.tup [.str "fn", .int 1]], .tup [.tup [.str "m", .int 1, .int 1]], .tup [.lst [.str "m", .int 1]], .tup [.str "m", .int 1], .tup [.tup [.int 1, .str "m"]], .tup [.tup [.str "'", .int 1]], .tup [.tup [.str "'fn", .int 1]],
  .tup [.tup [.str "m0", .int 1]], .tup [.tup [.str "M", .int 1]], .tup [.tup [.str "abcdefg", .int 1]], .tup [.tup [.str "m1234", .int 1]], .tup [.tup [.str "", .int 1]], .tup [.tup [.str "$m", .int 1]], .tup [.tup [.non, .int 1]]]
def isF0 : Out D → Bool
  | .ok (.bl false) [.val _] => true
  | _ => false
theorem odd_code : oddL.all (fun d => isF0 (run 38 7 [.val d])) = true := by decide +kernel
theorem isF0_body {nl : Nat} {ms : Mi.Env → Out Fl} {d : D} (h : isF0 (mBody nl ms [.val d]) = true) : mBody nl ms [.val d] = .ok (.bl false) [.val d] := by
  unfold mBody at h ⊢
  revert h
  cases ms ([.val d] ++ List.replicate nl .no) with
  | no => intro h; cases h
  | err x ρ =>
    intro h
    cases ρ with
    | nil => cases h
    | cons c ρ => cases h
  | ok a ρ =>
    cases a with
    | rt d' =>
      intro h
      cases ρ with
      | nil => cases h
      | cons c ρ =>
        cases d' with
        | bl b =>
          cases b with
          | false => rfl
          | true => cases h
        | _ => cases h
    | nx =>
      intro h
      cases ρ with
      | nil => cases h
      | cons c ρ => cases h
    | _ => intro h; cases h
theorem odd_each {d : D} (hd : d ∈ oddL) : run 38 7 [.val d] = .ok (.bl false) [.val d] := by
  have h := List.all_eq_true.mp odd_code d hd
  have e0 : run 38 7 = mBody 3 (m_is_measure (run 37) (runF 37)) := rfl
  rw [e0] at h ⊢
  exact isF0_body h
end Mea
set_option Elab.async false
set_option linter.all false
set_option maxRecDepth 100000
set_option maxHeartbeats 4000000
namespace Mea
open PySem L2 Wk Mi
local macro_rules | `(tactic| walk_at "rd") => `(tactic| simp only [mBody, mBodyF, fin, finF, finC, mSeq, seqK, mAsg, mAsgO, mRet, mRetN, mDrop, mNext, mIf, mTest, mTru, mAnd, mOr, mNot, mB, mAndV, mOrV, mNotV, mChain, mNil, mCons, mTup, mOp2, mUn, mSl, mPart, mNoPart, mC, mVar, oE, oN, oNil, oCons, mCB, rsv, rsvs, content, lift, setv, gmNil, gmCons, gmTup, mFrz, OD.d, mIter, walkD, mRange1, mRange2, mYes, aNil, aV, aS, aT, mCall, fCall, Mi.cellOf, cellsOf, apart, aparts, back, samePars, mPar, mAug, mRaise, mRaise0, mGet2, mSetIx, mPut, mAppend, mFor, Cell.isPar, Cell.olst, Cell.odk, Cell.put, fLst, fDk, fDict, fMove, bind_ok, bind_no, bind_err, List.cons_append, List.nil_append, List.replicate_succ, List.replicate_zero, List.getElem?_cons_zero, List.getElem?_cons_succ, List.getElem?_nil, List.set_cons_zero, List.set_cons_succ, List.length_cons, List.length_nil, List.take_succ_cons, List.take_zero, List.take_nil, Option.bind_some, Option.bind_none, Option.map_some, Option.map_none, List.all_nil, List.all_cons, Bool.and_true, Bool.true_and, Bool.and_false, Bool.false_and, Bool.not_true, Bool.not_false, decide_true, decide_false, reduceIte, Bool.false_eq_true, Bool.true_eq_false, if_true, if_false, beq_self_eq_true, Nat.reduceAdd, Nat.reduceEqDiff, Nat.reduceLeDiff, dAdd, dSub, dMulH, dMul, dDiv, dMod, dPow, dGt, dLt, dLe, dGe, dIx, ixL, dNeg, dAbs, dMax, dMin, dLen, deq_ii, deq_ss, deq_bb, dne_ii, dne_ss, dne_bb, atI_0, atI_1, atI_2, ixN_3_0, ixN_3_2, ne_eq, Int.reduceEq, Int.reduceNe, not_false_eq_true, not_true_eq_false, Int.reduceLT, Int.reduceLE, and_true, true_and, and_false, false_and, Int.reduceToNat, lim, Mi.key, fSorted, mM1, dStarts])
theorem odd_key {l : ML} {a : Cell} {X : List D} (hX : X = oddL ++ [.lst (l.map encW)]) :
    fLc [3] (mIter (mVar 2)) (setv 3) (mTest (mOp2 dIsNot (oE (mCall 1 ((run 38) 7) (aV (mVar 3) aNil))) (oE (mC (.bl false))))) (mVar 3) [a, .val (.tup (l.map encW)), .val (.lst X), .no] = .ok (.lst []) [a, .val (.tup (l.map encW)), .val (.lst X), .no] := by
  have key := fLc_pure (vs := [3]) (mi := mIter (mVar 2)) (mg := setv 3) (mt := mTest (mOp2 dIsNot (oE (mCall 1 ((run 38) 7) (aV (mVar 3) aNil))) (oE (mC (.bl false))))) (me := mVar 3)
    (ρ := [a, .val (.tup (l.map encW)), .val (.lst X), .no]) (ρ1 := [a, .val (.tup (l.map encW)), .val (.lst X), .no]) (ds := X) (p := fun _ => false) (g := fun d => d)
    (fun d => [a, .val (.tup (l.map encW)), .val (.lst X), .val d]) rfl rfl (by simp) (fun d _ => ⟨rfl, rfl, rfl⟩) rfl (fun _ _ _ => rfl) (fun d hd c => by
      have e : run 38 7 [.val d] = .ok (.bl false) [.val d] := by
        rw [hX] at hd
        rcases List.mem_append.mp hd with hd | hd
        · exact odd_each hd
        · rw [List.mem_singleton.mp hd]
          exact isM_lst 37 _
      iterate 8 (first | (walk_at "rd"; done) | (try walk_at "rd"; try simp only [e]))
      try rfl) (fun d _ h => by cases h) (by rw [hX, List.length_append]; show _ ≤ 100000; simp [oddL])
  rw [key]
  congr 2
  rw [List.filter_eq_nil_iff.mpr fun _ _ => by decide]
  rfl
theorem isM_nil (n : Nat) : run (n + 7) 7 [.val (.tup [])] = .ok (.bl true) [.val (.tup [])] := isM_ok n (l := []) trivial (by simp)
theorem odd_ok {o : OD} {l : ML} (h : OkW [] l) (hl : l.length ≤ 1000) : run 39 42 [.par o, .val (.tup (l.map encW))] = .ok (.bl true) [.par o, .val (.tup (l.map encW))] := by
  have e0 : run 39 42 = mBody 2 (m_l_odd_right (run 38) (runF 38)) := rfl
  rw [e0]
  have key := odd_key (l := l) (a := .par o) (X := oddL ++ [.lst (l.map encW)]) rfl
  have m1 := isM_ok 31 h hl
  have m2 := isM_nil 31
  have ne : dNeH (.lst []) (.lst []) = some (.bl false) := by
    have := dne_nil (l := []) (by rw [pls]) (by rw [deps]; omega)
    exact this
  have is1 : dIs (.bl true) (.bl true) = some (.bl true) := rfl
  have ls : fList (oN 1) [.par o, .val (.tup (l.map encW)), .val (.lst (oddL.take 17)), .no] = .ok (.lst (l.map encW)) [.par o, .val (.tup (l.map encW)), .val (.lst (oddL.take 17)), .no] := rfl
  unfold m_l_odd_right
  unfold oddL at key ls
  simp only [List.cons_append, List.nil_append, List.take_succ_cons, List.take_zero] at key ls
  iterate 30 (first | (walk_at "rd"; done) | (try walk_at "rd"; try simp only [ls, key, ne, m1, m2, is1]))
end Mea
set_option Elab.async false
set_option linter.all false
set_option maxRecDepth 100000
set_option maxHeartbeats 4000000
namespace Mea
open PySem L2 Wk Mi
local macro_rules | `(tactic| walk_at "rd") => `(tactic| simp only [mBody, mBodyF, fin, finF, finC, mSeq, seqK, mAsg, mAsgO, mRet, mRetN, mDrop, mNext, mIf, mTest, mTru, mAnd, mOr, mNot, mB, mAndV, mOrV, mNotV, mChain, mNil, mCons, mTup, mOp2, mUn, mSl, mPart, mNoPart, mC, mVar, oE, oN, oNil, oCons, mCB, rsv, rsvs, content, lift, setv, gmNil, gmCons, gmTup, mFrz, OD.d, mIter, walkD, mRange1, mRange2, mYes, aNil, aV, aS, aT, mCall, fCall, Mi.cellOf, cellsOf, apart, aparts, back, samePars, mPar, mAug, mRaise, mRaise0, mGet2, mSetIx, mPut, mAppend, mFor, Cell.isPar, Cell.olst, Cell.odk, Cell.put, fLst, fDk, fDict, fMove, bind_ok, bind_no, bind_err, List.cons_append, List.nil_append, List.replicate_succ, List.replicate_zero, List.getElem?_cons_zero, List.getElem?_cons_succ, List.getElem?_nil, List.set_cons_zero, List.set_cons_succ, List.length_cons, List.length_nil, List.take_succ_cons, List.take_zero, List.take_nil, Option.bind_some, Option.bind_none, Option.map_some, Option.map_none, List.all_nil, List.all_cons, Bool.and_true, Bool.true_and, Bool.and_false, Bool.false_and, Bool.not_true, Bool.not_false, decide_true, decide_false, reduceIte, Bool.false_eq_true, Bool.true_eq_false, if_true, if_false, beq_self_eq_true, Nat.reduceAdd, Nat.reduceEqDiff, Nat.reduceLeDiff, dAdd, dSub, dMulH, dMul, dDiv, dMod, dPow, dGt, dLt, dLe, dGe, dIx, ixL, dNeg, dAbs, dMax, dMin, dLen, deq_ii, deq_ss, deq_bb, dne_ii, dne_ss, dne_bb, atI_0, atI_1, atI_2, ixN_3_0, ixN_3_2, ne_eq, Int.reduceEq, Int.reduceNe, not_false_eq_true, not_true_eq_false, Int.reduceLT, Int.reduceLE, and_true, true_and, and_false, false_and, Int.reduceToNat, lim, Mi.key, fSorted, mM1, dStarts])
open PySem.NumText PySem.W.KIN PyProof.Rows
/-! ### drawn measures -/
def facL : List Str := words ++ words.map fun z => (("'" : Str) ++ z)
def wok (z : Str) : Bool := isF z.cps.toList && decide (z.cps.toList.length ≤ 8) && decide (z.cps.toList.countP isD ≤ 3) && z.cps.toList.all (fun c => decide (c < 128)) && !z.cps.toList.isEmpty
theorem facL_ok : facL.all wok = true := by decide +kernel
theorem fac_mem {z : Str} (h : fac z) : z ∈ facL := by
  obtain ⟨q, hq, w, hw, rfl⟩ := h
  unfold facL
  have hq' : q = "" ∨ q = "'" := by
    unfold quotes at hq
    simp at hq
    exact hq
  rcases hq' with rfl | rfl
  · refine List.mem_append_left _ ?_
    have : (("" : Str) ++ w) = w := Str.empty_append w
    rw [this]
    exact hw
  · exact List.mem_append_right _ (List.mem_map.mpr ⟨w, hw, rfl⟩)
structure Wok (w : List Nat) : Prop where
  f : isF w = true
  len : w.length ≤ 8
  cnt : w.countP isD ≤ 3
  asc : Asc w
  ne : w ≠ []
theorem fac_wok {z : Str} (h : fac z) : Wok z.cps.toList := by
  have := List.all_eq_true.mp facL_ok z (fac_mem h)
  unfold wok at this
  simp only [Bool.and_eq_true, decide_eq_true_eq, List.all_eq_true, Bool.not_eq_true', List.isEmpty_eq_false_iff] at this
  obtain ⟨⟨⟨⟨h1, h2⟩, h3⟩, h4⟩, h5⟩ := this
  exact ⟨h1, h2, h3, h4, h5⟩
structure GM (m : Ms) (c : Nat) : Prop where
  nd : Nd m
  st : m.Pairwise fun p q => p.1.cps.toList < q.1.cps.toList
  len : m.length ≤ c
  key : ∀ p ∈ m, fac p.1
  nz : ∀ p ∈ m, p.2 ≠ 0
  rng : ∀ p ∈ m, -1000 < p.2 ∧ p.2 < 100000
theorem ofP_st {l : Ms} (h : Nd l) : (ofP l).Pairwise fun p q => p.1.cps.toList < q.1.cps.toList := by
  unfold ofP
  rw [List.pairwise_map]
  refine List.Pairwise.filter _ ?_
  have h1 := sortS_pw (l.map (·.1))
  have h2 : (sortS (l.map (·.1))).Nodup := (sortS_perm _).nodup_iff.mpr h
  refine List.Pairwise.imp ?_ (List.pairwise_and_iff.mpr ⟨h1, h2⟩)
  intro a b hab
  obtain ⟨x1, x2⟩ := hab
  have := leS_iff.mp x1
  refine Decidable.byContradiction fun z => x2 ?_
  exact leS_anti x1 (leS_iff.mpr (List.not_lt.mp z))
theorem ofP_mem {l : Ms} {p : Str × Int} (h : p ∈ ofP l) : p.1 ∈ l.map (·.1) ∧ p.2 = lookS l p.1 ∧ p.2 ≠ 0 := by
  unfold ofP at h
  obtain ⟨k, hk, rfl⟩ := List.mem_map.mp h
  obtain ⟨h1, h2⟩ := List.mem_filter.mp hk
  exact ⟨(sortS_perm _).mem_iff.mp h1, rfl, of_decide_eq_true h2⟩
theorem look_mem {l : Ms} (h : Nd l) {p : Str × Int} (hp : p ∈ l) : lookS l p.1 = p.2 := by
  induction l with
  | nil => cases hp
  | cons q l ih =>
    have h' := List.nodup_cons.mp (show (q.1 :: l.map (·.1)).Nodup from h)
    rw [lookS_cons]
    rcases List.mem_cons.mp hp with rfl | hp
    · rw [if_pos rfl]
    · rw [if_neg (fun z => h'.1 (by rw [z]; exact List.mem_map.mpr ⟨p, hp, rfl⟩)), ih h'.2 hp]
theorem look_key {l : Ms} {k : Str} (h : k ∈ l.map (·.1)) : (k, lookS l k) ∈ l := by
  induction l with
  | nil => cases h
  | cons q l ih =>
    rw [lookS_cons]
    by_cases z : q.1 = k
    · rw [if_pos z, ← z]
      exact List.mem_cons_self ..
    · rw [if_neg z]
      rw [List.map_cons, List.mem_cons] at h
      exact List.mem_cons_of_mem _ (ih (h.elim (fun y => absurd y.symm z) id))
theorem GM.of {l : Ms} {c : Nat} (nd : Nd l) (len : l.length ≤ c) (key : ∀ k ∈ l.map (·.1), fac k) (rng : ∀ k, -1000 < lookS l k ∧ lookS l k < 100000) : GM (ofP l) c := by
  refine ⟨ofP_nd nd, ofP_st nd, Nat.le_trans (ofP_len l) len, fun p hp => ?_, fun p hp => ?_, fun p hp => ?_⟩
  · exact key _ (ofP_mem hp).1
  · exact (ofP_mem hp).2.2
  · rw [(ofP_mem hp).2.1]
    exact rng _
theorem powersL_ok : ∀ i ∈ powersL, -100 < i ∧ i < 20000 := by decide +kernel
theorem DG.look {l : Ms} {c : Nat} (h : DG l c) (k : Str) : -100 < lookS l k ∧ lookS l k < 20000 := by
  by_cases z : k ∈ l.map (·.1)
  · exact powersL_ok _ (h.all _ (look_key z)).2
  · rw [lookS_out z]
    omega
theorem DG.gm {l : Ms} {c : Nat} (h : DG l c) : GM (ofP l) c := by
  refine GM.of h.nd h.len (fun k hk => ?_) (fun k => ?_)
  · obtain ⟨p, hp, rfl⟩ := List.mem_map.mp hk
    exact (h.all p hp).1
  · have := h.look k
    omega
def toL (m : Ms) : ML := m.map fun p => (p.1.cps.toList, p.2)
theorem encM_L (m : Ms) : encM m = .tup ((toL m).map encW) := by
  unfold encM toL
  rw [List.map_map]
  congr 1
theorem okW_of : ∀ (m : Ms) (L : List Nat), m.Pairwise (fun p q => p.1.cps.toList < q.1.cps.toList) → (∀ p ∈ m, L < p.1.cps.toList) → (∀ p ∈ m, isF p.1.cps.toList = true) → (∀ p ∈ m, p.2 ≠ 0) → OkW L (toL m)
  | [], _, _, _, _, _ => trivial
  | p :: m, L, h1, h2, h3, h4 => by
    obtain ⟨a, b⟩ := List.pairwise_cons.mp h1
    exact ⟨h2 p (by simp), h3 p (by simp), h4 p (by simp), okW_of m p.1.cps.toList b a (fun q hq => h3 q (List.mem_cons_of_mem _ hq)) (fun q hq => h4 q (List.mem_cons_of_mem _ hq))⟩
theorem GM.ok {m : Ms} {c : Nat} (h : GM m c) : OkW [] (toL m) := by
  refine okW_of m [] h.st (fun p hp => ?_) (fun p hp => (fac_wok (h.key p hp)).f) h.nz
  have := (fac_wok (h.key p hp)).ne
  cases e : p.1.cps.toList with
  | nil => exact absurd e this
  | cons c w => exact List.nil_lt_cons _ _
theorem dv_low : ∀ (cs : List Nat) (a : Nat), a * 10 ^ cs.length ≤ cs.foldl (fun acc c => acc * 10 + (c - 48)) a
  | [], a => by simp
  | c :: cs, a => by
    have ih := dv_low cs (a * 10 + (c - 48))
    rw [List.foldl_cons, List.length_cons, Nat.pow_succ]
    refine Nat.le_trans ?_ ih
    rw [Nat.mul_comm (10 ^ cs.length) 10, ← Nat.mul_assoc]
    exact Nat.mul_le_mul_right _ (by omega)
theorem dec_len {cs : List Nat} {k : Nat} (h : Dec cs) (hv : digitsVal cs < 10 ^ k) : cs.length ≤ k := by
  cases cs with
  | nil => simp
  | cons c cs =>
    have hc := h.hd c rfl
    have h1 := dv_low cs (0 * 10 + (c - 48))
    have h2 : digitsVal (c :: cs) = cs.foldl (fun acc c => acc * 10 + (c - 48)) (0 * 10 + (c - 48)) := rfl
    refine Decidable.byContradiction fun z => ?_
    rw [List.length_cons] at z
    have h3 : 10 ^ k ≤ 10 ^ cs.length := Nat.pow_le_pow_right (by decide) (by omega)
    have h4 : 1 * 10 ^ cs.length ≤ (0 * 10 + (c - 48)) * 10 ^ cs.length := Nat.mul_le_mul_right _ (by omega)
    omega
theorem digs_len {m k : Nat} (h : 1 ≤ m) (hm : m < 10 ^ k) : (digs m).length ≤ k := by
  refine dec_len (digs_dec h) ?_
  have : digitsVal (digs m) = m := val_back m
  show digitsVal (digs m) < _
  omega
theorem dig_asc {cs : List Nat} (h : AllDigits cs) : Asc cs := fun c hc => by have := h c hc; omega
theorem istr_small {v : Int} (h0 : v ≠ 0) (h1 : -1000 < v) (h2 : v < 100000) : (istr v).cps.toList.length ≤ 5 ∧ Asc (istr v).cps.toList := by
  by_cases hv : 0 ≤ v
  · obtain ⟨m, rfl⟩ := Int.eq_ofNat_of_zero_le hv
    rw [istr_pos]
    exact ⟨digs_len (by omega) (by omega), dig_asc (digs_dig m)⟩
  · obtain ⟨m, hm, rfl⟩ : ∃ m : Nat, 1 ≤ m ∧ v = -(m : Int) := ⟨v.natAbs, by omega, by omega⟩
    rw [istr_negm hm, List.length_cons]
    have := digs_len (k := 3) hm (by omega)
    refine ⟨by omega, fun c hc => ?_⟩
    rcases List.mem_cons.mp hc with rfl | hc
    · omega
    · exact dig_asc (digs_dig m) c hc
theorem word_small {p : List Nat × Int} (hw : Wok p.1) (h0 : p.2 ≠ 0) (h1 : -1000 < p.2) (h2 : p.2 < 100000) : (wordL p).length ≤ 14 ∧ (wordL p).countP isD ≤ 8 ∧ Asc (wordL p) := by
  unfold wordL
  have hl := hw.len
  have hc := hw.cnt
  split
  · exact ⟨by omega, by omega, hw.asc⟩
  · obtain ⟨s1, s2⟩ := istr_small h0 h1 h2
    refine ⟨?_, ?_, ?_⟩
    · rw [List.length_append, List.length_append]
      simp only [List.length_cons, List.length_nil]
      omega
    · rw [List.countP_append, List.countP_append]
      have : [94].countP isD = 0 := by decide +kernel
      have := List.countP_le_length (p := isD) (l := (istr p.2).cps.toList)
      omega
    · exact Asc.app (Asc.app hw.asc (fun c hc => by rw [List.mem_singleton.mp hc]; omega)) s2
theorem sum_le {f : (List Nat × Int) → Nat} {b : Nat} : ∀ l : ML, (∀ p ∈ l, f p ≤ b) → (l.map f).sum ≤ b * l.length
  | [], _ => by simp
  | p :: l, h => by
    have := sum_le l fun q hq => h q (List.mem_cons_of_mem _ hq)
    have hp := h p (by simp)
    rw [List.map_cons, List.sum_cons, List.length_cons, Nat.mul_succ]
    omega
theorem GM.shw {m : Ms} (h : GM m 7) : Shw (toL m) := by
  have hl : (toL m).length ≤ 7 := by unfold toL; rw [List.length_map]; exact h.len
  have ws : ∀ p ∈ toL m, (wordL p).length ≤ 14 ∧ (wordL p).countP isD ≤ 8 ∧ Asc (wordL p) := fun p hp => by
    unfold toL at hp
    obtain ⟨q, hq, rfl⟩ := List.mem_map.mp hp
    exact word_small (fac_wok (h.key q hq)) (h.nz q hq) (h.rng q hq).1 (h.rng q hq).2
  have s1 : ((toL m).map fun p => (wordL p).length).sum ≤ 14 * (toL m).length := sum_le _ fun p hp => (ws p hp).1
  have s2 : ((toL m).map fun p => (wordL p).countP isD).sum ≤ 8 * (toL m).length := sum_le _ fun p hp => (ws p hp).2.1
  have e1 : (((toL m).map wordL).map List.length).sum = ((toL m).map fun p => (wordL p).length).sum := by rw [List.map_map]; rfl
  have e2 : cntS isD ((toL m).map wordL) = ((toL m).map fun p => (wordL p).countP isD).sum := by unfold cntS; rw [List.map_map]; rfl
  refine ⟨⟨by omega, fun p hp => ?_⟩, h.ok, fun p hp => ?_, fun c hc => ?_, ?_, ?_⟩
  · unfold toL at hp
    obtain ⟨q, hq, rfl⟩ := List.mem_map.mp hp
    have := h.rng q hq
    exact log_small (by show q.2.natAbs < _; omega) (by decide)
  · unfold toL at hp
    obtain ⟨q, hq, rfl⟩ := List.mem_map.mp hp
    exact (fac_wok (h.key q hq)).asc
  · rcases (joinL_mem _).1 hc with z | ⟨w, hw, hcw⟩
    · omega
    · obtain ⟨p, hp, rfl⟩ := List.mem_map.mp hw
      exact (ws p hp).2.2 c hcw
  · by_cases z : toL m = []
    · rw [z]
      decide
    · have := join_len (toL m) z
      unfold sumL at this
      show (joinL _).length ≤ _
      omega
  · show (joinL _).countP isD ≤ _
    rw [joinL_cnt (by decide +kernel)]
    omega
end Mea
set_option Elab.async false
set_option linter.all false
set_option maxRecDepth 100000
set_option maxHeartbeats 4000000
namespace Mea
open PySem L2 Wk Mi
local macro_rules | `(tactic| walk_at "rd") => `(tactic| simp only [mBody, mBodyF, fin, finF, finC, mSeq, seqK, mAsg, mAsgO, mRet, mRetN, mDrop, mNext, mIf, mTest, mTru, mAnd, mOr, mNot, mB, mAndV, mOrV, mNotV, mChain, mNil, mCons, mTup, mOp2, mUn, mSl, mPart, mNoPart, mC, mVar, oE, oN, oNil, oCons, mCB, rsv, rsvs, content, lift, setv, gmNil, gmCons, gmTup, mFrz, OD.d, mIter, walkD, mRange1, mRange2, mYes, aNil, aV, aS, aT, mCall, fCall, Mi.cellOf, cellsOf, apart, aparts, back, samePars, mPar, mAug, mRaise, mRaise0, mGet2, mSetIx, mPut, mAppend, mFor, Cell.isPar, Cell.olst, Cell.odk, Cell.put, fLst, fDk, fDict, fMove, bind_ok, bind_no, bind_err, List.cons_append, List.nil_append, List.replicate_succ, List.replicate_zero, List.getElem?_cons_zero, List.getElem?_cons_succ, List.getElem?_nil, List.set_cons_zero, List.set_cons_succ, List.length_cons, List.length_nil, List.take_succ_cons, List.take_zero, List.take_nil, Option.bind_some, Option.bind_none, Option.map_some, Option.map_none, List.all_nil, List.all_cons, Bool.and_true, Bool.true_and, Bool.and_false, Bool.false_and, Bool.not_true, Bool.not_false, decide_true, decide_false, reduceIte, Bool.false_eq_true, Bool.true_eq_false, if_true, if_false, beq_self_eq_true, Nat.reduceAdd, Nat.reduceEqDiff, Nat.reduceLeDiff, dAdd, dSub, dMulH, dMul, dDiv, dMod, dPow, dGt, dLt, dLe, dGe, dIx, ixL, dNeg, dAbs, dMax, dMin, dLen, deq_ii, deq_ss, deq_bb, dne_ii, dne_ss, dne_bb, atI_0, atI_1, atI_2, ixN_3_0, ixN_3_2, ne_eq, Int.reduceEq, Int.reduceNe, not_false_eq_true, not_true_eq_false, Int.reduceLT, Int.reduceLE, and_true, true_and, and_false, false_and, Int.reduceToNat, lim, Mi.key, fSorted, mM1, dStarts])
/-! ### tables -/
def KA (m : Ms) : Prop := ∀ p ∈ m, Asc p.1.cps.toList
theorem pl_M {m : Ms} (h : KA m) : pl (encM m) = true ∧ dep (encM m) ≤ 2 := by
  rw [encM_L]
  have := pls_W (toL m) fun p hp => by
    unfold toL at hp
    obtain ⟨q, hq, rfl⟩ := List.mem_map.mp hp
    exact h q hq
  refine ⟨by rw [pl]; exact this.1, by rw [dep]; have := this.2; omega⟩
theorem ne_M {m : Ms} (h : KA m) : dNeH (encM m) (encM m) = some (.bl false) := by
  obtain ⟨h1, h2⟩ := pl_M h
  exact dne_self h1 (by omega)
theorem KA.ofP {l : Ms} (h : ∀ k ∈ l.map (·.1), Asc k.cps.toList) : KA (ofP l) := fun p hp => h _ (ofP_mem hp).1
theorem foldM_keys (n : Int) : ∀ (m l : Ms) (k : Str), k ∈ (foldM n l m).map (·.1) → k ∈ l.map (·.1) ∨ k ∈ m.map (·.1)
  | [], l, k, h => .inl h
  | p :: m, l, k, h => by
    have h : k ∈ (foldM n (putM l p.1 (lookS l p.1 + n * p.2)) m).map (·.1) := h
    rcases foldM_keys n m _ k h with h | h
    · rw [putM_keys] at h
      split at h
      · exact .inl h
      · rcases List.mem_append.mp h with h | h
        · exact .inl h
        · rw [List.mem_singleton] at h
          subst h
          exact .inr (List.mem_cons_self ..)
    · exact .inr (List.mem_cons_of_mem _ h)
theorem GM.ka {m : Ms} {c : Nat} (h : GM m c) : KA m := fun p hp => (fac_wok (h.key p hp)).asc
theorem KA.keys {m : Ms} (h : KA m) : ∀ k ∈ m.map (·.1), Asc k.cps.toList := fun k hk => by
  obtain ⟨p, hp, rfl⟩ := List.mem_map.mp hk
  exact h p hp
theorem KA.fold {n : Int} {l m : Ms} (hl : KA l) (hm : KA m) : KA (Mea.ofP (foldM n l m)) := KA.ofP fun k hk => (foldM_keys n m l k hk).elim (hl.keys k) (hm.keys k)
def putT (t : Tb) (k : Str) (m : Ms) : Tb := if t.any fun p => decide (p.1 = k) then t.map fun p => if p.1 = k then (p.1, m) else p else t ++ [(k, m)]
theorem putD_tbE (t : Tb) (k : Str) (m : Ms) : putD (tbE t) (.inr k) (encM m) = tbE (putT t k m) := by
  unfold putD putT tbE
  have e : ((t.map fun p => ((Sum.inr p.1 : Key), encM p.2)).any fun kv => decide (kv.1 = Sum.inr k)) = t.any fun p => decide (p.1 = k) := by
    rw [List.any_map]
    congr 1
    funext p
    simp
  rw [e]
  split
  · rw [List.map_map, List.map_map]
    refine List.map_congr_left fun p _ => ?_
    simp only [Function.comp]
    by_cases q : p.1 = k
    · simp [q]
    · simp [q]
  · rw [List.map_append]
    rfl
/-- a table of drawn measures -/
structure TM (t : Tb) (c : Nat) : Prop where
  nd : (t.map (·.1)).Nodup
  len : t.length ≤ c
  key : ∀ p ∈ t, Asc p.1.cps.toList
  ka : ∀ p ∈ t, KA p.2
  mnd : ∀ p ∈ t, Nd p.2
  ml : ∀ p ∈ t, p.2.length ≤ 3
  rng : ∀ p ∈ t, ∀ q ∈ p.2, q.2.natAbs < 2 ^ 64
theorem putT_mem {t : Tb} {k : Str} {m : Ms} {p : Str × Ms} (h : p ∈ putT t k m) : p ∈ t ∨ p = (k, m) := by
  unfold putT at h
  split at h
  · obtain ⟨q, hq, e⟩ := List.mem_map.mp h
    split at e
    · rename_i z
      exact .inr (by rw [← e, z])
    · exact .inl (e ▸ hq)
  · rcases List.mem_append.mp h with h | h
    · exact .inl h
    · exact .inr (List.mem_singleton.mp h)
theorem TM.put {t : Tb} {c : Nat} (h : TM t c) {k : Str} {m : Ms} (hk : Asc k.cps.toList) (h1 : KA m) (h2 : Nd m) (h3 : m.length ≤ 3) (h4 : ∀ q ∈ m, q.2.natAbs < 2 ^ 64) : TM (putT t k m) (c + 1) := by
  refine ⟨?_, ?_, fun p hp => ?_, fun p hp => ?_, fun p hp => ?_, fun p hp => ?_, fun p hp => ?_⟩
  · unfold putT
    split
    · rw [List.map_map]
      have : ((fun p : Str × Ms => p.1) ∘ fun p : Str × Ms => if p.1 = k then (p.1, m) else p) = fun p => p.1 := by
        funext p
        simp only [Function.comp]
        split <;> rfl
      rw [this]
      exact h.nd
    · rename_i z
      rw [List.map_append]
      refine List.nodup_append.mpr ⟨h.nd, by simp, fun a ha b hb => ?_⟩
      have hb : b = k := by simpa using hb
      subst hb
      intro e
      subst e
      obtain ⟨p, hp, e2⟩ := List.mem_map.mp ha
      exact z (List.any_eq_true.mpr ⟨p, hp, decide_eq_true e2⟩)
  · unfold putT
    have := h.len
    split
    · rw [List.length_map]; omega
    · rw [List.length_append]; simp; omega
  · rcases putT_mem hp with z | rfl
    · exact h.key p z
    · exact hk
  · rcases putT_mem hp with z | rfl
    · exact h.ka p z
    · exact h1
  · rcases putT_mem hp with z | rfl
    · exact h.mnd p z
    · exact h2
  · rcases putT_mem hp with z | rfl
    · exact h.ml p z
    · exact h3
  · rcases putT_mem hp with z | rfl
    · exact h.rng p z
    · exact h4
theorem TM.mono {t : Tb} {c d : Nat} (h : TM t c) (l : c ≤ d) : TM t d := ⟨h.nd, Nat.le_trans h.len l, h.key, h.ka, h.mnd, h.ml, h.rng⟩
theorem TM.okb {t : Tb} {c : Nat} (h : TM t c) : Okb t := ⟨fun p hp => ⟨by have := h.ml p hp; omega, h.rng p hp⟩⟩
theorem strKeys_tbE : ∀ t : Tb, strKeys (tbE t) = some (t.map (·.1))
  | [] => rfl
  | p :: t => by
    show (strKeys (tbE t)).map (p.1 :: ·) = _
    rw [strKeys_tbE t]
    rfl
def pyT : Tb → Option (List (Key × PyData)) := fun t => pyk (tbE t)
theorem pyk_T : ∀ t : Tb, (∀ p ∈ t, KA p.2) → ∃ x : List (Key × PyData), pyk (tbE t) = some x ∧ x.map (·.1) = t.map (fun p => (Sum.inr p.1 : Key)) ∧ ∀ kd ∈ x, kd.2.canLay0 = true
  | [], _ => ⟨[], rfl, rfl, fun _ h => by cases h⟩
  | p :: t, h => by
    obtain ⟨x, h1, h2, h3⟩ := pyk_T t fun q hq => h q (List.mem_cons_of_mem _ hq)
    obtain ⟨p1, p2⟩ := pl_M (h p (by simp))
    obtain ⟨y, y1, y2, y3⟩ := py_pl _ p1
    have hs : SeqAt.shaped y = true := by
      unfold SeqAt.shaped
      rw [y2, y3, decide_eq_true (by omega)]
      rfl
    refine ⟨(.inr p.1, y) :: x, ?_, ?_, fun kd hk => ?_⟩
    · have e : tbE (p :: t) = (.inr p.1, encM p.2) :: tbE t := rfl
      rw [e]
      unfold pyk
      rw [y1, h1]
      simp only [hs, if_true]
    · rw [List.map_cons, h2]
      rfl
    · rcases List.mem_cons.mp hk with rfl | hk
      · exact y2
      · exact h3 kd hk
theorem look_self : ∀ (x : List (Key × PyData)), (x.map (·.1)).Nodup → ∀ kd ∈ x, lookD x kd.1 = some kd.2
  | [], _, _, h => by cases h
  | a :: x, hn, kd, h => by
    have h' := List.nodup_cons.mp (show (a.1 :: x.map (·.1)).Nodup from hn)
    unfold lookD
    rw [List.find?_cons]
    rcases List.mem_cons.mp h with rfl | h
    · simp
    · have hne : ¬ a.1 = kd.1 := fun z => h'.1 (by rw [z]; exact List.mem_map.mpr ⟨kd, h, rfl⟩)
      simp only [decide_eq_false hne]
      exact look_self x h'.2 kd h
theorem ne_T {t : Tb} {c : Nat} (h : TM t c) : dNeH (.dk (tbE t)) (.dk (tbE t)) = some (.bl false) := by
  obtain ⟨x, h1, h2, h3⟩ := pyk_T t h.ka
  have hn : (x.map (·.1)).Nodup := by
    rw [h2]
    have := h.nd
    have e : t.map (fun p => (Sum.inr p.1 : Key)) = (t.map (·.1)).map Sum.inr := by rw [List.map_map]; rfl
    rw [e]
    exact List.Pairwise.map _ (fun a b hab z => hab (Sum.inr.inj z)) this
  have e : eqK x x = true := by
    unfold eqK
    rw [Bool.and_eq_true]
    refine ⟨by simp, List.all_eq_true.mpr fun kd hk => ?_⟩
    rw [look_self x hn kd hk]
    exact PySem.SeqAt.eqv_refl _ (h3 kd hk)
  unfold dNeH eqH
  simp only [h1, e]
  rfl
/-! ### fillings -/
def fillG (t : Tb) (k : Str) : Ms := (lookT t k).getD [(k, 1)]
def dueP (t : Tb) (acc : Ms) (p : Str × Int) : Ms := ofP (foldM p.2 (mergeM [] acc) (fillG t p.1))
theorem step_eq {t : Tb} {c : Nat} (h : TM t c) {acc : Ms} (ha : Nd acc) (p : Str × Int) : timesP acc (fillOne t p) = dueP t acc p := by
  unfold timesP dueP
  rw [mergeM_nil ha]
  have key : ∃ X Y : Ms, fillOne t p = X ∧ fillG t p.1 = Y ∧ Nd X ∧ Nd Y ∧ ∀ k, lookS X k = p.2 * lookS Y k := by
    unfold fillOne fillG
    cases e : lookT t p.1 with
    | none =>
      refine ⟨_, _, rfl, rfl, by simp [Nd], by simp [Nd], fun k => ?_⟩
      show lookS [p] k = p.2 * lookS [(p.1, 1)] k
      rw [lookS_cons, lookS_cons, lookS_nil]
      split
      · rw [Int.mul_one]
      · rw [Int.mul_zero]
    | some m =>
      obtain ⟨q, hq, _, rfl⟩ := lookT_mem e
      have hm := h.mnd q hq
      refine ⟨_, _, rfl, rfl, ofP_nd (powM_nd _ hm), hm, fun k => ?_⟩
      show lookS (ofP (powM p.2 q.2)) k = p.2 * lookS q.2 k
      rw [look_ofP, look_powM _ hm]
  obtain ⟨X, Y, e1, e2, x1, y1, hk⟩ := key
  rw [e1, e2]
  refine ofP_ext (foldM_nd _ _ _ ha) (foldM_nd _ _ _ ha) fun k => ?_
  rw [look_foldM _ _ _ _ x1, look_foldM _ _ _ _ y1, hk k, Int.one_mul]
theorem dueP_nd {t : Tb} {acc : Ms} {p : Str × Int} (ha : Nd acc) : Nd (dueP t acc p) := by
  unfold dueP
  rw [mergeM_nil ha]
  exact ofP_nd (foldM_nd _ _ _ ha)
theorem fold_eq {t : Tb} {c : Nat} (h : TM t c) : ∀ (m acc : Ms), Nd acc → (m.map (fillOne t)).foldl timesP acc = m.foldl (dueP t) acc
  | [], acc, _ => rfl
  | p :: m, acc, ha => by
    rw [List.map_cons, List.foldl_cons, List.foldl_cons, step_eq h ha p]
    exact fold_eq h m _ (dueP_nd ha)
theorem fillG_len {t : Tb} {c : Nat} (h : TM t c) (k : Str) : (fillG t k).length ≤ 3 ∧ (∀ q ∈ fillG t k, q.2.natAbs < 2 ^ 64) ∧ (Asc k.cps.toList → KA (fillG t k)) ∧ Nd (fillG t k) := by
  unfold fillG
  cases e : lookT t k with
  | none =>
    refine ⟨by simp, fun q hq => ?_, fun ha q hq => ?_, by simp [Nd]⟩
    · have hq : q ∈ [(k, (1 : Int))] := hq
      rw [List.mem_singleton.mp hq]
      show (1 : Int).natAbs < 2 ^ 64
      decide
    · have hq : q ∈ [(k, (1 : Int))] := hq
      rw [List.mem_singleton.mp hq]
      exact ha
  | some m =>
    obtain ⟨q, hq, _, rfl⟩ := lookT_mem e
    exact ⟨h.ml q hq, h.rng q hq, fun _ => h.ka q hq, h.mnd q hq⟩
theorem dueP_len {t : Tb} {c : Nat} (h : TM t c) {acc : Ms} {p : Str × Int} : (dueP t acc p).length ≤ acc.length + 3 := by
  unfold dueP
  have h1 := ofP_len (foldM p.2 (mergeM [] acc) (fillG t p.1))
  have h2 := foldM_len p.2 (fillG t p.1) (mergeM [] acc)
  have h3 := mergeM_len acc []
  have h4 := (fillG_len h p.1).1
  simp only [List.length_nil] at h3
  omega
theorem dueP_ka {t : Tb} {c : Nat} (h : TM t c) {acc : Ms} {p : Str × Int} (ha : KA acc) (hn : Nd acc) (hp : Asc p.1.cps.toList) : KA (dueP t acc p) := by
  unfold dueP
  rw [mergeM_nil hn]
  exact KA.fold ha ((fillG_len h p.1).2.2.1 hp)
end Mea
set_option Elab.async false
set_option linter.all false
set_option maxRecDepth 100000
set_option maxHeartbeats 4000000
namespace Mea
open PySem L2 Wk Mi
local macro_rules | `(tactic| walk_at "rd") => `(tactic| simp only [mBody, mBodyF, fin, finF, finC, mSeq, seqK, mAsg, mAsgO, mRet, mRetN, mDrop, mNext, mIf, mTest, mTru, mAnd, mOr, mNot, mB, mAndV, mOrV, mNotV, mChain, mNil, mCons, mTup, mOp2, mUn, mSl, mPart, mNoPart, mC, mVar, oE, oN, oNil, oCons, mCB, rsv, rsvs, content, lift, setv, gmNil, gmCons, gmTup, mFrz, OD.d, mIter, walkD, mRange1, mRange2, mYes, aNil, aV, aS, aT, mCall, fCall, Mi.cellOf, cellsOf, apart, aparts, back, samePars, mPar, mAug, mRaise, mRaise0, mGet2, mSetIx, mPut, mAppend, mFor, Cell.isPar, Cell.olst, Cell.odk, Cell.put, fLst, fDk, fDict, fMove, bind_ok, bind_no, bind_err, List.cons_append, List.nil_append, List.replicate_succ, List.replicate_zero, List.getElem?_cons_zero, List.getElem?_cons_succ, List.getElem?_nil, List.set_cons_zero, List.set_cons_succ, List.length_cons, List.length_nil, List.take_succ_cons, List.take_zero, List.take_nil, Option.bind_some, Option.bind_none, Option.map_some, Option.map_none, List.all_nil, List.all_cons, Bool.and_true, Bool.true_and, Bool.and_false, Bool.false_and, Bool.not_true, Bool.not_false, decide_true, decide_false, reduceIte, Bool.false_eq_true, Bool.true_eq_false, if_true, if_false, beq_self_eq_true, Nat.reduceAdd, Nat.reduceEqDiff, Nat.reduceLeDiff, dAdd, dSub, dMulH, dMul, dDiv, dMod, dPow, dGt, dLt, dLe, dGe, dIx, ixL, dNeg, dAbs, dMax, dMin, dLen, deq_ii, deq_ss, deq_bb, dne_ii, dne_ss, dne_bb, atI_0, atI_1, atI_2, ixN_3_0, ixN_3_2, ne_eq, Int.reduceEq, Int.reduceNe, not_false_eq_true, not_true_eq_false, Int.reduceLT, Int.reduceLE, and_true, true_and, and_false, false_and, Int.reduceToNat, lim, Mi.key, fSorted, mM1, dStarts])
/-! ### the loops of the law -/
theorem seq_ok {A R : Mi.Env → Out Fl} {ρ ρ' : Mi.Env} (h : A ρ = .ok .nx ρ') : mSeq A R ρ = R ρ' := by
  unfold mSeq
  rw [h]
  rfl
theorem tab_loop {n k : Nat} {s q e3 e4 e5 e7 e10 e11 e12 e13 : Cell} : ∀ (l : Ms) (o : OD) (t : Tb) (c : Nat) (x y : Cell), Bx (k + 8 * l.length) o → TM t c → (∀ p ∈ t, GM p.2 2) → c + l.length ≤ 60 → (∀ p ∈ l, Asc p.1.cps.toList ∧ p.1.cps.toList ≠ [] ∧ p.1.cps.toList.length ≤ 1000) → blank x y →
    ∃ (o' : OD) (t' : Tb) (x' y' : Cell), Bx k o' ∧ TM t' (c + l.length) ∧ (∀ p ∈ t', GM p.2 2) ∧ blank x' y' ∧ forL (gmTup 2 (gmCons (setv 8) (gmCons (setv 9) gmNil))) (mIf (mAnd (mTest (mOp2 dEqH (oE (mOp2 dIx (oN 8) (oE (mC (.int 0))))) (oE (mC (.str "'"))))) (mTest (mOp2 dGt (oE (mCall 2 ((run (n + 4)) 22) (aS 2 (aV (mC (.int 3)) aNil)))) (oE (mC (.int 0)))))) (mPut 6 (mVar 8) (mCall 2 ((run (n + 4)) 26) (aS 2 (aV (mC (.int 2)) aNil)))) mNext) (l.map encP)
      [s, q, .own o, e3, e4, e5, .own (.dk (tbE t)), e7, x, y, e10, e11, e12, e13] = .ok .nx [s, q, .own o', e3, e4, e5, .own (.dk (tbE t')), e7, x', y', e10, e11, e12, e13]
  | [], o, t, c, x, y, h1, h2, h5, _, _, hb => ⟨o, t, x, y, h1, h2, h5, hb, rfl⟩
  | p :: l, o, t, c, x, y, h1, h2, h5, h3, h4, hb => by
    rw [List.length_cons] at h1 h3 ⊢
    obtain ⟨hp1, hp2, hp3⟩ := h4 p (by simp)
    have cp : (p.1.length ≤ 100000) = True := by
      have : p.1.length = p.1.cps.toList.length := by rw [Array.length_toList]; rfl
      rw [this]
      simp only [eq_iff_iff, iff_true]
      omega
    obtain ⟨ch, w, ew⟩ : ∃ ch w, p.1.cps.toList = ch :: w := by
      cases e : p.1.cps.toList with
      | nil => exact absurd e hp2
      | cons ch w => exact ⟨ch, w, rfl⟩
    have a0 : atI p.1.cps.toList 0 = some ch := by rw [ew]; exact atI_0
    have set2 : gmTup 2 (gmCons (setv 8) (gmCons (setv 9) gmNil)) (encP p) [s, q, .own o, e3, e4, e5, .own (.dk (tbE t)), e7, x, y, e10, e11, e12, e13] = some [s, q, .own o, e3, e4, e5, .own (.dk (tbE t)), e7, .val (.str p.1), .val (.int p.2), e10, e11, e12, e13] := by
      rcases hb with ⟨rfl, rfl⟩ | ⟨d, e, rfl, rfl⟩
      · rfl
      · rfl
    have tl := fun q hq => h4 q (List.mem_cons_of_mem p hq)
    have same : ∀ o1 : OD, Bx (k + 8 * l.length) o1 → (mIf (mAnd (mTest (mOp2 dEqH (oE (mOp2 dIx (oN 8) (oE (mC (.int 0))))) (oE (mC (.str "'"))))) (mTest (mOp2 dGt (oE (mCall 2 ((run (n + 4)) 22) (aS 2 (aV (mC (.int 3)) aNil)))) (oE (mC (.int 0)))))) (mPut 6 (mVar 8) (mCall 2 ((run (n + 4)) 26) (aS 2 (aV (mC (.int 2)) aNil)))) mNext) [s, q, .own o, e3, e4, e5, .own (.dk (tbE t)), e7, .val (.str p.1), .val (.int p.2), e10, e11, e12, e13] = .ok .nx [s, q, .own o1, e3, e4, e5, .own (.dk (tbE t)), e7, .val (.str p.1), .val (.int p.2), e10, e11, e12, e13] →
        ∃ (o' : OD) (t' : Tb) (x' y' : Cell), Bx k o' ∧ TM t' (c + (l.length + 1)) ∧ (∀ p ∈ t', GM p.2 2) ∧ blank x' y' ∧ forL (gmTup 2 (gmCons (setv 8) (gmCons (setv 9) gmNil))) (mIf (mAnd (mTest (mOp2 dEqH (oE (mOp2 dIx (oN 8) (oE (mC (.int 0))))) (oE (mC (.str "'"))))) (mTest (mOp2 dGt (oE (mCall 2 ((run (n + 4)) 22) (aS 2 (aV (mC (.int 3)) aNil)))) (oE (mC (.int 0)))))) (mPut 6 (mVar 8) (mCall 2 ((run (n + 4)) 26) (aS 2 (aV (mC (.int 2)) aNil)))) mNext) ((p :: l).map encP)
      [s, q, .own o, e3, e4, e5, .own (.dk (tbE t)), e7, x, y, e10, e11, e12, e13] = .ok .nx [s, q, .own o', e3, e4, e5, .own (.dk (tbE t')), e7, x', y', e10, e11, e12, e13] := by
      intro o1 b1 hbody
      obtain ⟨o', t', x', y', i1, i2, i5, i3, i4⟩ := tab_loop (n := n) (k := k) (s := s) (q := q) (e3 := e3) (e4 := e4) (e5 := e5) (e7 := e7) (e10 := e10) (e11 := e11) (e12 := e12) (e13 := e13) l o1 t c (.val (.str p.1)) (.val (.int p.2)) b1 h2 h5 (by omega) tl (.inr ⟨_, _, rfl, rfl⟩)
      refine ⟨o', t', x', y', i1, i2.mono (by omega), i5, i3, ?_⟩
      rw [← i4, List.map_cons]
      exact forL_cons set2 hbody
    have e39 : decide ((⟨#[ch]⟩ : Str) = "'") = decide (ch = 39) := by
      have := S_eq [ch] [39]
      have h : decide ([ch] = [39]) = decide (ch = 39) := by simp
      rw [h] at this
      exact this
    by_cases hq : ch = 39
    · rw [decide_eq_true hq] at e39
      obtain ⟨o1, r, b1, b2, b3, b4⟩ := take_ok (k := k + 8 * l.length + 7) (h1.mono (by omega)) (n + 3) 3 (by decide) (by decide)
      by_cases hr : 0 < r
      · have dr : decide (0 < r) = true := decide_eq_true hr
        obtain ⟨o2, lm, c1, c2, c3⟩ := measure_ok n (k + 8 * l.length) 2 (by decide) (o := o1) (b1.mono (by omega))
        have c3' : run (n + 4) 26 [.par o1, .val (.int 2)] = .ok (encM (ofP lm)) [.par o2, .val (.int 2)] := c3
        have gm := c2.gm
        have ht := h2.put (k := p.1) (m := ofP lm) hp1 gm.ka gm.nd (by have := gm.len; omega) (fun z hz => by have := gm.rng z hz; omega)
        have hg : ∀ z ∈ putT t p.1 (ofP lm), GM z.2 2 := fun z hz => by
          rcases putT_mem hz with y | rfl
          · exact h5 z y
          · exact gm
        have cl : ((tbE t).length < 100000) = True := by
          have := h2.len
          unfold tbE
          rw [List.length_map]
          simp only [eq_iff_iff, iff_true]
          omega
        obtain ⟨o', t', x', y', i1, i2, i5, i3, i4⟩ := tab_loop (n := n) (k := k) (s := s) (q := q) (e3 := e3) (e4 := e4) (e5 := e5) (e7 := e7) (e10 := e10) (e11 := e11) (e12 := e12) (e13 := e13) l o2 (putT t p.1 (ofP lm)) (c + 1) (.val (.str p.1)) (.val (.int p.2)) c1 ht hg (by omega) tl (.inr ⟨_, _, rfl, rfl⟩)
        refine ⟨o', t', x', y', i1, i2.mono (by omega), i5, i3, ?_⟩
        rw [← i4, List.map_cons]
        refine forL_cons set2 ?_
        iterate 14 (first | (walk_at "rd"; done) | (try walk_at "rd"; try simp only [a0, cp, e39, b4, dr, c3', cl, putD_tbE]))
      · have dr : decide (0 < r) = false := decide_eq_false hr
        refine same o1 (b1.mono (by omega)) ?_
        iterate 14 (first | (walk_at "rd"; done) | (try walk_at "rd"; try simp only [a0, cp, e39, b4, dr]))
    · rw [decide_eq_false hq] at e39
      refine same o (h1.mono (by omega)) ?_
      iterate 14 (first | (walk_at "rd"; done) | (try walk_at "rd"; try simp only [a0, cp, e39]))
theorem get2_tb (t : Tb) (k : Str) : (fget (tbE t) (.inr k)).getD (.tup [.tup [.str k, .int 1]]) = encM (fillG t k) := by
  rw [fget_tbE]
  unfold fillG
  cases lookT t k <;> rfl
theorem due_loop {n c : Nat} {t : Tb} (hT : TM t c) {s q e2 e3 e4 e5 e10 e11 e12 e13 : Cell} : ∀ (l acc : Ms) (x y : Cell), acc.length + 3 * l.length ≤ 60 → (∀ p ∈ l, p.2.natAbs < 2 ^ 64) → blank x y →
    ∃ (x' y' : Cell), blank x' y' ∧ forL (gmTup 2 (gmCons (setv 8) (gmCons (setv 9) gmNil))) (mAsg (mCall 3 ((run (n + 4)) 28) (aV (mVar 7) (aV (mGet2 (oN 6) (mVar 8) (mTup (mCons (mTup (mCons (mVar 8) (mCons (mC (.int 1)) mNil))) mNil))) (aV (mVar 9) aNil)))) (setv 7)) (l.map encP)
      [s, q, e2, e3, e4, e5, .own (.dk (tbE t)), .val (encM acc), x, y, e10, e11, e12, e13] = .ok .nx [s, q, e2, e3, e4, e5, .own (.dk (tbE t)), .val (encM (l.foldl (dueP t) acc)), x', y', e10, e11, e12, e13]
  | [], acc, x, y, _, _, hb => ⟨x, y, hb, rfl⟩
  | p :: l, acc, x, y, hl, hp, hb => by
    rw [List.length_cons] at hl
    have dl := dueP_len hT (acc := acc) (p := p)
    obtain ⟨x', y', i1, i2⟩ := due_loop (n := n) hT (s := s) (q := q) (e2 := e2) (e3 := e3) (e4 := e4) (e5 := e5) (e10 := e10) (e11 := e11) (e12 := e12) (e13 := e13) l (dueP t acc p) (.val (.str p.1)) (.val (.int p.2)) (by omega) (fun z hz => hp z (List.mem_cons_of_mem _ hz)) (.inr ⟨_, _, rfl, rfl⟩)
    refine ⟨x', y', i1, ?_⟩
    rw [List.map_cons, List.foldl_cons, ← i2]
    obtain ⟨g1, g2, _, g4⟩ := fillG_len hT p.1
    have pr := product_ok (n + 2) (one := acc) (other := fillG t p.1) (nn := p.2) (hp p (by simp)) g2 (by omega) (by
      have h2 := foldM_len p.2 (fillG t p.1) (mergeM [] acc)
      have h3 := mergeM_len acc []
      simp only [List.length_nil] at h3
      omega)
    have gg := get2_tb t p.1
    refine forL_cons (ρ1 := [s, q, e2, e3, e4, e5, .own (.dk (tbE t)), .val (encM acc), .val (.str p.1), .val (.int p.2), e10, e11, e12, e13]) ?_ ?_
    · rcases hb with ⟨rfl, rfl⟩ | ⟨d, e, rfl, rfl⟩
      · rfl
      · rfl
    · have ed : dueP t acc p = ofP (foldM p.2 (mergeM [] acc) (fillG t p.1)) := rfl
      rw [ed]
      iterate 10 (first | (walk_at "rd"; done) | (try walk_at "rd"; try simp only [gg, pr]))
end Mea
set_option Elab.async false
set_option linter.all false
set_option maxRecDepth 100000
set_option maxHeartbeats 4000000
namespace Mea
open PySem L2 Wk Mi
local macro_rules | `(tactic| walk_at "rd") => `(tactic| simp only [mBody, mBodyF, fin, finF, finC, mSeq, seqK, mAsg, mAsgO, mRet, mRetN, mDrop, mNext, mIf, mTest, mTru, mAnd, mOr, mNot, mB, mAndV, mOrV, mNotV, mChain, mNil, mCons, mTup, mOp2, mUn, mSl, mPart, mNoPart, mC, mVar, oE, oN, oNil, oCons, mCB, rsv, rsvs, content, lift, setv, gmNil, gmCons, gmTup, mFrz, OD.d, mIter, walkD, mRange1, mRange2, mYes, aNil, aV, aS, aT, mCall, fCall, Mi.cellOf, cellsOf, apart, aparts, back, samePars, mPar, mAug, mRaise, mRaise0, mGet2, mSetIx, mPut, mAppend, mFor, Cell.isPar, Cell.olst, Cell.odk, Cell.put, fLst, fDk, fDict, fMove, bind_ok, bind_no, bind_err, List.cons_append, List.nil_append, List.replicate_succ, List.replicate_zero, List.getElem?_cons_zero, List.getElem?_cons_succ, List.getElem?_nil, List.set_cons_zero, List.set_cons_succ, List.length_cons, List.length_nil, List.take_succ_cons, List.take_zero, List.take_nil, Option.bind_some, Option.bind_none, Option.map_some, Option.map_none, List.all_nil, List.all_cons, Bool.and_true, Bool.true_and, Bool.and_false, Bool.false_and, Bool.not_true, Bool.not_false, decide_true, decide_false, reduceIte, Bool.false_eq_true, Bool.true_eq_false, if_true, if_false, beq_self_eq_true, Nat.reduceAdd, Nat.reduceEqDiff, Nat.reduceLeDiff, dAdd, dSub, dMulH, dMul, dDiv, dMod, dPow, dGt, dLt, dLe, dGe, dIx, ixL, dNeg, dAbs, dMax, dMin, dLen, deq_ii, deq_ss, deq_bb, dne_ii, dne_ss, dne_bb, atI_0, atI_1, atI_2, ixN_3_0, ixN_3_2, ne_eq, Int.reduceEq, Int.reduceNe, not_false_eq_true, not_true_eq_false, Int.reduceLT, Int.reduceLE, and_true, true_and, and_false, false_and, Int.reduceToNat, lim, Mi.key, fSorted, mM1, dStarts])
/-! ### the parts of a turn -/
theorem gm_one {l : Ms} (h : DG l 5) {r : Int} (h0 : 0 ≤ r) (h1 : r < 2) : GM (ofP (foldM 1 (mergeM [] (ofP l)) [("'m", 1 + r), ("'s", -1)])) 7 := by
  have g := h.gm
  rw [mergeM_nil g.nd]
  have hn : Nd [(("'m" : Str), 1 + r), ("'s", -1)] := by unfold Nd; simp only [List.map_cons, List.map_nil]; decide +kernel
  refine GM.of (foldM_nd _ _ _ g.nd) ?_ (fun k hk => ?_) (fun k => ?_)
  · have h2 := foldM_len 1 [(("'m" : Str), 1 + r), ("'s", -1)] (ofP l)
    have := g.len
    simp only [List.length_cons, List.length_nil] at h2
    omega
  · rcases foldM_keys _ _ _ _ hk with hk | hk
    · obtain ⟨p, hp, rfl⟩ := List.mem_map.mp hk
      exact g.key p hp
    · simp only [List.map_cons, List.map_nil, List.mem_cons, List.not_mem_nil, or_false] at hk
      rcases hk with rfl | rfl
      · exact ⟨"'", by simp [quotes], "m", by simp [words], rfl⟩
      · exact ⟨"'", by simp [quotes], "s", by simp [words], rfl⟩
  · rw [look_foldM _ _ _ _ hn, look_ofP]
    have := h.look k
    have hk : lookS [(("'m" : Str), 1 + r), ("'s", -1)] k = 1 + r ∨ lookS [(("'m" : Str), 1 + r), ("'s", -1)] k = -1 ∨ lookS [(("'m" : Str), 1 + r), ("'s", -1)] k = 0 := by
      rw [lookS_cons, lookS_cons, lookS_nil]
      split
      · exact .inl rfl
      · split
        · exact .inr (.inl rfl)
        · exact .inr (.inr rfl)
    rcases hk with e | e | e <;> rw [e] <;> omega
theorem GM.mono {m : Ms} {c d : Nat} (h : GM m c) (l : c ≤ d) : GM m d := ⟨h.nd, h.st, Nat.le_trans h.len l, h.key, h.nz, h.rng⟩
theorem GM.abs {m : Ms} {c : Nat} (h : GM m c) : ∀ p ∈ m, p.2.natAbs < 2 ^ 64 := fun p hp => by have := h.rng p hp; omega
theorem fold_len {n : Int} {a b : Ms} : (foldM n (mergeM [] a) b).length ≤ a.length + b.length := by
  have h2 := foldM_len n b (mergeM [] a)
  have h3 := mergeM_len a []
  simp only [List.length_nil] at h3
  omega
theorem times_test (n : Nat) {a b : Ms} {c d : Nat} (ha : GM a c) (hb : GM b d) (hl : c + d < 60) : ∃ x : Ms, KA x ∧ run (n + 2) 9 [.val (encM a), .val (encM b)] = .ok (encM x) [.val (encM a), .val (encM b)] ∧ run (n + 2) 28 [.val (encM a), .val (encM b), .val (.int 1)] = .ok (encM x) [.val (encM a), .val (encM b), .val (.int 1)] := by
  have l1 := ha.len
  have l2 := hb.len
  refine ⟨ofP (foldM 1 (mergeM [] a) b), ?_, times_ok' n (by omega), product_ok n (by decide) hb.abs (by omega) (by have := fold_len (n := 1) (a := a) (b := b); omega)⟩
  rw [mergeM_nil ha.nd]
  exact KA.fold ha.ka hb.ka
theorem power_test (n : Nat) {a : Ms} {c : Nat} (ha : GM a c) (hl : c < 60) {nn : Int} (hn : nn.natAbs < 2 ^ 64) : ∃ x : Ms, KA x ∧ run (n + 2) 10 [.val (encM a), .val (.int nn)] = .ok (encM x) [.val (encM a), .val (.int nn)] ∧ run (n + 2) 28 [.val (.tup []), .val (encM a), .val (.int nn)] = .ok (encM x) [.val (.tup []), .val (encM a), .val (.int nn)] := by
  have l1 := ha.len
  have e : ofP (powM nn a) = ofP (foldM nn (mergeM [] []) a) := by
    refine ofP_ext (powM_nd _ ha.nd) (foldM_nd _ _ _ List.nodup_nil) fun k => ?_
    rw [look_powM _ ha.nd, look_foldM _ _ _ _ ha.nd]
    show _ = lookS [] k + _
    rw [lookS_nil, Int.zero_add]
  have p := product_ok n (one := []) (other := a) hn ha.abs (by simp; omega) (by have := fold_len (n := nn) (a := []) (b := a); simp only [List.length_nil] at this; omega)
  rw [← e] at p
  refine ⟨ofP (powM nn a), ?_, power_fn_ok n hn ha.abs (by omega), p⟩
  rw [e]
  exact KA.fold (fun p hp => by cases hp) ha.ka
theorem pls_strs : ∀ ks : List Str, (∀ k ∈ ks, Asc k.cps.toList) → pls (ks.map D.str) = true ∧ deps (ks.map D.str) = 0
  | [], _ => ⟨by rw [List.map_nil, pls], by rw [List.map_nil, deps]⟩
  | k :: ks, h => by
    obtain ⟨h1, h2⟩ := pls_strs ks fun q hq => h q (List.mem_cons_of_mem _ hq)
    have hk := strOk_S (h k (by simp))
    rw [S_list] at hk
    exact ⟨by rw [List.map_cons, pls, h1, pl, hk]; rfl, by rw [List.map_cons, deps, h2, dep]; rfl⟩
theorem lookT_key {t : Tb} {k : Str} (h : k ∈ t.map (·.1)) : ∃ m, lookT t k = some m := by
  obtain ⟨p, hp, rfl⟩ := List.mem_map.mp h
  unfold lookT
  cases e : t.find? fun q => decide (q.1 = p.1) with
  | some q => exact ⟨q.2, rfl⟩
  | none =>
    have := List.find?_eq_none.mp e p hp
    simp at this
theorem swap_one (n : Nat) {t : Tb} {c : Nat} (hT : TM t c) (hg : ∀ p ∈ t, GM p.2 2) {k k2 : Str} (hk : k ∈ t.map (·.1)) (hk2 : k2 ∈ t.map (·.1)) :
    ∃ m m2 : Ms, fget (tbE t) (.inr k) = some (encM m) ∧ run (n + 2) 28 [.val (encM m), .val (.tup [.tup [.str k2, .int 1]]), .val (.int 1)] = .ok (encM m2) [.val (encM m), .val (.tup [.tup [.str k2, .int 1]]), .val (.int 1)] ∧ TM (putT t k m2) (c + 1) := by
  obtain ⟨m, e⟩ := lookT_key hk
  obtain ⟨q, hq, hq1, rfl⟩ := lookT_mem e
  have g := hg q hq
  have gl := g.len
  have hka : Asc k.cps.toList := by rw [← hq1]; exact hT.key q hq
  have hka2 : Asc k2.cps.toList := by
    obtain ⟨p, hp, rfl⟩ := List.mem_map.mp hk2
    exact hT.key p hp
  have hn : Nd [(k2, (1 : Int))] := by simp [Nd]
  have fl := fold_len (n := 1) (a := q.2) (b := [(k2, 1)])
  simp only [List.length_cons, List.length_nil] at fl
  have p := product_ok n (one := q.2) (other := [(k2, 1)]) (nn := 1) (by decide) (fun z hz => by rw [List.mem_singleton.mp hz]; show (1 : Int).natAbs < 2 ^ 64; decide) (by simp; omega) (by omega)
  refine ⟨q.2, ofP (foldM 1 (mergeM [] q.2) [(k2, 1)]), by rw [fget_tbE, e]; rfl, p, ?_⟩
  rw [mergeM_nil g.nd] at fl ⊢
  refine hT.put hka (KA.fold g.ka fun z hz => ?_) (ofP_nd (foldM_nd _ _ _ g.nd)) ?_ (fun z hz => ?_)
  · rw [List.mem_singleton.mp hz]
    exact hka2
  · have := ofP_len (foldM 1 q.2 [(k2, 1)])
    omega
  · rw [(ofP_mem hz).2.1, look_foldM _ _ _ _ hn]
    have h1 : lookS [(k2, (1 : Int))] z.1 = 1 ∨ lookS [(k2, (1 : Int))] z.1 = 0 := by
      rw [lookS_cons, lookS_nil]
      split
      · exact .inl rfl
      · exact .inr rfl
    have h2 : -1000 < lookS q.2 z.1 ∧ lookS q.2 z.1 < 100000 := by
      by_cases y : z.1 ∈ q.2.map (·.1)
      · exact g.rng _ (look_key y)
      · rw [lookS_out y]
        omega
    rcases h1 with e | e <;> rw [e] <;> omega
theorem fold_ka {t : Tb} {c : Nat} (h : TM t c) : ∀ (l acc : Ms), KA acc → Nd acc → (∀ p ∈ l, Asc p.1.cps.toList) → KA (l.foldl (dueP t) acc)
  | [], acc, ha, _, _ => ha
  | p :: l, acc, ha, hn, hp => fold_ka h l _ (dueP_ka h ha hn (hp p (by simp))) (dueP_nd hn) (fun q hq => hp q (List.mem_cons_of_mem _ hq))
theorem lens_le {t : Tb} {c : Nat} (h : TM t c) : ∀ l : Ms, lens (l.map (fillOne t)) ≤ 3 * l.length
  | [] => by simp [lens]
  | p :: l => by
    have ih := lens_le h l
    have h1 : (fillOne t p).length ≤ 3 := by
      unfold fillOne
      cases e : lookT t p.1 with
      | none => simp
      | some m =>
        obtain ⟨q, hq, _, rfl⟩ := lookT_mem e
        have h2 := ofP_len (powM p.2 q.2)
        have h3 := powM_len_aux p.2 q.2 []
        have h4 := h.ml q hq
        simp only [List.length_nil] at h3
        show (ofP (powM p.2 q.2)).length ≤ 3
        unfold powM at h2 ⊢
        omega
    show (fillOne t p).length + lens (l.map (fillOne t)) ≤ _
    rw [List.length_cons]
    omega
/-- what fill_measure and the law's own loop tell -/
theorem fill_test (n : Nat) {t : Tb} {c : Nat} (hT : TM t c) {m : Ms} (hm : GM m 7) : run (n + 4) 19 [.val (encM m), .par (.dk (tbE t))] = .ok (encM (m.foldl (dueP t) [])) [.val (encM m), .par (.dk (tbE t))] := by
  have l1 := hm.len
  have l2 := lens_le hT m
  have e := fill_ok n (m := m) (t := t) hm.abs (by omega) hT.okb (by omega)
  rw [fold_eq hT m [] List.nodup_nil] at e
  exact e
end Mea
set_option Elab.async false
set_option linter.all false
set_option maxRecDepth 100000
set_option maxHeartbeats 4000000
namespace Mea
open PySem L2 Wk Mi
local macro_rules | `(tactic| walk_at "rd") => `(tactic| simp only [mBody, mBodyF, fin, finF, finC, mSeq, seqK, mAsg, mAsgO, mRet, mRetN, mDrop, mNext, mIf, mTest, mTru, mAnd, mOr, mNot, mB, mAndV, mOrV, mNotV, mChain, mNil, mCons, mTup, mOp2, mUn, mSl, mPart, mNoPart, mC, mVar, oE, oN, oNil, oCons, mCB, rsv, rsvs, content, lift, setv, gmNil, gmCons, gmTup, mFrz, OD.d, mIter, walkD, mRange1, mRange2, mYes, aNil, aV, aS, aT, mCall, fCall, Mi.cellOf, cellsOf, apart, aparts, back, samePars, mPar, mAug, mRaise, mRaise0, mGet2, mSetIx, mPut, mAppend, mFor, Cell.isPar, Cell.olst, Cell.odk, Cell.put, fLst, fDk, fDict, fMove, bind_ok, bind_no, bind_err, List.cons_append, List.nil_append, List.replicate_succ, List.replicate_zero, List.getElem?_cons_zero, List.getElem?_cons_succ, List.getElem?_nil, List.set_cons_zero, List.set_cons_succ, List.length_cons, List.length_nil, List.take_succ_cons, List.take_zero, List.take_nil, Option.bind_some, Option.bind_none, Option.map_some, Option.map_none, List.all_nil, List.all_cons, Bool.and_true, Bool.true_and, Bool.and_false, Bool.false_and, Bool.not_true, Bool.not_false, decide_true, decide_false, reduceIte, Bool.false_eq_true, Bool.true_eq_false, if_true, if_false, beq_self_eq_true, Nat.reduceAdd, Nat.reduceEqDiff, Nat.reduceLeDiff, dAdd, dSub, dMulH, dMul, dDiv, dMod, dPow, dGt, dLt, dLe, dGe, dIx, ixL, dNeg, dAbs, dMax, dMin, dLen, deq_ii, deq_ss, deq_bb, dne_ii, dne_ss, dne_bb, atI_0, atI_1, atI_2, ixN_3_0, ixN_3_2, ne_eq, Int.reduceEq, Int.reduceNe, not_false_eq_true, not_true_eq_false, Int.reduceLT, Int.reduceLE, and_true, true_and, and_false, false_and, Int.reduceToNat, lim, Mi.key, fSorted, mM1, dStarts])
/-! ### a turn of the law -/
theorem s1 {s k c2 c3 c4 c5 c6 c7 c8 c9 c10 c11 c12 c13 : Cell} {i : Int} {o : OD} (p2 : c2.isPar = false) (hc : run 39 20 [s, k] = .ok (.int i) [s, k]) (hb : runF 39 21 [.val (.int i)] = .ok o [.val (.int i)]) (hs : ∃ d, s = .val d) (hk : ∃ d, k = .val d) :
    mAsgO 2 (fCall 1 ((runF 39) 21) (aV (mCall 2 ((run 39) 20) (aV (mVar 0) (aV (mVar 1) aNil))) aNil)) [s, k, c2, c3, c4, c5, c6, c7, c8, c9, c10, c11, c12, c13] = .ok .nx [s, k, .own o, c3, c4, c5, c6, c7, c8, c9, c10, c11, c12, c13] := by
  obtain ⟨d, rfl⟩ := hs
  obtain ⟨d2, rfl⟩ := hk
  have q2 := p2
  simp only [Cell.isPar] at q2
  iterate 10 (first | (walk_at "rd"; done) | (try walk_at "rd"; try simp only [hc, hb, q2]))
theorem s2 {s k c3 c4 c5 c6 c7 c8 c9 c10 c11 c12 c13 : Cell} {o o1 o2 : OD} {a b : D} (p3 : c3.isPar = false) (p4 : c4.isPar = false) (h1 : run 39 26 [.par o, .val (.int 5)] = .ok a [.par o1, .val (.int 5)]) (h2 : run 39 26 [.par o1, .val (.int 4)] = .ok b [.par o2, .val (.int 4)]) :
    mPar 14 [3, 4] (aV (mCall 2 ((run 39) 26) (aS 2 (aV (mC (.int 5)) aNil))) (aV (mCall 2 ((run 39) 26) (aS 2 (aV (mC (.int 4)) aNil))) aNil)) [s, k, .own o, c3, c4, c5, c6, c7, c8, c9, c10, c11, c12, c13] = .ok .nx [s, k, .own o2, .val a, .val b, c5, c6, c7, c8, c9, c10, c11, c12, c13] := by
  have q3 := p3
  simp only [Cell.isPar] at q3
  have q4 := p4
  simp only [Cell.isPar] at q4
  iterate 12 (first | (walk_at "rd"; done) | (try walk_at "rd"; try simp only [h1, h2, q3, q4, parSet]))
abbrev s3S : Mi.Env → Out Fl := mIf (mTest (mOp2 dEqH (oE (mCall 2 ((run 39) 22) (aS 2 (aV (mC (.int 2)) aNil)))) (oE (mC (.int 0))))) (mAsg (mCall 3 ((run 39) 28) (aV (mVar 3) (aV (mTup (mCons (mTup (mCons (mC (.str "'m")) (mCons (mOp2 dAdd (oE (mC (.int 1))) (oE (mCall 2 ((run 39) 22) (aS 2 (aV (mC (.int 2)) aNil))))) mNil))) (mCons (mTup (mCons (mC (.str "'s")) (mCons (mUn dNeg (oE (mC (.int 1)))) mNil))) mNil))) (aV (mC (.int 1)) aNil)))) (setv 3)) mNext
theorem s3 {s k c5 c6 c7 c8 c9 c10 c11 c12 c13 b : Cell} {kk : Nat} {o : OD} {l : Ms} (h : Bx (kk + 2) o) (hl : DG l 5) :
    ∃ (o' : OD) (m : Ms), Bx kk o' ∧ GM m 7 ∧ s3S [s, k, .own o, .val (encM (ofP l)), b, c5, c6, c7, c8, c9, c10, c11, c12, c13] = .ok .nx [s, k, .own o', .val (encM m), b, c5, c6, c7, c8, c9, c10, c11, c12, c13] := by
  obtain ⟨o1, r, b1, b2, b3, b4⟩ := take_ok (k := kk + 1) h 38 2 (by decide) (by decide)
  by_cases hr : r = 0
  · have dr : decide (r = 0) = true := decide_eq_true hr
    obtain ⟨o2, r2, d1, d2, d3, d4⟩ := take_ok (k := kk) b1 38 2 (by decide) (by decide)
    have g := hl.gm
    have gl := g.len
    have fl := fold_len (n := 1) (a := ofP l) (b := [("'m", 1 + r2), ("'s", -1)])
    simp only [List.length_cons, List.length_nil] at fl
    have pr := product_ok 37 (one := ofP l) (other := [("'m", 1 + r2), ("'s", -1)]) (nn := 1) (by decide) (fun z hz => by
      rcases List.mem_cons.mp hz with rfl | hz
      · show (1 + r2).natAbs < 2 ^ 64
        omega
      · rw [List.mem_singleton.mp hz]
        show (-1 : Int).natAbs < 2 ^ 64
        decide) (by simp only [List.length_cons, List.length_nil]; omega) (by omega)
    have en : encM [("'m", 1 + r2), ("'s", -1)] = .tup [.tup [.str "'m", .int (1 + r2)], .tup [.str "'s", .int (-1)]] := rfl
    rw [en] at pr
    refine ⟨o2, _, d1, gm_one hl d2 d3, ?_⟩
    iterate 12 (first | (walk_at "rd"; done) | (try walk_at "rd"; try simp only [b4, dr, d4, pr]))
  · have dr : decide (r = 0) = false := decide_eq_false hr
    refine ⟨o1, ofP l, b1.mono (by omega), hl.gm.mono (by omega), ?_⟩
    iterate 12 (first | (walk_at "rd"; done) | (try walk_at "rd"; try simp only [b4, dr]))
def nsL : List Int := [0, 1, -1, 2, -3, 50]
theorem s4 {s k c3 c4 c5 c6 c7 c8 c9 c10 c11 c12 c13 : Cell} {kk : Nat} {o : OD} (h : Bx (kk + 1) o) (p5 : c5.isPar = false) :
    ∃ (o' : OD) (nn : Int), Bx kk o' ∧ nn.natAbs < 2 ^ 64 ∧ mAsg (mOp2 dIx (oE (mFrz (fLst (mCons (mC (.int 0)) (mCons (mC (.int 1)) (mCons (mUn dNeg (oE (mC (.int 1)))) (mCons (mC (.int 2)) (mCons (mUn dNeg (oE (mC (.int 3)))) (mCons (mC (.int 50)) mNil))))))))) (oE (mCall 2 ((run 39) 22) (aS 2 (aV (mC (.int 6)) aNil))))) (setv 5) [s, k, .own o, c3, c4, c5, c6, c7, c8, c9, c10, c11, c12, c13] = .ok .nx [s, k, .own o', c3, c4, .val (.int nn), c6, c7, c8, c9, c10, c11, c12, c13] := by
  obtain ⟨o1, r, b1, b2, b3, b4⟩ := take_ok (k := kk) h 38 6 (by decide) (by decide)
  obtain ⟨d, hd, e⟩ := atI_lt (l := nsL.map D.int) b2 (by simpa [nsL] using b3)
  obtain ⟨z, hz, rfl⟩ := List.mem_map.mp hd
  have hz' : ∀ z ∈ nsL, z.natAbs < 2 ^ 64 := by decide +kernel
  have q5 := p5
  simp only [Cell.isPar] at q5
  simp only [nsL, List.map_cons, List.map_nil] at e
  refine ⟨o1, z, b1, hz' z hz, ?_⟩
  iterate 12 (first | (walk_at "rd"; done) | (try walk_at "rd"; try simp only [b4, e, q5]))
theorem s5 {s k e2 c6 c7 c8 c9 c10 c11 c12 c13 : Cell} {a b : Ms} {c d : Nat} {nn : Int} (ha : GM a c) (hb : GM b d) (hl : c + d < 60) (hn : nn.natAbs < 2 ^ 64) :
    mIf (mOr (mTest (mOp2 dNeH (oE (mCall 2 ((run 39) 9) (aV (mVar 3) (aV (mVar 4) aNil)))) (oE (mCall 3 ((run 39) 28) (aV (mVar 3) (aV (mVar 4) (aV (mC (.int 1)) aNil))))))) (mTest (mOp2 dNeH (oE (mCall 2 ((run 39) 10) (aV (mVar 3) (aV (mVar 5) aNil)))) (oE (mCall 3 ((run 39) 28) (aV (mTup mNil) (aV (mVar 3) (aV (mVar 5) aNil)))))))) (mRet (mC (.bl false))) mNext [s, k, e2, .val (encM a), .val (encM b), .val (.int nn), c6, c7, c8, c9, c10, c11, c12, c13] = .ok .nx [s, k, e2, .val (encM a), .val (encM b), .val (.int nn), c6, c7, c8, c9, c10, c11, c12, c13] := by
  obtain ⟨x, x1, x2, x3⟩ := times_test 37 ha hb hl
  obtain ⟨y, y1, y2, y3⟩ := power_test 37 ha (by omega) hn
  have nx := ne_M x1
  have ny := ne_M y1
  iterate 12 (first | (walk_at "rd"; done) | (try walk_at "rd"; try simp only [x2, x3, y2, y3, nx, ny]))
theorem s6 {s k e2 c3 c4 c5 c6 c7 c8 c9 c10 c11 c12 c13 : Cell} (p6 : c6.isPar = false) (p7 : c7.isPar = false) :
    mPar 14 [6, 7] (aT fDk (aV (mTup mNil) aNil)) [s, k, e2, c3, c4, c5, c6, c7, c8, c9, c10, c11, c12, c13] = .ok .nx [s, k, e2, c3, c4, c5, .own (.dk []), .val (.tup []), c8, c9, c10, c11, c12, c13] := by
  have h6 : c6 = .no ∨ (∃ d, c6 = .val d) ∨ (∃ o, c6 = .own o) ∨ c6 = .pin := by cases c6 <;> first | exact .inl rfl | exact .inr (.inl ⟨_, rfl⟩) | exact .inr (.inr (.inl ⟨_, rfl⟩)) | exact .inr (.inr (.inr rfl)) | cases p6
  have h7 : c7 = .no ∨ (∃ d, c7 = .val d) ∨ (∃ o, c7 = .own o) ∨ c7 = .pin := by cases c7 <;> first | exact .inl rfl | exact .inr (.inl ⟨_, rfl⟩) | exact .inr (.inr (.inl ⟨_, rfl⟩)) | exact .inr (.inr (.inr rfl)) | cases p7
  rcases h6 with rfl | ⟨d, rfl⟩ | ⟨o, rfl⟩ | rfl <;> rcases h7 with rfl | ⟨d7, rfl⟩ | ⟨o7, rfl⟩ | rfl <;> rfl
theorem s8 {s k e2 c3 c4 c5 c7 c8 c9 c10 c11 c12 c13 : Cell} {t : Tb} {c : Nat} (hT : TM t c) (hc : c < 64) (p10 : c10.isPar = false) :
    mAsg (mFrz (fSorted (oN 6))) (setv 10) [s, k, e2, c3, c4, c5, .own (.dk (tbE t)), c7, c8, c9, c10, c11, c12, c13] = .ok .nx [s, k, e2, c3, c4, c5, .own (.dk (tbE t)), c7, c8, c9, .val (.lst ((sortS (t.map (·.1))).map D.str)), c11, c12, c13] := by
  have h1 := strKeys_tbE t
  have h2 : ((t.map (·.1)).length < 64) = True := by have := hT.len; rw [List.length_map]; simp only [eq_iff_iff, iff_true]; omega
  have q10 := p10
  simp only [Cell.isPar] at q10
  iterate 12 (first | (walk_at "rd"; done) | (try walk_at "rd"; try simp only [h1, h2, q10]))
abbrev s9S : Mi.Env → Out Fl := (mIf (mAnd (mTest (mOp2 dNeH (oN 10) (oE (mFrz (fLst mNil))))) (mTest (mOp2 dGt (oE (mCall 2 ((run 39) 22) (aS 2 (aV (mC (.int 3)) aNil)))) (oE (mC (.int 0)))))) (mSeq (mPar 14 [11, 12] (aV (mOp2 dIx (oN 10) (oE (mCall 2 ((run 39) 22) (aS 2 (aV (mCB dLen (oCons (oN 10) oNil)) aNil))))) (aV (mOp2 dIx (oN 10) (oE (mCall 2 ((run 39) 22) (aS 2 (aV (mCB dLen (oCons (oN 10) oNil)) aNil))))) aNil)))
  (mPut 6 (mVar 11) (mCall 3 ((run 39) 28) (aV (mOp2 dIx (oN 6) (oN 11)) (aV (mTup (mCons (mTup (mCons (mVar 12) (mCons (mC (.int 1)) mNil))) mNil)) (aV (mC (.int 1)) aNil)))))) mNext)
theorem s9 {s k c3 c4 c5 c7 c8 c9 c11 c12 c13 : Cell} {kk : Nat} {o : OD} {t : Tb} {c : Nat} (h : Bx (kk + 3) o) (hT : TM t c) (hc : c < 60) (hg : ∀ p ∈ t, GM p.2 2) (p11 : c11.isPar = false) (p12 : c12.isPar = false) :
    ∃ (o' : OD) (t' : Tb) (c11' c12' : Cell), Bx kk o' ∧ TM t' (c + 1) ∧ c11'.isPar = false ∧ c12'.isPar = false ∧ s9S [s, k, .own o, c3, c4, c5, .own (.dk (tbE t)), c7, c8, c9, .val (.lst ((sortS (t.map (·.1))).map D.str)), c11, c12, c13] = .ok .nx [s, k, .own o', c3, c4, c5, .own (.dk (tbE t')), c7, c8, c9, .val (.lst ((sortS (t.map (·.1))).map D.str)), c11', c12', c13] := by
  have ks : ∀ z ∈ sortS (t.map (·.1)), Asc z.cps.toList := fun z hz => by
    have := (sortS_perm _).mem_iff.mp hz
    obtain ⟨p, hp, rfl⟩ := List.mem_map.mp this
    exact hT.key p hp
  obtain ⟨g1, g2⟩ := pls_strs _ ks
  have ne := dne_nil g1 (by rw [g2]; omega)
  have hlen : (sortS (t.map (·.1))).length = t.length := by rw [(sortS_perm _).length_eq, List.length_map]
  have q11 := p11
  simp only [Cell.isPar] at q11
  have q12 := p12
  simp only [Cell.isPar] at q12
  by_cases z : t = []
  · have em : ((sortS (t.map (·.1))).map D.str).isEmpty = true := by rw [z]; rfl
    rw [em] at ne
    refine ⟨o, t, c11, c12, h.mono (by omega), hT.mono (by omega), p11, p12, ?_⟩
    iterate 12 (first | (walk_at "rd"; done) | (try walk_at "rd"; try simp only [ne]))
  · have em : ((sortS (t.map (·.1))).map D.str).isEmpty = false := by
      cases e : sortS (t.map (·.1)) with
      | nil =>
        rw [e] at hlen
        cases t with
        | nil => exact absurd rfl z
        | cons p t => simp at hlen
      | cons a l => rfl
    rw [em] at ne
    obtain ⟨o1, r, b1, b2, b3, b4⟩ := take_ok (k := kk + 2) h 38 3 (by decide) (by decide)
    by_cases hr : 0 < r
    · have dr : decide (0 < r) = true := decide_eq_true hr
      have tl : 1 ≤ t.length := by
        cases t with
        | nil => exact absurd rfl z
        | cons p t => simp
      have hl := hT.len
      obtain ⟨o2, r2, d1, d2, d3, d4⟩ := take_ok (k := kk + 1) b1 38 (t.length : Nat) (by omega) (by omega)
      obtain ⟨o3, r3, f1, f2, f3, f4⟩ := take_ok (k := kk) d1 38 (t.length : Nat) (by omega) (by omega)
      have ln : ((((sortS (t.map (·.1))).map D.str).length : Nat) : Int) = (t.length : Int) := by rw [List.length_map, hlen]
      obtain ⟨x, hx, ex⟩ := atI_lt (l := (sortS (t.map (·.1))).map D.str) d2 (by rw [List.length_map, hlen]; exact d3)
      obtain ⟨y, hy, ey⟩ := atI_lt (l := (sortS (t.map (·.1))).map D.str) f2 (by rw [List.length_map, hlen]; exact f3)
      obtain ⟨kx, hkx, rfl⟩ := List.mem_map.mp hx
      obtain ⟨ky, hky, rfl⟩ := List.mem_map.mp hy
      obtain ⟨m, m2, w1, w2, w3⟩ := swap_one 37 hT hg ((sortS_perm _).mem_iff.mp hkx) ((sortS_perm _).mem_iff.mp hky)
      have cl : ((tbE t).length < 100000) = True := by
        unfold tbE
        rw [List.length_map]
        simp only [eq_iff_iff, iff_true]
        omega
      refine ⟨o3, putT t kx m2, .val (.str kx), .val (.str ky), f1, w3, rfl, rfl, ?_⟩
      generalize hN : (sortS (t.map (·.1))).map D.str = N at *
      iterate 24 (first | (walk_at "rd"; done) | (try walk_at "rd"; try simp only [ne, b4, dr, ln, d4, ex, f4, ey, q11, q12, parSet, w1, w2, cl, putD_tbE]))
    · have dr : decide (0 < r) = false := decide_eq_false hr
      refine ⟨o1, t, c11, c12, b1.mono (by omega), hT.mono (by omega), p11, p12, ?_⟩
      iterate 12 (first | (walk_at "rd"; done) | (try walk_at "rd"; try simp only [ne, b4, dr]))
theorem s11 {s k e2 c3 c4 c5 c7 c8 c9 c10 c11 c12 c13 : Cell} {t : Tb} (p13 : c13.isPar = false) :
    mAsg (mFrz (fDict (oN 6))) (setv 13) [s, k, e2, c3, c4, c5, .own (.dk (tbE t)), c7, c8, c9, c10, c11, c12, c13] = .ok .nx [s, k, e2, c3, c4, c5, .own (.dk (tbE t)), c7, c8, c9, c10, c11, c12, .val (.dk (tbE t))] := by
  have q := p13
  simp only [Cell.isPar] at q
  iterate 12 (first | (walk_at "rd"; done) | (try walk_at "rd"; try simp only [q]))
theorem s12 {s k e2 c4 c5 c8 c9 c10 c11 c12 : Cell} {t : Tb} {c : Nat} (hT : TM t c) {m : Ms} (hm : GM m 7) :
    mIf (mOr (mTest (mOp2 dNeH (oE (mCall 2 ((run 39) 19) (aV (mVar 3) (aS 6 aNil)))) (oN 7))) (mTest (mOp2 dNeH (oN 6) (oN 13)))) (mRet (mC (.bl false))) mNext [s, k, e2, .val (encM m), c4, c5, .own (.dk (tbE t)), .val (encM (m.foldl (dueP t) [])), c8, c9, c10, c11, c12, .val (.dk (tbE t))] = .ok .nx [s, k, e2, .val (encM m), c4, c5, .own (.dk (tbE t)), .val (encM (m.foldl (dueP t) [])), c8, c9, c10, c11, c12, .val (.dk (tbE t))] := by
  have f := fill_test 35 hT hm
  have n1 := ne_M (fold_ka hT m [] (fun p hp => by cases hp) List.nodup_nil (fun p hp => hm.ka p hp))
  have n2 := ne_T hT
  iterate 12 (first | (walk_at "rd"; done) | (try walk_at "rd"; try simp only [f, n1, n2]))
theorem s13 {s k c5 c6 c7 c8 c9 c10 c11 c12 c13 : Cell} {kk : Nat} {o : OD} (h : Bx (kk + 12) o) {m other : Ms} (hm : GM m 7) (ho : GM other 4) :
    ∃ o', mIf (mOr (mNot (mTru (oE (mCall 2 ((run 39) 41) (aS 2 (aV (mVar 3) aNil)))))) (mNot (mTru (oE (mCall 2 ((run 39) 42) (aS 2 (aV (mVar 4) aNil))))))) (mRet (mC (.bl false))) mNext [s, k, .own o, .val (encM m), .val (encM other), c5, c6, c7, c8, c9, c10, c11, c12, c13] = .ok .nx [s, k, .own o', .val (encM m), .val (encM other), c5, c6, c7, c8, c9, c10, c11, c12, c13] := by
  obtain ⟨o', h1, h2⟩ := right_ok 21 kk h hm.shw
  have h3 := odd_ok (o := o') ho.ok (by have := ho.len; unfold toL; rw [List.length_map]; omega)
  rw [← encM_L] at h2 h3
  refine ⟨o', ?_⟩
  iterate 12 (first | (walk_at "rd"; done) | (try walk_at "rd"; try simp only [h2, h3, dTru]))
end Mea
set_option Elab.async false
set_option linter.all false
set_option maxRecDepth 100000
set_option maxHeartbeats 4000000
namespace Mea
open PySem L2 Wk Mi
local macro_rules | `(tactic| walk_at "rd") => `(tactic| simp only [mBody, mBodyF, fin, finF, finC, mSeq, seqK, mAsg, mAsgO, mRet, mRetN, mDrop, mNext, mIf, mTest, mTru, mAnd, mOr, mNot, mB, mAndV, mOrV, mNotV, mChain, mNil, mCons, mTup, mOp2, mUn, mSl, mPart, mNoPart, mC, mVar, oE, oN, oNil, oCons, mCB, rsv, rsvs, content, lift, setv, gmNil, gmCons, gmTup, mFrz, OD.d, mIter, walkD, mRange1, mRange2, mYes, aNil, aV, aS, aT, mCall, fCall, Mi.cellOf, cellsOf, apart, aparts, back, samePars, mPar, mAug, mRaise, mRaise0, mGet2, mSetIx, mPut, mAppend, mFor, Cell.isPar, Cell.olst, Cell.odk, Cell.put, fLst, fDk, fDict, fMove, bind_ok, bind_no, bind_err, List.cons_append, List.nil_append, List.replicate_succ, List.replicate_zero, List.getElem?_cons_zero, List.getElem?_cons_succ, List.getElem?_nil, List.set_cons_zero, List.set_cons_succ, List.length_cons, List.length_nil, List.take_succ_cons, List.take_zero, List.take_nil, Option.bind_some, Option.bind_none, Option.map_some, Option.map_none, List.all_nil, List.all_cons, Bool.and_true, Bool.true_and, Bool.and_false, Bool.false_and, Bool.not_true, Bool.not_false, decide_true, decide_false, reduceIte, Bool.false_eq_true, Bool.true_eq_false, if_true, if_false, beq_self_eq_true, Nat.reduceAdd, Nat.reduceEqDiff, Nat.reduceLeDiff, dAdd, dSub, dMulH, dMul, dDiv, dMod, dPow, dGt, dLt, dLe, dGe, dIx, ixL, dNeg, dAbs, dMax, dMin, dLen, deq_ii, deq_ss, deq_bb, dne_ii, dne_ss, dne_bb, atI_0, atI_1, atI_2, ixN_3_0, ixN_3_2, ne_eq, Int.reduceEq, Int.reduceNe, not_false_eq_true, not_true_eq_false, Int.reduceLT, Int.reduceLE, and_true, true_and, and_false, false_and, Int.reduceToNat, lim, Mi.key, fSorted, mM1, dStarts])
/-! ### the law -/
abbrev lawB : Mi.Env → Out Fl := (mSeq (mAsgO 2 (fCall 1 ((runF 39) 21) (aV (mCall 2 ((run 39) 20) (aV (mVar 0) (aV (mVar 1) aNil))) aNil)))
  (mSeq (mPar 14 [3, 4] (aV (mCall 2 ((run 39) 26) (aS 2 (aV (mC (.int 5)) aNil))) (aV (mCall 2 ((run 39) 26) (aS 2 (aV (mC (.int 4)) aNil))) aNil)))
  (mSeq (mIf (mTest (mOp2 dEqH (oE (mCall 2 ((run 39) 22) (aS 2 (aV (mC (.int 2)) aNil)))) (oE (mC (.int 0))))) (mAsg (mCall 3 ((run 39) 28) (aV (mVar 3) (aV (mTup (mCons (mTup (mCons (mC (.str "'m")) (mCons (mOp2 dAdd (oE (mC (.int 1))) (oE (mCall 2 ((run 39) 22) (aS 2 (aV (mC (.int 2)) aNil))))) mNil))) (mCons (mTup (mCons (mC (.str "'s")) (mCons (mUn dNeg (oE (mC (.int 1)))) mNil))) mNil))) (aV (mC (.int 1)) aNil)))) (setv 3)) mNext)
  (mSeq (mAsg (mOp2 dIx (oE (mFrz (fLst (mCons (mC (.int 0)) (mCons (mC (.int 1)) (mCons (mUn dNeg (oE (mC (.int 1)))) (mCons (mC (.int 2)) (mCons (mUn dNeg (oE (mC (.int 3)))) (mCons (mC (.int 50)) mNil))))))))) (oE (mCall 2 ((run 39) 22) (aS 2 (aV (mC (.int 6)) aNil))))) (setv 5))
  (mSeq (mIf (mOr (mTest (mOp2 dNeH (oE (mCall 2 ((run 39) 9) (aV (mVar 3) (aV (mVar 4) aNil)))) (oE (mCall 3 ((run 39) 28) (aV (mVar 3) (aV (mVar 4) (aV (mC (.int 1)) aNil))))))) (mTest (mOp2 dNeH (oE (mCall 2 ((run 39) 10) (aV (mVar 3) (aV (mVar 5) aNil)))) (oE (mCall 3 ((run 39) 28) (aV (mTup mNil) (aV (mVar 3) (aV (mVar 5) aNil)))))))) (mRet (mC (.bl false))) mNext)
  (mSeq (mPar 14 [6, 7] (aT fDk (aV (mTup mNil) aNil)))
  (mSeq (mFor (mIter (mOp2 dAdd (oN 3) (oE (mTup (mCons (mTup (mCons (mC (.str "'zzz")) (mCons (mC (.int 1)) mNil))) mNil))))) (gmTup 2 (gmCons (setv 8) (gmCons (setv 9) gmNil))) (mIf (mAnd (mTest (mOp2 dEqH (oE (mOp2 dIx (oN 8) (oE (mC (.int 0))))) (oE (mC (.str "'"))))) (mTest (mOp2 dGt (oE (mCall 2 ((run 39) 22) (aS 2 (aV (mC (.int 3)) aNil)))) (oE (mC (.int 0)))))) (mPut 6 (mVar 8) (mCall 2 ((run 39) 26) (aS 2 (aV (mC (.int 2)) aNil)))) mNext))
  (mSeq (mAsg (mFrz (fSorted (oN 6))) (setv 10))
  (mSeq (mIf (mAnd (mTest (mOp2 dNeH (oN 10) (oE (mFrz (fLst mNil))))) (mTest (mOp2 dGt (oE (mCall 2 ((run 39) 22) (aS 2 (aV (mC (.int 3)) aNil)))) (oE (mC (.int 0)))))) (mSeq (mPar 14 [11, 12] (aV (mOp2 dIx (oN 10) (oE (mCall 2 ((run 39) 22) (aS 2 (aV (mCB dLen (oCons (oN 10) oNil)) aNil))))) (aV (mOp2 dIx (oN 10) (oE (mCall 2 ((run 39) 22) (aS 2 (aV (mCB dLen (oCons (oN 10) oNil)) aNil))))) aNil)))
  (mPut 6 (mVar 11) (mCall 3 ((run 39) 28) (aV (mOp2 dIx (oN 6) (oN 11)) (aV (mTup (mCons (mTup (mCons (mVar 12) (mCons (mC (.int 1)) mNil))) mNil)) (aV (mC (.int 1)) aNil)))))) mNext)
  (mSeq (mFor (mIter (mVar 3)) (gmTup 2 (gmCons (setv 8) (gmCons (setv 9) gmNil))) (mAsg (mCall 3 ((run 39) 28) (aV (mVar 7) (aV (mGet2 (oN 6) (mVar 8) (mTup (mCons (mTup (mCons (mVar 8) (mCons (mC (.int 1)) mNil))) mNil))) (aV (mVar 9) aNil)))) (setv 7)))
  (mSeq (mAsg (mFrz (fDict (oN 6))) (setv 13))
  (mSeq (mIf (mOr (mTest (mOp2 dNeH (oE (mCall 2 ((run 39) 19) (aV (mVar 3) (aS 6 aNil)))) (oN 7))) (mTest (mOp2 dNeH (oN 6) (oN 13)))) (mRet (mC (.bl false))) mNext)
  (mIf (mOr (mNot (mTru (oE (mCall 2 ((run 39) 41) (aS 2 (aV (mVar 3) aNil)))))) (mNot (mTru (oE (mCall 2 ((run 39) 42) (aS 2 (aV (mVar 4) aNil))))))) (mRet (mC (.bl false))) mNext)))))))))))))
theorem law_turn (ns : List Int) (k : Nat) (hk : k < 100) {c2 c3 c4 c5 c6 c7 c8 c9 c10 c11 c12 c13 : Cell} (p2 : c2.isPar = false) (p3 : c3.isPar = false) (p4 : c4.isPar = false) (p5 : c5.isPar = false) (p6 : c6.isPar = false) (p7 : c7.isPar = false) (hb : blank c8 c9) (p10 : c10.isPar = false) (p11 : c11.isPar = false) (p12 : c12.isPar = false) (p13 : c13.isPar = false) :
    ∃ (d2 d3 d4 d5 d6 d7 d8 d9 d10 d11 d12 d13 : Cell), d2.isPar = false ∧ d3.isPar = false ∧ d4.isPar = false ∧ d5.isPar = false ∧ d6.isPar = false ∧ d7.isPar = false ∧ blank d8 d9 ∧ d10.isPar = false ∧ d11.isPar = false ∧ d12.isPar = false ∧ d13.isPar = false ∧
      lawB [scr ns, .val (.int (k : Nat)), c2, c3, c4, c5, c6, c7, c8, c9, c10, c11, c12, c13] = .ok .nx [scr ns, .val (.int (k : Nat)), d2, d3, d4, d5, d6, d7, d8, d9, d10, d11, d12, d13] := by
  obtain ⟨i, hc⟩ := cell_ok 38 ns k hk
  obtain ⟨o, bo, hbx⟩ := box_ok 38 i
  obtain ⟨o1, l1, b1, g1, e1⟩ := measure_ok 35 500 5 (by decide) (o := o) (bo.mono (by decide))
  obtain ⟨o2, l2, b2, g2, e2⟩ := measure_ok 35 400 4 (by decide) (o := o1) (b1.mono (by decide))
  have e1' : run 39 26 [.par o, .val (.int 5)] = .ok (encM (ofP l1)) [.par o1, .val (.int 5)] := e1
  have e2' : run 39 26 [.par o1, .val (.int 4)] = .ok (encM (ofP l2)) [.par o2, .val (.int 4)] := e2
  have S1 := s1 (s := scr ns) (k := .val (.int (k : Nat))) (c3 := c3) (c4 := c4) (c5 := c5) (c6 := c6) (c7 := c7) (c8 := c8) (c9 := c9) (c10 := c10) (c11 := c11) (c12 := c12) (c13 := c13) p2 hc hbx ⟨_, rfl⟩ ⟨_, rfl⟩
  have S2 := s2 (s := scr ns) (k := .val (.int (k : Nat))) (c5 := c5) (c6 := c6) (c7 := c7) (c8 := c8) (c9 := c9) (c10 := c10) (c11 := c11) (c12 := c12) (c13 := c13) p3 p4 e1' e2'
  obtain ⟨o3, one, b3, g3, S3⟩ := s3 (s := scr ns) (k := .val (.int (k : Nat))) (b := .val (encM (ofP l2))) (c5 := c5) (c6 := c6) (c7 := c7) (c8 := c8) (c9 := c9) (c10 := c10) (c11 := c11) (c12 := c12) (c13 := c13) (kk := 398) (b2.mono (by decide)) g1
  obtain ⟨o4, nn, b4, hn, S4⟩ := s4 (s := scr ns) (k := .val (.int (k : Nat))) (c3 := .val (encM one)) (c4 := .val (encM (ofP l2))) (c5 := c5) (c6 := c6) (c7 := c7) (c8 := c8) (c9 := c9) (c10 := c10) (c11 := c11) (c12 := c12) (c13 := c13) (kk := 397) b3 p5
  have S5 := s5 (s := scr ns) (k := .val (.int (k : Nat))) (e2 := .own o4) (c6 := c6) (c7 := c7) (c8 := c8) (c9 := c9) (c10 := c10) (c11 := c11) (c12 := c12) (c13 := c13) g3 g2.gm (by decide) hn
  have S6 := s6 (s := scr ns) (k := .val (.int (k : Nat))) (e2 := .own o4) (c3 := .val (encM one)) (c4 := .val (encM (ofP l2))) (c5 := .val (.int nn)) (c8 := c8) (c9 := c9) (c10 := c10) (c11 := c11) (c12 := c12) (c13 := c13) p6 p7
  have l7 := g3.len
  have zz : Asc ("'zzz" : Str).cps.toList ∧ ("'zzz" : Str).cps.toList ≠ [] ∧ ("'zzz" : Str).cps.toList.length ≤ 1000 := by
    have e : ("'zzz" : Str).cps.toList = [39, 122, 122, 122] := by decide +kernel
    rw [e]
    exact ⟨by unfold Asc; decide, by decide, by decide⟩
  obtain ⟨o5, t, x8, x9, b5, T1, G1, hb', L1⟩ := tab_loop (n := 35) (k := 300) (s := scr ns) (q := .val (.int (k : Nat))) (e3 := .val (encM one)) (e4 := .val (encM (ofP l2))) (e5 := .val (.int nn)) (e7 := .val (.tup [])) (e10 := c10) (e11 := c11) (e12 := c12) (e13 := c13) (one ++ [((("'zzz" : Str)), (1 : Int))]) o4 [] 0 c8 c9
    (b4.mono (by rw [List.length_append]; simp only [List.length_cons, List.length_nil]; omega)) ⟨by simp, by simp, by simp, by simp, by simp, by simp, by simp⟩ (by simp) (by rw [List.length_append]; simp only [List.length_cons, List.length_nil]; omega)
    (fun p hp => by
      rcases List.mem_append.mp hp with hp | hp
      · have w := fac_wok (g3.key p hp)
        exact ⟨w.asc, w.ne, by have := w.len; omega⟩
      · rw [List.mem_singleton.mp hp]
        exact zz) hb
  rw [List.length_append, Nat.zero_add] at T1
  have T1 := T1.mono (d := 8) (by simp only [List.length_cons, List.length_nil]; omega)
  have S8 := s8 (s := scr ns) (k := .val (.int (k : Nat))) (e2 := .own o5) (c3 := .val (encM one)) (c4 := .val (encM (ofP l2))) (c5 := .val (.int nn)) (c7 := .val (.tup [])) (c8 := x8) (c9 := x9) (c11 := c11) (c12 := c12) (c13 := c13) T1 (by decide) p10
  obtain ⟨o6, t2, d11, d12, b6, T2, q11, q12, S9⟩ := s9 (s := scr ns) (k := .val (.int (k : Nat))) (c3 := .val (encM one)) (c4 := .val (encM (ofP l2))) (c5 := .val (.int nn)) (c7 := .val (.tup [])) (c8 := x8) (c9 := x9) (c13 := c13) (kk := 200) (b5.mono (by decide)) T1 (by decide) G1 p11 p12
  obtain ⟨y8, y9, hb2, L2⟩ := due_loop (n := 35) T2 (s := scr ns) (q := .val (.int (k : Nat))) (e2 := .own o6) (e3 := .val (encM one)) (e4 := .val (encM (ofP l2))) (e5 := .val (.int nn)) (e10 := .val (.lst ((sortS (t.map (·.1))).map D.str))) (e11 := d11) (e12 := d12) (e13 := c13) one [] x8 x9 (by simp only [List.length_nil]; omega) g3.abs hb'
  have S11 := s11 (s := scr ns) (k := .val (.int (k : Nat))) (e2 := .own o6) (c3 := .val (encM one)) (c4 := .val (encM (ofP l2))) (c5 := .val (.int nn)) (c7 := .val (encM (one.foldl (dueP t2) []))) (c8 := y8) (c9 := y9) (c10 := .val (.lst ((sortS (t.map (·.1))).map D.str))) (c11 := d11) (c12 := d12) (t := t2) p13
  have S12 := s12 (s := scr ns) (k := .val (.int (k : Nat))) (e2 := .own o6) (c4 := .val (encM (ofP l2))) (c5 := .val (.int nn)) (c8 := y8) (c9 := y9) (c10 := .val (.lst ((sortS (t.map (·.1))).map D.str))) (c11 := d11) (c12 := d12) T2 g3
  obtain ⟨o7, S13⟩ := s13 (s := scr ns) (k := .val (.int (k : Nat))) (c5 := .val (.int nn)) (c6 := .own (.dk (tbE t2))) (c7 := .val (encM (one.foldl (dueP t2) []))) (c8 := y8) (c9 := y9) (c10 := .val (.lst ((sortS (t.map (·.1))).map D.str))) (c11 := d11) (c12 := d12) (c13 := .val (.dk (tbE t2))) (kk := 100) (b6.mono (by decide)) g3 g2.gm
  refine ⟨.own o7, .val (encM one), .val (encM (ofP l2)), .val (.int nn), .own (.dk (tbE t2)), .val (encM (one.foldl (dueP t2) [])), y8, y9, .val (.lst ((sortS (t.map (·.1))).map D.str)), d11, d12, .val (.dk (tbE t2)), rfl, rfl, rfl, rfl, rfl, rfl, hb2, rfl, q11, q12, rfl, ?_⟩
  have it : mIter (mOp2 dAdd (oN 3) (oE (mTup (mCons (mTup (mCons (mC (.str "'zzz")) (mCons (mC (.int 1)) mNil))) mNil)))) [scr ns, .val (.int (k : Nat)), .own o4, .val (encM one), .val (encM (ofP l2)), .val (.int nn), .own (.dk []), .val (.tup []), c8, c9, c10, c11, c12, c13] = .ok ((one ++ [((("'zzz" : Str)), (1 : Int))]).map encP) [scr ns, .val (.int (k : Nat)), .own o4, .val (encM one), .val (encM (ofP l2)), .val (.int nn), .own (.dk []), .val (.tup []), c8, c9, c10, c11, c12, c13] := by
    have cl : ((one.map encP).length ≤ 99999) = True := by rw [List.length_map]; simp only [eq_iff_iff, iff_true]; omega
    have em : (one ++ [(("'zzz" : Str), (1 : Int))]).map encP = one.map encP ++ [.tup [.str "'zzz", .int 1]] := by rw [List.map_append]; rfl
    rw [em]
    unfold encM
    iterate 12 (first | (walk_at "rd"; done) | (try walk_at "rd"; try simp only [cl]))
  have F1 : mFor (mIter (mOp2 dAdd (oN 3) (oE (mTup (mCons (mTup (mCons (mC (.str "'zzz")) (mCons (mC (.int 1)) mNil))) mNil))))) (gmTup 2 (gmCons (setv 8) (gmCons (setv 9) gmNil))) (mIf (mAnd (mTest (mOp2 dEqH (oE (mOp2 dIx (oN 8) (oE (mC (.int 0))))) (oE (mC (.str "'"))))) (mTest (mOp2 dGt (oE (mCall 2 ((run 39) 22) (aS 2 (aV (mC (.int 3)) aNil)))) (oE (mC (.int 0)))))) (mPut 6 (mVar 8) (mCall 2 ((run 39) 26) (aS 2 (aV (mC (.int 2)) aNil)))) mNext) [scr ns, .val (.int (k : Nat)), .own o4, .val (encM one), .val (encM (ofP l2)), .val (.int nn), .own (.dk []), .val (.tup []), c8, c9, c10, c11, c12, c13] = .ok .nx [scr ns, .val (.int (k : Nat)), .own o5, .val (encM one), .val (encM (ofP l2)), .val (.int nn), .own (.dk (tbE t)), .val (.tup []), x8, x9, c10, c11, c12, c13] := by
    unfold mFor
    rw [it, bind_ok]
    exact L1
  have F2 : mFor (mIter (mVar 3)) (gmTup 2 (gmCons (setv 8) (gmCons (setv 9) gmNil))) (mAsg (mCall 3 ((run 39) 28) (aV (mVar 7) (aV (mGet2 (oN 6) (mVar 8) (mTup (mCons (mTup (mCons (mVar 8) (mCons (mC (.int 1)) mNil))) mNil))) (aV (mVar 9) aNil)))) (setv 7)) [scr ns, .val (.int (k : Nat)), .own o6, .val (encM one), .val (encM (ofP l2)), .val (.int nn), .own (.dk (tbE t2)), .val (.tup []), x8, x9, .val (.lst ((sortS (t.map (·.1))).map D.str)), d11, d12, c13] = .ok .nx [scr ns, .val (.int (k : Nat)), .own o6, .val (encM one), .val (encM (ofP l2)), .val (.int nn), .own (.dk (tbE t2)), .val (encM (one.foldl (dueP t2) [])), y8, y9, .val (.lst ((sortS (t.map (·.1))).map D.str)), d11, d12, c13] := by
    have it2 : mIter (mVar 3) [scr ns, .val (.int (k : Nat)), .own o6, .val (encM one), .val (encM (ofP l2)), .val (.int nn), .own (.dk (tbE t2)), .val (.tup []), x8, x9, .val (.lst ((sortS (t.map (·.1))).map D.str)), d11, d12, c13] = .ok (one.map encP) [scr ns, .val (.int (k : Nat)), .own o6, .val (encM one), .val (encM (ofP l2)), .val (.int nn), .own (.dk (tbE t2)), .val (.tup []), x8, x9, .val (.lst ((sortS (t.map (·.1))).map D.str)), d11, d12, c13] := rfl
    unfold mFor
    rw [it2, bind_ok]
    exact L2
  unfold lawB
  rw [seq_ok S1, seq_ok S2, seq_ok S3, seq_ok S4, seq_ok S5, seq_ok S6, seq_ok F1, seq_ok S8, seq_ok S9, seq_ok F2, seq_ok S11, seq_ok S12]
  exact S13
theorem law_loop (ns : List Int) : ∀ (js : List Nat) (c1 c2 c3 c4 c5 c6 c7 c8 c9 c10 c11 c12 c13 : Cell), (∀ j ∈ js, j < 100) → c1.isPar = false → c2.isPar = false → c3.isPar = false → c4.isPar = false → c5.isPar = false → c6.isPar = false → c7.isPar = false → blank c8 c9 → c10.isPar = false → c11.isPar = false → c12.isPar = false → c13.isPar = false →
    ∃ (ρ : List Cell), forL (setv 1) lawB (js.map fun j => .int ((0 : Int) + (j : Nat))) [scr ns, c1, c2, c3, c4, c5, c6, c7, c8, c9, c10, c11, c12, c13] = .ok .nx (scr ns :: ρ)
  | [], c1, c2, c3, c4, c5, c6, c7, c8, c9, c10, c11, c12, c13, _, _, _, _, _, _, _, _, _, _, _, _, _ => ⟨_, rfl⟩
  | j :: js, c1, c2, c3, c4, c5, c6, c7, c8, c9, c10, c11, c12, c13, hj, p1, p2, p3, p4, p5, p6, p7, hb, p10, p11, p12, p13 => by
    obtain ⟨d2, d3, d4, d5, d6, d7, d8, d9, d10, d11, d12, d13, q2, q3, q4, q5, q6, q7, qb, q10, q11, q12, q13, e⟩ := law_turn ns j (hj j (by simp)) p2 p3 p4 p5 p6 p7 hb p10 p11 p12 p13
    obtain ⟨ρ, ih⟩ := law_loop ns js (.val (.int (j : Nat))) d2 d3 d4 d5 d6 d7 d8 d9 d10 d11 d12 d13 (fun i hi => hj i (List.mem_cons_of_mem _ hi)) rfl q2 q3 q4 q5 q6 q7 qb q10 q11 q12 q13
    refine ⟨ρ, ?_⟩
    rw [List.map_cons, ← ih, Int.zero_add]
    refine forL_cons ?_ e
    unfold setv
    show (if c1.isPar = true then _ else _) = _
    rw [p1]
    rfl
theorem fact : ∀ ns : List Int, ns.length ≤ 63 → ∃ cs, run 40 43 [scr ns] = .ok (.bl true) cs := by
  intro ns hl
  have e0 : run 40 43 = mBody 13 (m_law (run 39) (runF 39)) := rfl
  rw [e0]
  obtain ⟨K, hK, rg⟩ : ∃ K : Nat, K ≤ 50 ∧ mRange1 (mCB dMax (oCons (oE (mC (.int 2))) (oCons (oE (mCB dMin (oCons (oE (mC (.int 5))) (oCons (oE (mCB dLen (oCons (oN 0) oNil))) oNil)))) oNil))) [scr ns, .no, .no, .no, .no, .no, .no, .no, .no, .no, .no, .no, .no, .no] = .ok (rngD 0 K) [scr ns, .no, .no, .no, .no, .no, .no, .no, .no, .no, .no, .no, .no, .no] := by
    have hln : ((ns.map D.int).length : Int) = (ns.length : Int) := by rw [List.length_map]
    refine ⟨(if (if (ns.length : Int) < 5 then (ns.length : Int) else 5) > 2 then (if (ns.length : Int) < 5 then (ns.length : Int) else 5) else 2).toNat, ?_, ?_⟩
    · split <;> split <;> omega
    · refine rng_at ?_ ?_
      · have hc : (((if (if (ns.length : Int) < 5 then (ns.length : Int) else 5) > 2 then (if (ns.length : Int) < 5 then (ns.length : Int) else 5) else 2).toNat : Nat) : Int) = if (if (ns.length : Int) < 5 then (ns.length : Int) else 5) > 2 then (if (ns.length : Int) < 5 then (ns.length : Int) else 5) else 2 := by
          split <;> split <;> omega
        rw [hc]
        unfold scr
        iterate 12 (first | (walk_at "rd"; done) | (try walk_at "rd"; try simp only [hln]))
      · split <;> split <;> omega
  obtain ⟨ρ, lp⟩ := law_loop ns (List.range K) .no .no .no .no .no .no .no .no .no .no .no .no .no (fun j hj => by have := List.mem_range.mp hj; omega) rfl rfl rfl rfl rfl rfl rfl (.inl ⟨rfl, rfl⟩) rfl rfl rfl rfl
  refine ⟨[scr ns], ?_⟩
  unfold m_law mBody
  have ei : ([scr ns] ++ List.replicate 13 Cell.no : Mi.Env) = [scr ns, .no, .no, .no, .no, .no, .no, .no, .no, .no, .no, .no, .no, .no] := rfl
  rw [ei, seq_for, rg, bind_ok]
  have lp' : forL (setv 1) lawB (rngD 0 K) [scr ns, .no, .no, .no, .no, .no, .no, .no, .no, .no, .no, .no, .no, .no] = .ok .nx (scr ns :: ρ) := lp
  rw [lp']
  rfl
end Mea
set_option Elab.async false
set_option linter.all false
set_option maxRecDepth 100000
set_option maxHeartbeats 4000000
open PySem PySem.W PyProof.Rows in
set_option maxRecDepth 100000 in
set_option maxHeartbeats 0 in
theorem PySem.Challenge.cw_widestkind_k03_measures_holds : PySem.Challenge.rw_widestkind_k03_measures.Holds := by
  w_on; o_law; k_head; (case hw => w_witness2)
  k_fill
  refine Wk.walk_ofG (l := PySem.Challenge.rw_widestkind_k03_measures) (n := 63) (k := 42) (x := "_law_script") (CX := fun w => L2.CX (PySem.Challenge.rw_widestkind_k03_measures).prog w) (sp := fun w => Mi.sp_law _) rfl (by decide) rfl ⟨rfl, by decide, by decide⟩ (fun w h Y => PySem.W.kIn_of Y) ?F (fun _ _ a ns hl _ hS => Mi.sp_law_end hl hS) (fun _ _ _ _ _ h => Mi.cx_end h)
  case F =>
    intro w mg fa h KX G hmg
    refine' Mea.law_end Mea.fact (l := PySem.Challenge.rw_widestkind_k03_measures) (w := w) G hmg (Mea.txt_mk KX G ?kb ?e_BadText ?F_BadText_init ?n_BadText_at ?h_is_integer ?h_letters_of ?h_is_begun_word ?h_is_word ?h_is_kind_name ?h_is_factor ?h_is_power ?h_is_measure ?h_measure_of ?h_times ?h_power ?h_product ?h_measure_text ?h_is_begun ?h_last_one ?h_may_follow ?h_read_factor ?h_read_power ?h_read_measure ?h_fill_measure ?h_l_cell ?h_l_box ?h_l_take ?h_l_word ?h_l_factor ?h_l_power ?h_l_measure ?h_l_of ?h_l_product ?h_l_shown ?h_l_is_word ?h_l_small ?h_l_is_factor ?h_l_next ?h_l_can_follow ?h_l_more ?h_l_begun ?h_l_goes_on ?h_l_power_end ?h_l_told ?h_l_spoiled ?h_l_texts_right ?h_l_odd_right ?h_law ?g_LETTERS ?g_DIGITS ?g_MOST_LETTERS ?g_MOST_DIGITS ?g_OWN_WORDS ?q_OWN_WORDS ?z_abs ?z_all ?z_bool ?z_dict ?z_int ?z_isinstance ?z_len ?z_list ?z_max ?z_min ?z_range ?z_sorted ?z_str ?z_tuple ?z_zip)
    (case kb => refine' Wk.kb_mk KX G ?a1 ?a2 ?a3 ?a4; (case a1 => k_is); (case a2 => k_is); (case a3 => k_is); (case a4 => k_is))
    (case e_BadText => refine' Wk.exc_mk KX G ?a1 ?a2 ?a3 ?a4 ?a5 ?a6 ?a7 ?a8 ?a9 ?b1 ?b2 ?b3 ?b4 ?b5; (case a1 => k_is); (case a2 => k_is); (case a3 => decide +kernel); (case a4 => k_is); (case a5 => k_is); (case a6 => k_is); (case a7 => k_is); (case a8 => k_is); (case a9 => k_is); (case b1 => k_is); (case b2 => k_is); (case b3 => k_is); (case b4 => k_is); (case b5 => first | rfl | k_is))
    (case F_BadText_init => refine' L2.fun_mk ?a1 ?a2 ?a3; (case a1 => k_is); (case a2 => k_is); (case a3 => k_is))
    (case n_BadText_at => k_is)
    (case h_is_integer => refine' Wk.fn_here KX G ?a1 ?a2 ?a3 ?a4; (case a1 => k_is); (case a2 => k_is); (case a3 => k_is); (case a4 => k_is))
    (case h_letters_of => refine' Wk.fn_here KX G ?a1 ?a2 ?a3 ?a4; (case a1 => k_is); (case a2 => k_is); (case a3 => k_is); (case a4 => k_is))
    (case h_is_begun_word => refine' Wk.fn_here KX G ?a1 ?a2 ?a3 ?a4; (case a1 => k_is); (case a2 => k_is); (case a3 => k_is); (case a4 => k_is))
    (case h_is_word => refine' Wk.fn_here KX G ?a1 ?a2 ?a3 ?a4; (case a1 => k_is); (case a2 => k_is); (case a3 => k_is); (case a4 => k_is))
    (case h_is_kind_name => refine' Wk.fn_here KX G ?a1 ?a2 ?a3 ?a4; (case a1 => k_is); (case a2 => k_is); (case a3 => k_is); (case a4 => k_is))
    (case h_is_factor => refine' Wk.fn_here KX G ?a1 ?a2 ?a3 ?a4; (case a1 => k_is); (case a2 => k_is); (case a3 => k_is); (case a4 => k_is))
    (case h_is_power => refine' Wk.fn_here KX G ?a1 ?a2 ?a3 ?a4; (case a1 => k_is); (case a2 => k_is); (case a3 => k_is); (case a4 => k_is))
    (case h_is_measure => refine' Wk.fn_here KX G ?a1 ?a2 ?a3 ?a4; (case a1 => k_is); (case a2 => k_is); (case a3 => k_is); (case a4 => k_is))
    (case h_measure_of => refine' Wk.fn_here KX G ?a1 ?a2 ?a3 ?a4; (case a1 => k_is); (case a2 => k_is); (case a3 => k_is); (case a4 => k_is))
    (case h_times => refine' Wk.fn_here KX G ?a1 ?a2 ?a3 ?a4; (case a1 => k_is); (case a2 => k_is); (case a3 => k_is); (case a4 => k_is))
    (case h_power => refine' Wk.fn_here KX G ?a1 ?a2 ?a3 ?a4; (case a1 => k_is); (case a2 => k_is); (case a3 => k_is); (case a4 => k_is))
    (case h_product => refine' Wk.fn_here KX G ?a1 ?a2 ?a3 ?a4; (case a1 => k_is); (case a2 => k_is); (case a3 => k_is); (case a4 => k_is))
    (case h_measure_text => refine' Wk.fn_here KX G ?a1 ?a2 ?a3 ?a4; (case a1 => k_is); (case a2 => k_is); (case a3 => k_is); (case a4 => k_is))
    (case h_is_begun => refine' Wk.fn_here KX G ?a1 ?a2 ?a3 ?a4; (case a1 => k_is); (case a2 => k_is); (case a3 => k_is); (case a4 => k_is))
    (case h_last_one => refine' Wk.fn_here KX G ?a1 ?a2 ?a3 ?a4; (case a1 => k_is); (case a2 => k_is); (case a3 => k_is); (case a4 => k_is))
    (case h_may_follow => refine' Wk.fn_here KX G ?a1 ?a2 ?a3 ?a4; (case a1 => k_is); (case a2 => k_is); (case a3 => k_is); (case a4 => k_is))
    (case h_read_factor => refine' Wk.fn_here KX G ?a1 ?a2 ?a3 ?a4; (case a1 => k_is); (case a2 => k_is); (case a3 => k_is); (case a4 => k_is))
    (case h_read_power => refine' Wk.fn_here KX G ?a1 ?a2 ?a3 ?a4; (case a1 => k_is); (case a2 => k_is); (case a3 => k_is); (case a4 => k_is))
    (case h_read_measure => refine' Wk.fn_here KX G ?a1 ?a2 ?a3 ?a4; (case a1 => k_is); (case a2 => k_is); (case a3 => k_is); (case a4 => k_is))
    (case h_fill_measure => refine' Wk.fn_here KX G ?a1 ?a2 ?a3 ?a4; (case a1 => k_is); (case a2 => k_is); (case a3 => k_is); (case a4 => k_is))
    (case h_l_cell => refine' Wk.fn_here KX G ?a1 ?a2 ?a3 ?a4; (case a1 => k_is); (case a2 => k_is); (case a3 => k_is); (case a4 => k_is))
    (case h_l_box => refine' Wk.fn_here KX G ?a1 ?a2 ?a3 ?a4; (case a1 => k_is); (case a2 => k_is); (case a3 => k_is); (case a4 => k_is))
    (case h_l_take => refine' Wk.fn_here KX G ?a1 ?a2 ?a3 ?a4; (case a1 => k_is); (case a2 => k_is); (case a3 => k_is); (case a4 => k_is))
    (case h_l_word => refine' Wk.fn_here KX G ?a1 ?a2 ?a3 ?a4; (case a1 => k_is); (case a2 => k_is); (case a3 => k_is); (case a4 => k_is))
    (case h_l_factor => refine' Wk.fn_here KX G ?a1 ?a2 ?a3 ?a4; (case a1 => k_is); (case a2 => k_is); (case a3 => k_is); (case a4 => k_is))
    (case h_l_power => refine' Wk.fn_here KX G ?a1 ?a2 ?a3 ?a4; (case a1 => k_is); (case a2 => k_is); (case a3 => k_is); (case a4 => k_is))
    (case h_l_measure => refine' Wk.fn_here KX G ?a1 ?a2 ?a3 ?a4; (case a1 => k_is); (case a2 => k_is); (case a3 => k_is); (case a4 => k_is))
    (case h_l_of => refine' Wk.fn_here KX G ?a1 ?a2 ?a3 ?a4; (case a1 => k_is); (case a2 => k_is); (case a3 => k_is); (case a4 => k_is))
    (case h_l_product => refine' Wk.fn_here KX G ?a1 ?a2 ?a3 ?a4; (case a1 => k_is); (case a2 => k_is); (case a3 => k_is); (case a4 => k_is))
    (case h_l_shown => refine' Wk.fn_here KX G ?a1 ?a2 ?a3 ?a4; (case a1 => k_is); (case a2 => k_is); (case a3 => k_is); (case a4 => k_is))
    (case h_l_is_word => refine' Wk.fn_here KX G ?a1 ?a2 ?a3 ?a4; (case a1 => k_is); (case a2 => k_is); (case a3 => k_is); (case a4 => k_is))
    (case h_l_small => refine' Wk.fn_here KX G ?a1 ?a2 ?a3 ?a4; (case a1 => k_is); (case a2 => k_is); (case a3 => k_is); (case a4 => k_is))
    (case h_l_is_factor => refine' Wk.fn_here KX G ?a1 ?a2 ?a3 ?a4; (case a1 => k_is); (case a2 => k_is); (case a3 => k_is); (case a4 => k_is))
    (case h_l_next => refine' Wk.fn_here KX G ?a1 ?a2 ?a3 ?a4; (case a1 => k_is); (case a2 => k_is); (case a3 => k_is); (case a4 => k_is))
    (case h_l_can_follow => refine' Wk.fn_here KX G ?a1 ?a2 ?a3 ?a4; (case a1 => k_is); (case a2 => k_is); (case a3 => k_is); (case a4 => k_is))
    (case h_l_more => refine' Wk.fn_here KX G ?a1 ?a2 ?a3 ?a4; (case a1 => k_is); (case a2 => k_is); (case a3 => k_is); (case a4 => k_is))
    (case h_l_begun => refine' Wk.fn_here KX G ?a1 ?a2 ?a3 ?a4; (case a1 => k_is); (case a2 => k_is); (case a3 => k_is); (case a4 => k_is))
    (case h_l_goes_on => refine' Wk.fn_here KX G ?a1 ?a2 ?a3 ?a4; (case a1 => k_is); (case a2 => k_is); (case a3 => k_is); (case a4 => k_is))
    (case h_l_power_end => refine' Wk.fn_here KX G ?a1 ?a2 ?a3 ?a4; (case a1 => k_is); (case a2 => k_is); (case a3 => k_is); (case a4 => k_is))
    (case h_l_told => refine' Wk.fn_here KX G ?a1 ?a2 ?a3 ?a4; (case a1 => k_is); (case a2 => k_is); (case a3 => k_is); (case a4 => k_is))
    (case h_l_spoiled => refine' Wk.fn_here KX G ?a1 ?a2 ?a3 ?a4; (case a1 => k_is); (case a2 => k_is); (case a3 => k_is); (case a4 => k_is))
    (case h_l_texts_right => refine' Wk.fn_here KX G ?a1 ?a2 ?a3 ?a4; (case a1 => k_is); (case a2 => k_is); (case a3 => k_is); (case a4 => k_is))
    (case h_l_odd_right => refine' Wk.fn_here KX G ?a1 ?a2 ?a3 ?a4; (case a1 => k_is); (case a2 => k_is); (case a3 => k_is); (case a4 => k_is))
    (case h_law => refine' Wk.fn_here KX G ?a1 ?a2 ?a3 ?a4; (case a1 => k_is); (case a2 => k_is); (case a3 => k_is); (case a4 => k_is))
    (case g_LETTERS => k_is)
    (case g_DIGITS => k_is)
    (case g_MOST_LETTERS => k_is)
    (case g_MOST_DIGITS => k_is)
    (case g_OWN_WORDS => k_is)
    (case q_OWN_WORDS => refine' Wk.sqT_mk ?a1 ?a2 ?a3; (case a1 => k_is); (case a2 => decide +kernel); (case a3 => exact .cons ⟨_, rfl⟩ (.cons ⟨_, rfl⟩ (.cons ⟨_, rfl⟩ (.cons ⟨_, rfl⟩ (.cons ⟨_, rfl⟩ (.cons ⟨_, rfl⟩ (.cons ⟨_, rfl⟩ (.cons ⟨_, rfl⟩ (.nil))))))))))
    (case z_abs => k_is)
    (case z_all => k_is)
    (case z_bool => k_is)
    (case z_dict => k_is)
    (case z_int => k_is)
    (case z_isinstance => k_is)
    (case z_len => k_is)
    (case z_list => k_is)
    (case z_max => k_is)
    (case z_min => k_is)
    (case z_range => k_is)
    (case z_sorted => k_is)
    (case z_str => k_is)
    (case z_tuple => k_is)
    (case z_zip => k_is)
