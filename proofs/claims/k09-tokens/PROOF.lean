import PyProof.Rows.All
import Wide.All
import OpenK.AllK
import Wide.FinOn
import HandS.ForMost
import HandS.ForExc
import HandS.ExcInit
import HandS.ExcField
import HandS.IsInst
import HandS.Style
import HandS.Walk
import PySem.Challenge.RW_widestkind_k09_tokens
set_option Elab.async false
set_option linter.all false
set_option maxRecDepth 100000
set_option maxHeartbeats 4000000
/-! Shared by the proofs over this package: KindError.__init__(self, ..) in an exception's own __init__. -/
namespace Wk
open PySem L2
/-- what the top says of the base class of the package's exceptions -/
structure KBase (K : PySem.W.Frag) (mg : Str → Option Value) (CK : Addr) : Prop where
  mgK : mg "KindError" = some (.ref CK)
  rd : PySem.W.readsIn K CK (.type "type") = true
  ga : PySem.W.specialIn K (.ref CK) "__getattribute__" = some (some (.builtin "type.__getattribute__"))
  fv : PySem.W.findCls K (.ref CK) (.type "type") "__init__" = some (.val (.builtin "ValueError.__init__"))
section
variable {X : Cx} {e : Expr} {es : List Expr} {ta : TA} {p1 p2 pos : Pos} {CK : Addr}
theorem pe_kinit {pl : Sem Bool} (B : KBase X.K X.mg CK) (ha : PA X (e :: es) ta) (hg : Gl X "KindError" := by rfl)
    (hc : eval (.Call (.Attribute (.Name "KindError" p1) "__init__" p2) (e :: es) [] pos) X.env = (do
      let ov ← eval (.Name "KindError" p1) X.env
      standAt p2.atName
      let (f, first) ← holding [ov] (getMethod ov "__init__" pl)
      callWith pos f first (backTo pos (starEach (e :: es) X.env)) (backToKw pos (keywordEach [] X.env))) := by rfl)
    (he : starEach (e :: es) X.env = (false, eval e X.env) :: starEach es X.env := by rfl)
    (hpl : (backTo pos (starEach es X.env)).any (·.1) = false := by rfl) :
    PE X (.Call (.Attribute (.Name "KindError" p1) "__init__" p2) (e :: es) [] pos) (tVeI X.K ta) := by
  refine ⟨fun pins s σ H Q I h => ?_⟩
  refine PySem.W.methodCall_KW (ld_glob I hg B.mgK ?_) hc
  refine PySem.W.method_cls I.kIn B.ga (PySem.W.cls_value I.kIn B.rd B.fv (by decide +kernel) ?_)
  show wpAny _ _ (callWith pos (Value.builtin "ValueError.__init__") [] (backTo pos (starEach (e :: es) X.env)) []) _ _ _
  refine PyProof.Rows.callWith_method1 (thn (ha.run pos pins _ σ H _ (I.tok _) h) fun us s1 ⟨vs, H1, I1, r1, a, C, ws, ev, hl, T, ea, q⟩ => ?_) he hpl
  subst ev
  cases r1 with
  | @cons _ u0 _ ur ra rw' =>
    obtain rfl : u0 = Value.ref a := ra
    have hlen : ur.length ≤ sizeLine := by
      have l := Paired.length rw'
      rw [sizeLine_eq]
      omega
    exact oinit_ok T I1 ea hlen fun s' J => ⟨.non, H1, J, rfl, q⟩
end
end Wk
namespace Wk
open PySem L2
/-- a def of the top -/
structure FnT (K : PySem.W.Frag) (mg : Str → Option Value) (x : Str) (st : Stmt) (f : Addr) (fd : FuncData) : Prop where
  F : Fun K x x st f fd
  g : mg x = some (.ref f)
theorem fn_here {K : PySem.W.Frag} {h : Heap} {mg : Str → Option Value} {x : Str} {st : Stmt} {f : Addr} {oc : Value} {od an : Option Addr} {osl : Array (Option Value)} {kV doc pm cdv ct : Value} (X : K.In h) (G : h.Ns mainGlobals mg)
    (a : PySem.W.nsIn K mainGlobals x = some (some (.ref f)))
    (l : K.lookup f = some ⟨oc, od, .func (PySem.W.fnOf x x (defArgs st) (defBody st) (defScope st) .none kV doc pm an cdv ct), osl⟩)
    (c : PySem.W.codeIn K cdv x = true) (k : PySem.W.keepIn K (.ref f) = true) :
    FnT K mg x st f (PySem.W.fnOf x x (defArgs st) (defBody st) (defScope st) .none kV doc pm an cdv ct) :=
  ⟨fun_mk l c k, PySem.W.mg_of X G a⟩
theorem kb_mk {K : PySem.W.Frag} {h : Heap} {mg : Str → Option Value} {CK : Addr} (X : K.In h) (G : h.Ns mainGlobals mg)
    (a : PySem.W.nsIn K mainGlobals "KindError" = some (some (.ref CK))) (rd : PySem.W.readsIn K CK (.type "type") = true)
    (ga : PySem.W.specialIn K (.ref CK) "__getattribute__" = some (some (.builtin "type.__getattribute__")))
    (fv : PySem.W.findCls K (.ref CK) (.type "type") "__init__" = some (.val (.builtin "ValueError.__init__"))) : KBase K mg CK :=
  ⟨PySem.W.mg_of X G a, rd, ga, fv⟩
/-- an exception class x of the package, at C, its own __init__ at fI -/
structure ExcT (K : PySem.W.Frag) (mg : Str → Option Value) (x : Str) (C fI : Addr) : Prop where
  g : mg x = some (.ref C)
  o : OexC K C
  xf : XfC K C
  iC : PySem.W.findIn K (.ref C) "__init__" = some (some (.ref fI))
  tI : PySem.W.typeIn K (.ref fI) = some (.type "function")
  te : PySem.W.exmOne K (.ref C) (.ref C) = some true
theorem exm_own {K : PySem.W.Frag} {S : Addr} (h1 : PySem.W.subIn K (.ref S) (.type "BaseException") = some true) (h2 : PySem.W.isClsIn K S = true)
    (h3 : PySem.W.typeIn K (.ref S) = some (.type "type")) (h4 : PySem.W.subIn K (.ref S) (.ref S) = some true) : PySem.W.exmOne K (.ref S) (.ref S) = some true := by
  have h2' : (PySem.W.clsIn K S).isSome = true := h2
  unfold PySem.W.exmOne PySem.W.kitCls
  simp only [h1, h3, h4, h2']
  rfl
theorem exc_mk {K : PySem.W.Frag} {h : Heap} {mg : Str → Option Value} {x : Str} {C fI : Addr} {nm q : Str} {N : Addr} {bs bm : List Value} {sn : List Str} {sub : List Value} {ab : Bool} {col : Option Bool} {dd : Option Addr} {m0 m1 m2 m3 m5 : Option Value}
    (X : K.In h) (G : h.Ns mainGlobals mg) (aC : PySem.W.nsIn K mainGlobals x = some (some (.ref C)))
    (xL : K.lookup C = some (excClassObj nm q C N bs bm true sn sub ab col dd m0 m1 m2 m3 m5 "ValueError.__new__")) (hb : PySem.HandSPX.refsVE bm = true)
    (sa : PySem.W.findIn K (.ref C) "__setattr__" = some (some (.builtin "object.__setattr__")))
    (ga : PySem.W.findIn K (.ref C) "__getattribute__" = some (some (.builtin "BaseException.__getattribute__")))
    (gg : PySem.W.findIn K (.ref C) "__getattr__" = some none) (a1 : PySem.W.findIn K (.ref C) "__init__" = some (some (.ref fI)))
    (t1 : PySem.W.typeIn K (.ref fI) = some (.type "function")) (kC : PySem.W.keepIn K (.ref C) = true)
    (eC : PySem.W.subIn K (.ref C) (.type "BaseException") = some true) (tC : PySem.W.typeIn K (.ref C) = some (.type "type"))
    (hC : PySem.W.hasDictIn K C = true) (iC : PySem.W.isClsIn K C = true) (sC : PySem.W.subIn K (.ref C) (.ref C) = some true) : ExcT K mg x C fI :=
  { g := PySem.W.mg_of X G aC, o := ⟨⟨nm, q, N, bs, bm, sn, sub, ab, col, dd, m0, m1, m2, m3, m5, xL, hb⟩, sa, eC, tC, kC⟩, xf := ⟨ga, gg, eC, hC⟩, iC := a1, tI := t1, te := exm_own eC iC tC sC }
theorem sqT_mk {K : PySem.W.Frag} {a : Addr} {xs : List V} {its : List Value} {n : Nat} {dd : Option Addr} {sl : Array (Option Value)}
    (l : K.lookup a = some ⟨.type "tuple", dd, .seq its.toArray n, sl⟩) (z : its.toArray.size ≤ sizeLine) (r : Vals xs its) : ∀ H, SqT K H a xs := fun _ =>
  .inr ⟨_, its.toArray, n, l, rfl, rfl, z, by simpa using r⟩
end Wk
namespace Wk
open PySem L2
section
variable {X : Cx} {x : Str} {pos : Pos}
theorem pe_gstr {z : Str} {t : Tok} (hm : X.mg x = some (.str z t)) (hg : Gl X x := by rfl) (hdb : (x == ("__debug__" : Str)) = false := by decide) : PE X (.Name x pos) (tC (.str z)) := pe_glob hg hm (v := .str z) ⟨t, rfl⟩ hdb
theorem pe_gint {i : Int} {t : Tok} (hm : X.mg x = some (.int i t)) (hg : Gl X x := by rfl) (hdb : (x == ("__debug__" : Str)) = false := by decide) : PE X (.Name x pos) (tC (.int i)) := pe_glob hg hm (v := .int i) ⟨t, rfl⟩ hdb
theorem pe_gref {b : Addr} (hm : X.mg x = some (.ref b)) (hg : Gl X x := by rfl) (hdb : (x == ("__debug__" : Str)) = false := by decide) : PE X (.Name x pos) (tC (.ref b)) := pe_glob hg hm (v := .ref b) rfl hdb
end
end Wk
namespace Wk
open PySem L2
/-- a loop's turn: the next state is in the invariant, with a smaller number -/
theorem turn_to {W : Nat → L2.St → Hp → Prop} {m : Nat} {tb : TS} {D : Ends} {σ : L2.St} {H : Hp}
    (h : tb { D with nx := fun σ' H' => ∃ m', m' < m ∧ W m' σ' H', ct := fun σ' H' => ∃ m', m' < m ∧ W m' σ' H', bk := D.nx } σ H) :
    ∃ N : L2.St → Hp → Prop, (∀ σ' H', N σ' H' → ∃ m', m' < m ∧ W m' σ' H') ∧ tb { D with nx := N, ct := N, bk := D.nx } σ H :=
  ⟨_, fun _ _ z => z, h⟩
theorem ite_b {b : Bool} {A B : Prop} (h1 : b = true → A) (h2 : b = false → B) : if b = true then A else B := by
  cases b
  · exact iteF (h2 rfl)
  · exact iteT (h1 rfl)
end Wk
namespace Wk
open PySem L2
abbrev cs (z : Str) : List Nat := z.cps.toList
abbrev S (l : List Nat) : Str := ⟨l.toArray⟩
theorem S_cs (z : Str) : S (cs z) = z := by
  cases z
  simp
theorem cs_S (l : List Nat) : cs (S l) = l := by simp
theorem cs_len (z : Str) : (cs z).length = z.length := by simp [Str.length]
theorem S_len (l : List Nat) : (S l).length = l.length := by simp [Str.length]
theorem S_inj {l m : List Nat} : S l = S m ↔ l = m := by
  constructor
  · intro h
    have := congrArg (fun z : Str => z.cps.toList) h
    simpa using this
  · intro h; rw [h]
theorem one_inj {x c : Nat} : ((⟨#[x]⟩ : Str) = ⟨#[c]⟩) = (x = c) := propext ⟨fun h => by
  have := congrArg (fun z : Str => z.cps.toList) h
  simpa using this, fun h => by rw [h]⟩
theorem atI_eq {α : Type} (l : List α) (n : Nat) : atI l (n : Int) = l[n]? := by
  cases h : l[n]? with
  | some v => exact atI_nat h
  | none =>
    have hl : l.length ≤ n := by simpa using h
    unfold atI ixN
    rw [if_pos (by omega), if_neg (by omega)]
    rfl
theorem sz_of {n : Nat} (h : n ≤ 100000) : n ≤ sizeLine := Nat.le_trans h (by decide)
theorem sz_lt {n : Nat} (h : n < 100000) : n < sizeLine := Nat.lt_of_lt_of_le h (by decide)
theorem cut_to (z : Str) (n : Nat) : cutS z none (some (n : Int)) = S ((cs z).take n) := by
  unfold cutS
  rw [HT.sIx_none, HT.sIx_nat]
  congr 1
  simp only [List.drop_zero, Nat.sub_zero]
  congr 1
  rw [List.take_eq_take_iff, cs_len]
  omega
theorem cut_mid (z : Str) (n m : Nat) : cutS z (some (n : Int)) (some (m : Int)) = S (((cs z).drop n).take (m - n)) := by
  unfold cutS
  rw [HT.sIx_nat, HT.sIx_nat]
  congr 1
  congr 1
  by_cases h : n ≤ z.length
  · rw [Nat.min_eq_left h, List.take_eq_take_iff, List.length_drop, cs_len]
    omega
  · rw [List.drop_of_length_le (by rw [cs_len]; omega), List.drop_of_length_le (by rw [cs_len]; omega)]
    simp
theorem cut_from (z : Str) (n : Nat) : cutS z (some (n : Int)) none = S ((cs z).drop n) := by
  unfold cutS
  rw [HT.sIx_nat, HT.sIx_none]
  congr 1
  congr 1
  by_cases h : n ≤ z.length
  · rw [Nat.min_eq_left h, List.take_of_length_le (by rw [List.length_drop, cs_len]; omega)]
  · rw [List.drop_of_length_le (by rw [cs_len]; omega), List.drop_of_length_le (by rw [cs_len]; omega)]
    simp
end Wk
namespace Wk
open PySem L2
section
variable {K : PySem.W.Frag} {H : Hp} {Q : VK}
theorem rin_t {p : Addr} {xs : List V} {x : V} {neg : Bool} (h : SqT K H p xs) (hx : flatV x = true) (ha : xs.all flatV = true)
    (q : Q (.bl (if neg then !inV x xs else inV x xs)) H) : rIn K neg x (.ref p) H Q := ⟨p, xs, rfl, .inr h, hx, ha, q⟩
theorem rin_l {p : Addr} {xs : List V} {x : V} {neg : Bool} (h : SqL K H p xs) (hx : flatV x = true) (ha : xs.all flatV = true)
    (q : Q (.bl (if neg then !inV x xs else inV x xs)) H) : rIn K neg x (.ref p) H Q := ⟨p, xs, rfl, .inl h, hx, ha, q⟩
theorem inV_strs (z : Str) : ∀ ls : List (List Nat), inV (.str z) (ls.map fun l => V.str (S l)) = decide (cs z ∈ ls)
  | [] => by simp [inV]
  | l :: ls => by
    have ih := inV_strs z ls
    have e : eqV (.str (S l)) (.str z) = decide (cs z = l) := by
      show (S l == z) = _
      rw [Bool.eq_iff_iff, beq_iff_eq, decide_eq_true_eq]
      constructor
      · intro h; rw [← h, cs_S]
      · intro h; rw [← h, S_cs]
    show (eqV (.str (S l)) (.str z) || inV (.str z) (ls.map fun l => V.str (S l))) = _
    rw [e, ih, Bool.eq_iff_iff, Bool.or_eq_true, decide_eq_true_eq, decide_eq_true_eq, decide_eq_true_eq, List.mem_cons]
theorem isi_str {z : Str} (q : Q (.bl true) H) : rIsi K [.str z, .ty "str"] H Q := ⟨_, _, _, _, true, rfl, .ty _, .base (.str _), kit_ty (by decide +kernel), q⟩
end
end Wk
namespace Wk
open PySem L2
/-- tuples stay -/
def TSame (H H' : Hp) : Prop := ∀ q xs, H q = some (.tup xs) → H' q = some (.tup xs)
theorem TSame.of {H H' : Hp} (h : Same H H') : TSame H H' := fun q _ e => h q _ e
theorem TSame.trans {H H1 H2 : Hp} (a : TSame H H1) (b : TSame H1 H2) : TSame H H2 := fun q xs e => b q xs (a q xs e)
theorem TSame.lst {H : Hp} {l : Addr} {vs ws : List V} (h : H l = some (.lst vs)) : TSame H (upd H l (.lst ws)) := fun q xs e => by
  rw [upd_ne (ne_of e h (by intro z; cases z))]
  exact e
theorem Same.new {H : Hp} {p : Addr} {o : HO} (h : H p = none) : Same H (upd H p o) := fun b u e => by
  rw [upd_ne (ne_of_none e h)]
  exact e
/-- an object that H does not know may change -/
theorem Same.mut {H H' : Hp} {p : Addr} {o : HO} (e : Same H H') (h : H p = none) : Same H (upd H' p o) := fun b u q => by
  rw [upd_ne (ne_of_none q h)]
  exact e b u q
end Wk
namespace Wk
open PySem L2
/-- the heap behind a made exception: nothing that stood has changed -/
theorem exc_heap {H : Hp} {e d : Addr} {o1 o2 o3 o4 : HO} (he : H e = none) (hd : H d = none) : Same H (upd (del (upd (upd (upd H e o1) d o2) e o3) e) d o4) := fun b o q => by
  have n1 : b ≠ e := ne_of_none q he
  have n2 : b ≠ d := ne_of_none q hd
  rw [upd_ne n2, del_ne n1, upd_ne n1, upd_ne n2, upd_ne n1]
  exact q
end Wk
namespace Wk
open PySem L2
/-! rules over tracked lists and tuples alone: what they ask is settled by the heap -/
theorem atI_lit {α : Type} (l : List α) (n : Nat) : atI l (@OfNat.ofNat Int n instOfNat) = l[n]? := atI_eq l n
section
variable {X : Cx}
def rIxLT : R2 := fun x y H Q => ∃ p xs i v, x = .ref p ∧ y = .int i ∧ H p = some (.lst xs) ∧ atI xs i = some v ∧ Q v H
def rIxTT : R2 := fun x y H Q => ∃ p xs i v, x = .ref p ∧ y = .int i ∧ H p = some (.tup xs) ∧ atI xs i = some v ∧ Q v H
theorem ix_listT : IxR X rIxLT := fun value slice pins s σ H x y v u Q I rx ry ⟨p, xs, i, z, e1, e2, e3, e4, q⟩ hs =>
  ix_list value slice pins s σ H x y v u Q I rx ry ⟨p, xs, i, z, e1, e2, SqL.of e3, e4, q⟩ hs
theorem ix_tupT : IxR X rIxTT := fun value slice pins s σ H x y v u Q I rx ry ⟨p, xs, i, z, e1, e2, e3, e4, q⟩ hs =>
  ix_tup value slice pins s σ H x y v u Q I rx ry ⟨p, xs, i, z, e1, e2, SqT.of e3, e4, q⟩ hs
def rLenLT : List V → Hp → VK → Prop := fun xs H Q => ∃ p ys, xs = [.ref p] ∧ H p = some (.lst ys) ∧ Q (.int ys.length) H
def rLenTT : List V → Hp → VK → Prop := fun xs H Q => ∃ p ys, xs = [.ref p] ∧ H p = some (.tup ys) ∧ Q (.int ys.length) H
theorem call_lenLT : CallR X (.builtin "len") rLenLT := fun pins s σ H xs us Q I r ⟨p, ys, e1, e2, q⟩ =>
  call_len_seq pins s σ H xs us Q I r ⟨p, ys, e1, .inl (SqL.of e2), q⟩
theorem call_lenTT : CallR X (.builtin "len") rLenTT := fun pins s σ H xs us Q I r ⟨p, ys, e1, e2, q⟩ =>
  call_len_seq pins s σ H xs us Q I r ⟨p, ys, e1, .inr (SqT.of e2), q⟩
end
theorem cxK {CX : CXT} {P : Program} {w : World} {K : PySem.W.Frag} {mg : Str → Option Value} {base : Heap} {N : List Str} {q : Str} {sc : Scope} {f : Addr} {cd : Value} {A : Around} {o : List Env} {s : Shared} {H : Hp} {E : XK} :
    (cxOf CX P w K mg base N q sc f cd A o s H E).K = K := rfl
theorem cxKn {CX : CXT} {P : Program} {w : World} {K : PySem.W.Frag} {mg : Str → Option Value} {base : Heap} {N : List Str} {q : Str} {sc : Scope} {f : Addr} {cd : Value} {A : Around} {o : List Env} {s : Shared} {H : Hp} {E : XK} :
    (cxOf CX P w K mg base N q sc f cd A o s H E).nox.K = K := rfl
end Wk
namespace Wk
open PySem L2
theorem atI_lits {α : Type} (l : List α) : atI l 0 = l[0]? ∧ atI l 1 = l[1]? ∧ atI l 2 = l[2]? ∧ atI l 3 = l[3]? ∧ atI l 4 = l[4]? ∧ atI l 5 = l[5]? ∧ atI l 6 = l[6]? ∧ atI l 7 = l[7]? ∧ atI l 8 = l[8]? ∧ atI l 9 = l[9]? ∧ atI l 10 = l[10]? ∧ atI l 11 = l[11]? ∧ atI l 12 = l[12]? ∧ atI l 13 = l[13]? ∧ atI l 14 = l[14]? ∧ atI l 15 = l[15]? ∧ atI l 16 = l[16]? ∧ atI l 17 = l[17]? ∧ atI l 18 = l[18]? ∧ atI l 19 = l[19]? ∧ atI l 20 = l[20]? ∧ atI l 21 = l[21]? ∧ atI l 22 = l[22]? ∧ atI l 23 = l[23]? := ⟨atI_eq l 0, atI_eq l 1, atI_eq l 2, atI_eq l 3, atI_eq l 4, atI_eq l 5, atI_eq l 6, atI_eq l 7, atI_eq l 8, atI_eq l 9, atI_eq l 10, atI_eq l 11, atI_eq l 12, atI_eq l 13, atI_eq l 14, atI_eq l 15, atI_eq l 16, atI_eq l 17, atI_eq l 18, atI_eq l 19, atI_eq l 20, atI_eq l 21, atI_eq l 22, atI_eq l 23⟩
theorem ixN_0 (n : Nat) : ixN (n + 1) 0 = some 0 := by
  unfold ixN
  rw [if_pos (by decide), if_pos (by omega)]
  rfl
theorem ixN_1 (n : Nat) : ixN (n + 1 + 1) 1 = some 1 := by
  unfold ixN
  rw [if_pos (by decide), if_pos (by omega)]
  rfl
theorem ixN_2 (n : Nat) : ixN (n + 1 + 1 + 1) 2 = some 2 := by
  unfold ixN
  rw [if_pos (by decide), if_pos (by omega)]
  rfl
end Wk
namespace Wk
open PySem L2
/-- the body of a for and what follows it, put aside while its head is read -/
theorem for_hide {wi : TI} {g : TG} {tb : TS} {D : Ends} {σ : L2.St} {H : Hp} (h : ∀ (tb' : TS) (D' : Ends), tb' = tb → D' = D → tFor wi g tb' D' σ H) : tFor wi g tb D σ H := h tb D rfl rfl
end Wk
set_option linter.all false
/-! Tokens of a text: the package's own cutting and the law's own walk are one function of the list of codes. -/
namespace TokM
/-- the length of the run of signs out of S that begins at b, at most m of them -/
def rl (l : List Nat) (b : Nat) (S : List Nat) (m : Nat) : Nat := (((l.drop b).take m).takeWhile (fun c => decide (c ∈ S))).length
def sl (l : List Nat) (a b : Nat) : List Nat := (l.drop a).take (b - a)
def LL : List Nat := (List.range 26).map (· + 97)
def CC : List Nat := (List.range 26).map (· + 65)
def DD : List Nat := (List.range 10).map (· + 48)
def NN : List Nat := (List.range 9).map (· + 49)
def SS : List Nat := [40, 41, 123, 125, 91, 93, 60, 62, 61, 44, 59, 58, 46, 124, 43, 45, 42, 47, 64, 94, 95]
def own : List (List Nat) := [[102, 110], [108, 101, 116], [105, 110], [114, 101, 99], [109, 97, 116, 99, 104], [119, 105, 116, 104], [102, 97, 105, 108], [110, 117, 109]]

theorem tw_step {α : Type} (p : α → Bool) : ∀ (xs : List α) (k : Nat), k ≤ (xs.takeWhile p).length → (k < (xs.takeWhile p).length ↔ ∃ x, xs[k]? = some x ∧ p x = true)
  | [], k, h => by simp
  | x :: xs, k, h => by
    by_cases hp : p x = true
    · rw [List.takeWhile_cons_of_pos hp] at h ⊢
      cases k with
      | zero => simp [hp]
      | succ k =>
        have h' : k ≤ (xs.takeWhile p).length := by simpa using h
        have := tw_step p xs k h'
        simp only [List.length_cons, Nat.add_lt_add_iff_right, List.getElem?_cons_succ]
        exact this
    · rw [List.takeWhile_cons_of_neg hp] at h ⊢
      have hk : k = 0 := by simpa using h
      subst hk
      simp [hp]
theorem tk_at {α : Type} (l : List α) (b m k : Nat) (x : α) : ((l.drop b).take m)[k]? = some x ↔ k < m ∧ l[b + k]? = some x := by
  rw [List.getElem?_take]
  by_cases h : k < m
  · simp [h, List.getElem?_drop]
  · simp [h]
theorem rl_step {l : List Nat} {b m k : Nat} {S : List Nat} (h : k ≤ rl l b S m) : k < rl l b S m ↔ ∃ c, k < m ∧ l[b + k]? = some c ∧ c ∈ S := by
  unfold rl at h ⊢
  rw [tw_step _ _ _ h]
  constructor
  · rintro ⟨x, h1, h2⟩
    have := (tk_at l b m k x).mp h1
    exact ⟨x, this.1, this.2, by simpa using h2⟩
  · rintro ⟨x, h1, h2, h3⟩
    exact ⟨x, (tk_at l b m k x).mpr ⟨h1, h2⟩, by simpa using h3⟩
theorem rl_le (l : List Nat) (b : Nat) (S : List Nat) (m : Nat) : rl l b S m ≤ m := by
  unfold rl
  have h := (List.takeWhile_sublist (fun c => decide (c ∈ S)) (l := (l.drop b).take m)).length_le
  have h2 : ((l.drop b).take m).length ≤ m := by simp; omega
  omega
theorem rl_len (l : List Nat) (b : Nat) (S : List Nat) (m : Nat) : rl l b S m ≤ l.length - b := by
  unfold rl
  have h := (List.takeWhile_sublist (fun c => decide (c ∈ S)) (l := (l.drop b).take m)).length_le
  have h2 : ((l.drop b).take m).length ≤ l.length - b := by simp; omega
  omega
theorem rl_mem {l : List Nat} {b m k : Nat} {S : List Nat} (h : k < rl l b S m) : ∃ c, l[b + k]? = some c ∧ c ∈ S := by
  obtain ⟨c, _, h2, h3⟩ := (rl_step (Nat.le_of_lt h)).mp h
  exact ⟨c, h2, h3⟩
/-- a number that the loop's test tells to be the run's length -/
theorem rl_of {l : List Nat} {b m k : Nat} {S : List Nat} (h1 : ∀ j, j < k → j < m ∧ ∃ c, l[b + j]? = some c ∧ c ∈ S) (h2 : ¬ (k < m ∧ ∃ c, l[b + k]? = some c ∧ c ∈ S)) : rl l b S m = k := by
  have up : ∀ j, j ≤ k → j ≤ rl l b S m := by
    intro j
    induction j with
    | zero => intro _; exact Nat.zero_le _
    | succ j ih =>
      intro hj
      have h := ih (by omega)
      obtain ⟨a, c, e, m'⟩ := h1 j (by omega)
      exact (rl_step h).mpr ⟨c, a, e, m'⟩
  have hk := up k (Nat.le_refl _)
  rcases Nat.lt_or_ge k (rl l b S m) with h | h
  · obtain ⟨c, a, e, m'⟩ := (rl_step hk).mp h
    exact absurd ⟨a, c, e, m'⟩ h2
  · omega

/-- where a word ends that begins at b: the package's way, the law's way -/
def we (l : List Nat) (b : Nat) : Nat :=
  if b < b + rl l b LL 6 ∧ sl l (b + rl l b LL 6) (b + rl l b LL 6 + 1) ≠ [48] then b + rl l b LL 6 + rl l (b + rl l b LL 6) DD 3 else b + rl l b LL 6
def we2 (l : List Nat) (b : Nat) : Nat :=
  if ∃ c, l[b + rl l b LL 6]? = some c ∧ c ∈ NN then b + rl l b LL 6 + rl l (b + rl l b LL 6) DD 3 else b + rl l b LL 6
instance dec_we2 (l : List Nat) (e : Nat) : Decidable (∃ c, l[e]? = some c ∧ c ∈ NN) :=
  match h : l[e]? with
  | none => isFalse (by rintro ⟨c, h1, _⟩; cases h1)
  | some c => if hc : c ∈ NN then isTrue ⟨c, rfl, hc⟩ else isFalse (by rintro ⟨d, h1, h2⟩; cases h1; exact hc h2)
theorem sl_one {l : List Nat} {e c : Nat} (h : l[e]? = some c) : sl l e (e + 1) = [c] := by
  unfold sl
  have hd : l.drop e = c :: l.drop (e + 1) := by
    obtain ⟨h1, h2⟩ := List.getElem?_eq_some_iff.mp h
    rw [List.drop_eq_getElem_cons h1, h2]
  rw [hd, show e + 1 - e = 1 by omega]
  rfl
theorem sl_out {l : List Nat} {e f : Nat} (h : l[e]? = none) : sl l e f = [] := by
  unfold sl
  rw [List.drop_of_length_le (by simpa using h)]
  simp
theorem rl_zero {l : List Nat} {b m : Nat} {S : List Nat} (h : ¬ ∃ c, l[b]? = some c ∧ c ∈ S) : rl l b S m = 0 :=
  rl_of (fun j hj => absurd hj (Nat.not_lt_zero _)) fun ⟨_, c, e, k⟩ => h ⟨c, e, k⟩
theorem mem_rng {n k c : Nat} : c ∈ (List.range n).map (· + k) ↔ k ≤ c ∧ c < k + n := by
  rw [List.mem_map]
  constructor
  · rintro ⟨a, h1, rfl⟩
    have := List.mem_range.mp h1
    omega
  · rintro ⟨h1, h2⟩
    exact ⟨c - k, List.mem_range.mpr (by omega), by omega⟩
theorem nn_dd {c : Nat} : c ∈ DD ↔ c = 48 ∨ c ∈ NN := by
  unfold DD NN
  rw [mem_rng, mem_rng]
  omega
theorem we_eq {l : List Nat} {b : Nat} (h : 0 < rl l b LL 6) : we l b = we2 l b := by
  unfold we we2
  cases e : l[b + rl l b LL 6]? with
  | none =>
    have z : rl l (b + rl l b LL 6) DD 3 = 0 := rl_zero (by rw [e]; rintro ⟨c, h1, _⟩; cases h1)
    rw [sl_out e, if_pos (show b < b + rl l b LL 6 ∧ ([] : List Nat) ≠ [48] from ⟨by omega, by simp⟩), z]
    simp
  | some c =>
    rw [sl_one e]
    by_cases hn : c ∈ NN
    · have n48 : [c] ≠ [48] := by
        intro z
        have : c = 48 := by simpa using z
        subst this
        exact absurd hn (by decide)
      rw [if_pos (show b < b + rl l b LL 6 ∧ [c] ≠ [48] from ⟨by omega, n48⟩), if_pos (show ∃ d, some c = some d ∧ d ∈ NN from ⟨c, rfl, hn⟩)]
    · rw [if_neg (show ¬ ∃ d, some c = some d ∧ d ∈ NN by rintro ⟨d, h1, h2⟩; cases h1; exact hn h2)]
      by_cases hz : c = 48
      · rw [if_neg (show ¬ (b < b + rl l b LL 6 ∧ [c] ≠ [48]) by rintro ⟨_, z⟩; exact z (by rw [hz]))]
      · rw [rl_zero (b := b + rl l b LL 6) (S := DD) (by
          rintro ⟨d, h1, h2⟩
          rw [e] at h1
          cases h1
          rcases nn_dd.mp h2 with q | q
          · exact hz q
          · exact hn q)]
        simp
theorem we_zero {l : List Nat} {b : Nat} (h : rl l b LL 6 = 0) : we l b = b := by
  unfold we
  rw [h, if_neg (by omega)]
  rfl
theorem le_we (l : List Nat) (b : Nat) : b ≤ we l b := by
  unfold we
  split <;> omega

/-- is a list of codes a word's beginning -/
def bg (s : List Nat) : Bool := decide (1 ≤ rl s 0 LL s.length) && decide (rl s 0 LL s.length ≤ 6) && decide ((s.drop (rl s 0 LL s.length)).length ≤ 3) && (s.drop (rl s 0 LL s.length)).all (fun c => decide (c ∈ DD)) && !((s.drop (rl s 0 LL s.length)).head? == some 48)
def isw (s : List Nat) : Bool := !decide (s ∈ own) && bg s
theorem sl_at {l : List Nat} {a b j : Nat} (h : a + j < b) : (sl l a b)[j]? = l[a + j]? := by
  unfold sl
  rw [List.getElem?_take, if_pos (by omega), List.getElem?_drop]
theorem sl_len {l : List Nat} {a b : Nat} (h : b ≤ l.length) : (sl l a b).length = b - a := by
  unfold sl
  rw [List.length_take, List.length_drop]
  omega
theorem ll_dd {c : Nat} (h : c ∈ LL) : ¬ c ∈ DD := by
  unfold LL at h
  unfold DD
  rw [mem_rng] at h ⊢
  omega
theorem we_len (l : List Nat) (b : Nat) (hb : b ≤ l.length) : we l b ≤ l.length := by
  have h1 := rl_len l b LL 6
  have h2 := rl_len l (b + rl l b LL 6) DD 3
  unfold we
  split <;> omega
theorem bg_we {l : List Nat} {b : Nat} (hb : b ≤ l.length) (h : 0 < rl l b LL 6) : bg (sl l b (we l b)) = true := by
  have hn1 := rl_le l b LL 6
  have hwl := we_len l b hb
  have hw : b + rl l b LL 6 ≤ we l b ∧ we l b ≤ b + rl l b LL 6 + 3 ∧ (∀ j, b + rl l b LL 6 ≤ j → j < we l b → ∃ c, l[j]? = some c ∧ c ∈ DD) ∧ (b + rl l b LL 6 < we l b → sl l (b + rl l b LL 6) (b + rl l b LL 6 + 1) ≠ [48]) := by
    have h3 := rl_le l (b + rl l b LL 6) DD 3
    unfold we
    split
    · rename_i hc
      refine ⟨by omega, by omega, fun j h1 h2 => ?_, fun _ => hc.2⟩
      obtain ⟨c, h4, h5⟩ := rl_mem (l := l) (b := b + rl l b LL 6) (k := j - (b + rl l b LL 6)) (S := DD) (m := 3) (by omega)
      exact ⟨c, by rw [← h4]; congr 1; omega, h5⟩
    · exact ⟨by omega, by omega, fun j h1 h2 => by omega, fun h => by omega⟩
  obtain ⟨w1, w2, w3, w4⟩ := hw
  have hlen : (sl l b (we l b)).length = we l b - b := sl_len hwl
  have hr : rl (sl l b (we l b)) 0 LL (sl l b (we l b)).length = rl l b LL 6 := by
    refine rl_of (fun j hj => ⟨by omega, ?_⟩) ?_
    · obtain ⟨c, h1, h2⟩ := rl_mem hj
      exact ⟨c, by rw [Nat.zero_add, sl_at (by omega)]; exact h1, h2⟩
    · rintro ⟨h1, c, h2, h3⟩
      rw [Nat.zero_add, sl_at (by omega)] at h2
      obtain ⟨d, h4, h5⟩ := w3 (b + rl l b LL 6) (by omega) (by omega)
      rw [h4] at h2
      cases h2
      exact ll_dd h3 h5
  have hdl : ((sl l b (we l b)).drop (rl l b LL 6)).length = we l b - b - rl l b LL 6 := by rw [List.length_drop, hlen]
  unfold bg
  rw [hr]
  simp only [Bool.and_eq_true, decide_eq_true_eq, List.all_eq_true, Bool.not_eq_true']
  refine ⟨⟨⟨⟨by omega, by omega⟩, by rw [hdl]; omega⟩, fun c hc => ?_⟩, ?_⟩
  · obtain ⟨j, hj⟩ := List.getElem?_of_mem hc
    have hjl : j < we l b - b - rl l b LL 6 := by rw [← hdl]; exact (List.getElem?_eq_some_iff.mp hj).1
    rw [List.getElem?_drop, sl_at (by omega)] at hj
    obtain ⟨d, h1, h2⟩ := w3 (b + (rl l b LL 6 + j)) (by omega) (by omega)
    rw [h1] at hj
    cases hj
    exact h2
  · by_cases hq : b + rl l b LL 6 < we l b
    · have h48 := w4 hq
      obtain ⟨d, h1, h2⟩ := w3 (b + rl l b LL 6) (by omega) hq
      rw [sl_one h1] at h48
      have hh : ((sl l b (we l b)).drop (rl l b LL 6)).head? = some d := by
        rw [List.head?_drop, sl_at (by omega)]
        exact h1
      rw [hh]
      have : d ≠ 48 := fun z => h48 (by rw [z])
      simp [this]
    · have : (sl l b (we l b)).drop (rl l b LL 6) = [] := List.drop_of_length_le (by omega)
      rw [this]
      rfl

/-- the end of the token that begins at i (i itself where none does): the package's way, the law's way -/
def te (l : List Nat) (i c : Nat) : Nat :=
  if c ∈ LL then we l i
  else if c ∈ CC then i + 1 + rl l (i + 1) LL 5
  else if c ∈ DD then (if c = 48 then i + 1 else i + rl l i DD l.length)
  else if c = 39 ∨ c = 36 then (if isw (sl l (i + 1) (we l (i + 1))) = true then we l (i + 1) else i)
  else if sl l i (i + 2) = [45, 62] then i + 2
  else if c ∈ SS then i + 1 else i
def qe (l : List Nat) (i : Nat) : Nat := if ∃ c, l[i + 1]? = some c ∧ c ∈ LL then we2 l (i + 1) else i
instance dec_ll (l : List Nat) (e : Nat) (S : List Nat) : Decidable (∃ c, l[e]? = some c ∧ c ∈ S) :=
  match h : l[e]? with
  | none => isFalse (by rintro ⟨c, h1, _⟩; cases h1)
  | some c => if hc : c ∈ S then isTrue ⟨c, rfl, hc⟩ else isFalse (by rintro ⟨d, h1, h2⟩; cases h1; exact hc h2)
def on (l : List Nat) (i c : Nat) : Nat :=
  if c ∈ LL then we2 l i
  else if c = 39 ∨ c = 36 then (if sl l (i + 1) (qe l i) ∈ own then i else qe l i)
  else if c ∈ CC then i + 1 + rl l (i + 1) LL 5
  else if c ∈ DD then (if c = 48 then i + 1 else i + rl l i DD l.length)
  else if sl l i (i + 2) = [45, 62] then i + 2
  else if c ∈ SS then i + 1 else i
theorem rl_pos {l : List Nat} {b m : Nat} {S : List Nat} (hm : 0 < m) : 0 < rl l b S m ↔ ∃ c, l[b]? = some c ∧ c ∈ S := by
  rw [rl_step (Nat.zero_le _)]
  constructor
  · rintro ⟨c, _, h1, h2⟩; exact ⟨c, h1, h2⟩
  · rintro ⟨c, h1, h2⟩; exact ⟨c, hm, h1, h2⟩
theorem te_on {l : List Nat} {i c : Nat} (h : l[i]? = some c) : te l i c = on l i c := by
  have hi : i < l.length := (List.getElem?_eq_some_iff.mp h).1
  unfold te on
  by_cases h1 : c ∈ LL
  · rw [if_pos h1, if_pos h1]
    exact we_eq ((rl_pos (by decide)).mpr ⟨c, h, h1⟩)
  · rw [if_neg h1, if_neg h1]
    by_cases h2 : c = 39 ∨ c = 36
    · have n1 : ¬ c ∈ CC := by rcases h2 with rfl | rfl <;> decide
      have n2 : ¬ c ∈ DD := by rcases h2 with rfl | rfl <;> decide
      rw [if_neg n1, if_neg n2, if_pos h2, if_pos h2]
      unfold qe
      by_cases h3 : ∃ c, l[i + 1]? = some c ∧ c ∈ LL
      · have p := (rl_pos (l := l) (b := i + 1) (S := LL) (m := 6) (by decide)).mpr h3
        rw [if_pos h3, ← we_eq p]
        have hb := bg_we (l := l) (b := i + 1) (by omega) p
        unfold isw
        rw [hb, Bool.and_true]
        by_cases h4 : sl l (i + 1) (we l (i + 1)) ∈ own
        · rw [if_pos h4, if_neg (by simp [h4])]
        · rw [if_neg h4, if_pos (by simp [h4])]
      · have p : rl l (i + 1) LL 6 = 0 := rl_zero h3
        rw [if_neg h3, we_zero p]
        have e1 : sl l (i + 1) (i + 1) = [] := by unfold sl; simp
        have e2 : sl l (i + 1) i = [] := by unfold sl; simp
        rw [e1, e2, if_neg (by decide), if_neg (by decide)]
    · rw [if_neg h2, if_neg h2]

/-- the walk: where it stands, whether a word may not follow, what is found -/
def ALN : List Nat := LL ++ CC ++ DD
def scan (l : List Nat) : Nat → Nat → Bool → List (List Nat × Nat) → List (List Nat × Nat) × Option Nat
  | 0, _, _, acc => (acc, none)
  | n + 1, a, j, acc => match l[a]? with
    | none => (acc, none)
    | some c => if c = 32 then scan l n (a + 1) false acc
      else if te l a c = a ∨ (j = true ∧ c ∈ ALN) then (acc, some a)
      else scan l n (te l a c) (decide (c ∈ ALN ∨ c = 39 ∨ c = 36)) (acc ++ [(sl l a (te l a c), a)])
theorem le_te (l : List Nat) (i c : Nat) : i ≤ te l i c := by
  have h1 := le_we l i
  have h2 := le_we l (i + 1)
  unfold te
  repeat' split
  all_goals omega
theorem ss_32 : ¬ 32 ∈ SS := by decide
/-- where a token begins, being none of the signs is being of a word, a number, a tag or a name -/
theorem te_ss {l : List Nat} {i c : Nat} (h : l[i]? = some c) (hn : te l i c ≠ i) : ¬ c ∈ SS ↔ c ∈ ALN ∨ c = 39 ∨ c = 36 := by
  have key : c ∈ LL ∨ c ∈ CC ∨ c ∈ DD ∨ (c = 39 ∨ c = 36) ∨ c ∈ SS := by
    by_cases h1 : c ∈ LL
    · exact .inl h1
    by_cases h2 : c ∈ CC
    · exact .inr (.inl h2)
    by_cases h3 : c ∈ DD
    · exact .inr (.inr (.inl h3))
    by_cases h4 : c = 39 ∨ c = 36
    · exact .inr (.inr (.inr (.inl h4)))
    by_cases h5 : c ∈ SS
    · exact .inr (.inr (.inr (.inr h5)))
    exfalso
    unfold te at hn
    rw [if_neg h1, if_neg h2, if_neg h3, if_neg h4] at hn
    by_cases h6 : sl l i (i + 2) = [45, 62]
    · have : (sl l i (i + 2))[0]? = some 45 := by rw [h6]; rfl
      rw [sl_at (by omega), Nat.add_zero, h] at this
      cases this
      exact h5 (by decide)
    · rw [if_neg h6, if_neg h5] at hn
      exact hn rfl
  have dis : ∀ c ∈ SS, ¬ (c ∈ ALN ∨ c = 39 ∨ c = 36) := by decide
  constructor
  · intro hs
    rcases key with k | k | k | k | k
    · exact .inl (List.mem_append_left _ (List.mem_append_left _ k))
    · exact .inl (List.mem_append_left _ (List.mem_append_right _ k))
    · exact .inl (List.mem_append_right _ k)
    · exact .inr k
    · exact absurd k hs
  · intro ha hs
    exact dis c hs ha
theorem scan_none {l : List Nat} {a : Nat} (n : Nat) {j : Bool} {acc : List (List Nat × Nat)} (h : l[a]? = none) : scan l n a j acc = (acc, none) := by
  cases n with
  | zero => rfl
  | succ n => unfold scan; rw [h]
theorem scan_sp {l : List Nat} {a n c : Nat} {j : Bool} {acc : List (List Nat × Nat)} (h : l[a]? = some c) (hc : c = 32) : scan l (n + 1) a j acc = scan l n (a + 1) false acc := by
  rw [scan, h]
  simp only [if_pos hc]
theorem scan_stop {l : List Nat} {a n c : Nat} {j : Bool} {acc : List (List Nat × Nat)} (h : l[a]? = some c) (hc : c ≠ 32) (hs : te l a c = a ∨ (j = true ∧ c ∈ ALN)) : scan l (n + 1) a j acc = (acc, some a) := by
  rw [scan, h]
  simp only [if_neg hc, if_pos hs]
theorem scan_tok {l : List Nat} {a n c : Nat} {j : Bool} {acc : List (List Nat × Nat)} (h : l[a]? = some c) (hc : c ≠ 32) (hs : ¬ (te l a c = a ∨ (j = true ∧ c ∈ ALN))) :
    scan l (n + 1) a j acc = scan l n (te l a c) (decide (c ∈ ALN ∨ c = 39 ∨ c = 36)) (acc ++ [(sl l a (te l a c), a)]) := by
  rw [scan, h]
  simp only [if_neg hc, if_neg hs]
theorem sl_sub {l : List Nat} {a b c : Nat} (h : c ∈ sl l a b) : c ∈ l := List.mem_of_mem_drop (List.mem_of_mem_take h)
theorem scan_sub {l : List Nat} : ∀ (n a : Nat) (j : Bool) (acc : List (List Nat × Nat)), (∀ t ∈ acc, ∀ c ∈ t.1, c ∈ l) → ∀ t ∈ (scan l n a j acc).1, ∀ c ∈ t.1, c ∈ l
  | 0, _, _, _, h => h
  | n + 1, a, j, acc, h => by
    cases e : l[a]? with
    | none => rw [scan_none _ e]; exact h
    | some c =>
      by_cases h1 : c = 32
      · rw [scan_sp e h1]; exact scan_sub n _ _ _ h
      · by_cases h2 : te l a c = a ∨ (j = true ∧ c ∈ ALN)
        · rw [scan_stop e h1 h2]; exact h
        · rw [scan_tok e h1 h2]
          refine scan_sub n _ _ _ fun t ht d hd => ?_
          rcases List.mem_append.mp ht with q | q
          · exact h t q d hd
          · have : t = (sl l a (te l a c), a) := by simpa using q
            subst this
            exact sl_sub hd
theorem scan_len {l : List Nat} : ∀ (n a : Nat) (j : Bool) (acc : List (List Nat × Nat)), (scan l n a j acc).1.length ≤ acc.length + n
  | 0, _, _, _ => Nat.le_refl _
  | n + 1, a, j, acc => by
    cases e : l[a]? with
    | none => rw [scan_none _ e]; exact Nat.le_add_right _ _
    | some c =>
      by_cases h1 : c = 32
      · rw [scan_sp e h1]
        have := scan_len (l := l) n (a + 1) false acc
        omega
      · by_cases h2 : te l a c = a ∨ (j = true ∧ c ∈ ALN)
        · rw [scan_stop e h1 h2]; exact Nat.le_add_right _ _
        · rw [scan_tok e h1 h2]
          have := scan_len (l := l) n (te l a c) (decide (c ∈ ALN ∨ c = 39 ∨ c = 36)) (acc ++ [(sl l a (te l a c), a)])
          rw [List.length_append, List.length_singleton] at this
          omega
theorem aln_q : ∀ c ∈ ALN, ¬ (c = 39 ∨ c = 36) := by decide
end TokM
set_option Elab.async false
set_option linter.all false
set_option maxRecDepth 100000
set_option maxHeartbeats 4000000
namespace Tok
open PySem L2 TokM Wk
local macro_rules | `(tactic| walk_at "rd") => `(tactic| simp only [tSeq, tAsg, gName, tC, tVar, tOp, tUn, tTest, tB, tAnd, tOr, tNot, tIf, tIfS, tRet, tDrop, tNext, tCB, tCons, tNil, tSl, tPart, tNoPart, tAug, ipI, rI0, rI, rU, tLst, tTup, tBM, rAppend, tCall, tPar, tPar3, gTup, gCons, gNil, tMkO, tCallS, WE, wAs, tXf, rIxS, rIxLT, rIxTT, rLenLT, rLenTT, gSub, rSetL, Wk.ixN_0, Wk.ixN_1, Wk.ixN_2, Wk.cxK, Wk.cxKn, Wk.atI_lits, upd_same, HO.lst.injEq, HO.tup.injEq, rSlS, rEq, rNe, scal, tChain, tYes, tAndV, tOrV, tNotV, tM1, L2.start,
  List.map_nil, List.map_cons, List.replicate, List.length_cons, List.length_nil, List.cons_append, List.nil_append, List.getElem?_cons_zero, List.getElem?_cons_succ, List.set_cons_zero, List.set_cons_succ, Option.some.injEq, V.int.injEq, V.str.injEq, V.ref.injEq, V.bl.injEq, List.cons.injEq, and_true, true_and, and_assoc, exists_eq_left', exists_eq_left, exists_and_left, Wk.one_inj, Wk.atI_eq, Bool.false_eq_true, if_false, if_true, Bool.not_false, Bool.not_true, Bool.not_eq_true', decide_eq_false_iff_not, decide_eq_true_eq])
def top (i : Nat) : Stmt := PySem.Challenge.pw_widestkind_k09_tokens.main.body.getD i (.Pass ⟨0, 0, 0, 0⟩)
abbrev s_BadText_init : Stmt := inClass (top 2) 0
abbrev s_letters_of : Stmt := top 10
abbrev s_is_begun_word : Stmt := top 11
abbrev s_is_word : Stmt := top 12
abbrev s_run_end : Stmt := top 15
abbrev s_word_end : Stmt := top 16
abbrev s_token_end : Stmt := top 17
abbrev s_cut : Stmt := top 18
abbrev s_tokens : Stmt := top 20
abbrev s_l_cell : Stmt := top 22
abbrev s_l_box : Stmt := top 23
abbrev s_l_take : Stmt := top 24
abbrev s_l_run : Stmt := top 25
abbrev s_l_word_end : Stmt := top 26
abbrev s_l_one : Stmt := top 27
abbrev s_l_due : Stmt := top 28
abbrev s_l_text : Stmt := top 29
abbrev s_l_told : Stmt := top 30
abbrev s_law : Stmt := top 31
theorem sc_BadText_init : FnScope ["self", "at"] ["self", "at"] (defScope s_BadText_init) :=
  ⟨rfl, rfl, rfl, by decide +kernel, rfl, by decide +kernel, by decide +kernel⟩
theorem sc_letters_of : FnScope ["text", "many"] ["text"] (defScope s_letters_of) :=
  ⟨rfl, rfl, rfl, by decide +kernel, rfl, by decide +kernel, by decide +kernel⟩
theorem sc_is_begun_word : FnScope ["text", "letters", "digits", "sign"] ["text"] (defScope s_is_begun_word) :=
  ⟨rfl, rfl, rfl, by decide +kernel, rfl, by decide +kernel, by decide +kernel⟩
theorem sc_is_word : FnScope ["value"] ["value"] (defScope s_is_word) :=
  ⟨rfl, rfl, rfl, by decide +kernel, rfl, by decide +kernel, by decide +kernel⟩
theorem sc_run_end : FnScope ["text", "begin", "signs", "most", "end"] ["text", "begin", "signs", "most"] (defScope s_run_end) :=
  ⟨rfl, rfl, rfl, by decide +kernel, rfl, by decide +kernel, by decide +kernel⟩
theorem sc_word_end : FnScope ["text", "begin", "end"] ["text", "begin"] (defScope s_word_end) :=
  ⟨rfl, rfl, rfl, by decide +kernel, rfl, by decide +kernel, by decide +kernel⟩
theorem sc_token_end : FnScope ["text", "begin", "sign", "end"] ["text", "begin"] (defScope s_token_end) :=
  ⟨rfl, rfl, rfl, by decide +kernel, rfl, by decide +kernel, by decide +kernel⟩
theorem sc_cut : FnScope ["text", "found", "at", "joined", "end"] ["text"] (defScope s_cut) :=
  ⟨rfl, rfl, rfl, by decide +kernel, rfl, by decide +kernel, by decide +kernel⟩
theorem sc_tokens : FnScope ["text", "found", "wrong"] ["text"] (defScope s_tokens) :=
  ⟨rfl, rfl, rfl, by decide +kernel, rfl, by decide +kernel, by decide +kernel⟩
theorem sc_l_cell : FnScope ["_law_script", "_law_k"] ["_law_script", "_law_k"] (defScope s_l_cell) :=
  ⟨rfl, rfl, rfl, by decide +kernel, rfl, by decide +kernel, by decide +kernel⟩
theorem sc_l_box : FnScope ["_law_cell_here"] ["_law_cell_here"] (defScope s_l_box) :=
  ⟨rfl, rfl, rfl, by decide +kernel, rfl, by decide +kernel, by decide +kernel⟩
theorem sc_l_take : FnScope ["_law_box_here", "_law_many", "_law_digit", "_law_blend"] ["_law_box_here", "_law_many"] (defScope s_l_take) :=
  ⟨rfl, rfl, rfl, by decide +kernel, rfl, by decide +kernel, by decide +kernel⟩
theorem sc_l_run : FnScope ["_law_text_here", "_law_spot", "_law_signs", "_law_most", "_law_many"] ["_law_text_here", "_law_spot", "_law_signs", "_law_most"] (defScope s_l_run) :=
  ⟨rfl, rfl, rfl, by decide +kernel, rfl, by decide +kernel, by decide +kernel⟩
theorem sc_l_word_end : FnScope ["_law_text_here", "_law_spot", "_law_end"] ["_law_text_here", "_law_spot"] (defScope s_l_word_end) :=
  ⟨rfl, rfl, rfl, by decide +kernel, rfl, by decide +kernel, by decide +kernel⟩
theorem sc_l_one : FnScope ["_law_text_here", "_law_spot", "_law_sign", "_law_small", "_law_end", "_law_own"] ["_law_text_here", "_law_spot"] (defScope s_l_one) :=
  ⟨rfl, rfl, rfl, by decide +kernel, rfl, by decide +kernel, by decide +kernel⟩
theorem sc_l_due : FnScope ["_law_text_here", "_law_found", "_law_spot", "_law_close", "_law_end", "_law_long", "_law_glued"] ["_law_text_here"] (defScope s_l_due) :=
  ⟨rfl, rfl, rfl, by decide +kernel, rfl, by decide +kernel, by decide +kernel⟩
theorem sc_l_text : FnScope ["_law_box_here", "_law_some", "_law_odd", "_law_text_here", "_law_k", "_law_spot"] ["_law_box_here"] (defScope s_l_text) :=
  ⟨rfl, rfl, rfl, by decide +kernel, rfl, by decide +kernel, by decide +kernel⟩
theorem sc_l_told : FnScope ["_law_text_here", "e"] ["_law_text_here"] (defScope s_l_told) :=
  ⟨rfl, rfl, rfl, by decide +kernel, rfl, by decide +kernel, by decide +kernel⟩
theorem sc_law : FnScope ["_law_script", "_law_k", "_law_box_here", "_law_turn", "_law_text_here", "_law_due_here", "_law_heard"] ["_law_script"] (defScope s_law) :=
  ⟨rfl, rfl, rfl, by decide +kernel, rfl, by decide +kernel, by decide +kernel⟩
structure Ad where
  CK : Addr
  C_BadText : Addr
  f_BadText_init : Addr
  d_BadText_init : FuncData
  f_letters_of : Addr
  d_letters_of : FuncData
  f_is_begun_word : Addr
  d_is_begun_word : FuncData
  f_is_word : Addr
  d_is_word : FuncData
  f_run_end : Addr
  d_run_end : FuncData
  f_word_end : Addr
  d_word_end : FuncData
  f_token_end : Addr
  d_token_end : FuncData
  f_cut : Addr
  d_cut : FuncData
  f_tokens : Addr
  d_tokens : FuncData
  f_l_cell : Addr
  d_l_cell : FuncData
  f_l_box : Addr
  d_l_box : FuncData
  f_l_take : Addr
  d_l_take : FuncData
  f_l_run : Addr
  d_l_run : FuncData
  f_l_word_end : Addr
  d_l_word_end : FuncData
  f_l_one : Addr
  d_l_one : FuncData
  f_l_due : Addr
  d_l_due : FuncData
  f_l_text : Addr
  d_l_text : FuncData
  f_l_told : Addr
  d_l_told : FuncData
  f_law : Addr
  d_law : FuncData
  t_LETTERS : Tok
  t_CAPITALS : Tok
  t_DIGITS : Tok
  t_MOST_LETTERS : Tok
  t_MOST_DIGITS : Tok
  t_OWN_WORDS : Addr
  t_SIGNS : Tok
structure Txt (K : PySem.W.Frag) (mg : Str → Option Value) (a : Ad) : Prop where
  kb : Wk.KBase K mg a.CK
  e_BadText : Wk.ExcT K mg "BadText" a.C_BadText a.f_BadText_init
  F_BadText_init : Fun K "__init__" "BadText.__init__" s_BadText_init a.f_BadText_init a.d_BadText_init
  b_BadText_init : Binds K a.d_BadText_init ["self", "at"] []
  n_BadText_at : PySem.W.findIn K (.ref a.C_BadText) "at" = some none
  h_letters_of : Wk.FnT K mg "letters_of" s_letters_of a.f_letters_of a.d_letters_of
  b_letters_of : Binds K a.d_letters_of ["text"] []
  h_is_begun_word : Wk.FnT K mg "is_begun_word" s_is_begun_word a.f_is_begun_word a.d_is_begun_word
  b_is_begun_word : Binds K a.d_is_begun_word ["text"] []
  h_is_word : Wk.FnT K mg "is_word" s_is_word a.f_is_word a.d_is_word
  b_is_word : Binds K a.d_is_word ["value"] []
  h_run_end : Wk.FnT K mg "run_end" s_run_end a.f_run_end a.d_run_end
  b_run_end : Binds K a.d_run_end ["text", "begin", "signs", "most"] []
  h_word_end : Wk.FnT K mg "word_end" s_word_end a.f_word_end a.d_word_end
  b_word_end : Binds K a.d_word_end ["text", "begin"] []
  h_token_end : Wk.FnT K mg "token_end" s_token_end a.f_token_end a.d_token_end
  b_token_end : Binds K a.d_token_end ["text", "begin"] []
  h_cut : Wk.FnT K mg "cut" s_cut a.f_cut a.d_cut
  b_cut : Binds K a.d_cut ["text"] []
  h_tokens : Wk.FnT K mg "tokens" s_tokens a.f_tokens a.d_tokens
  b_tokens : Binds K a.d_tokens ["text"] []
  h_l_cell : Wk.FnT K mg "_law_cell" s_l_cell a.f_l_cell a.d_l_cell
  b_l_cell : Binds K a.d_l_cell ["_law_script", "_law_k"] []
  h_l_box : Wk.FnT K mg "_law_box" s_l_box a.f_l_box a.d_l_box
  b_l_box : Binds K a.d_l_box ["_law_cell_here"] []
  h_l_take : Wk.FnT K mg "_law_take" s_l_take a.f_l_take a.d_l_take
  b_l_take : Binds K a.d_l_take ["_law_box_here", "_law_many"] []
  h_l_run : Wk.FnT K mg "_law_run" s_l_run a.f_l_run a.d_l_run
  b_l_run : Binds K a.d_l_run ["_law_text_here", "_law_spot", "_law_signs", "_law_most"] []
  h_l_word_end : Wk.FnT K mg "_law_word_end" s_l_word_end a.f_l_word_end a.d_l_word_end
  b_l_word_end : Binds K a.d_l_word_end ["_law_text_here", "_law_spot"] []
  h_l_one : Wk.FnT K mg "_law_one" s_l_one a.f_l_one a.d_l_one
  b_l_one : Binds K a.d_l_one ["_law_text_here", "_law_spot"] []
  h_l_due : Wk.FnT K mg "_law_due" s_l_due a.f_l_due a.d_l_due
  b_l_due : Binds K a.d_l_due ["_law_text_here"] []
  h_l_text : Wk.FnT K mg "_law_text" s_l_text a.f_l_text a.d_l_text
  b_l_text : Binds K a.d_l_text ["_law_box_here"] []
  h_l_told : Wk.FnT K mg "_law_told" s_l_told a.f_l_told a.d_l_told
  b_l_told : Binds K a.d_l_told ["_law_text_here"] []
  h_law : Wk.FnT K mg "law" s_law a.f_law a.d_law
  g_LETTERS : mg "LETTERS" = some (.str "abcdefghijklmnopqrstuvwxyz" a.t_LETTERS)
  g_CAPITALS : mg "CAPITALS" = some (.str "ABCDEFGHIJKLMNOPQRSTUVWXYZ" a.t_CAPITALS)
  g_DIGITS : mg "DIGITS" = some (.str "0123456789" a.t_DIGITS)
  g_MOST_LETTERS : mg "MOST_LETTERS" = some (.int 6 a.t_MOST_LETTERS)
  g_MOST_DIGITS : mg "MOST_DIGITS" = some (.int 3 a.t_MOST_DIGITS)
  g_OWN_WORDS : mg "OWN_WORDS" = some (.ref a.t_OWN_WORDS)
  q_OWN_WORDS : ∀ H, SqT K H a.t_OWN_WORDS [V.str "fn", V.str "let", V.str "in", V.str "rec", V.str "match", V.str "with", V.str "fail", V.str "num"]
  g_SIGNS : mg "SIGNS" = some (.str "(){}[]<>=,;:.|+-*/@^_" a.t_SIGNS)
  z_all : mg "all" = none
  z_bool : mg "bool" = none
  z_isinstance : mg "isinstance" = none
  z_len : mg "len" = none
  z_list : mg "list" = none
  z_max : mg "max" = none
  z_min : mg "min" = none
  z_range : mg "range" = none
  z_str : mg "str" = none
theorem eL : (Str.ofString "abcdefghijklmnopqrstuvwxyz").cps.toList = LL := by decide +kernel
theorem eC : (Str.ofString "ABCDEFGHIJKLMNOPQRSTUVWXYZ").cps.toList = CC := by decide +kernel
theorem eD : (Str.ofString "0123456789").cps.toList = DD := by decide +kernel
theorem eN : (Str.ofString "123456789").cps.toList = NN := by decide +kernel
theorem eS : (Str.ofString "(){}[]<>=,;:.|+-*/@^_").cps.toList = SS := by decide +kernel
theorem eQ : (Str.ofString "'$").cps.toList = [39, 36] := by decide +kernel
theorem eSQ : (Str.ofString "(){}[]<>=,;:.|+-*/@^_'$").cps.toList = SS ++ [39, 36] := by decide +kernel
theorem cut_one (z : Str) (n : Nat) : cutS z (some (n : Int)) (some ((n : Int) + 1)) = S (sl (cs z) n (n + 1)) := cut_mid z n (n + 1)
theorem cut_two (z : Str) (n : Nat) : cutS z (some (n : Int)) (some ((n : Int) + 2)) = S (sl (cs z) n (n + 2)) := cut_mid z n (n + 2)
section
variable {P : Program} {w : World} {K : PySem.W.Frag} {mg : Str → Option Value} {base : Heap} {a : Ad}
/-! ### the package -/
def sp_letters_of : Sp := fun vs H Q _ => ∃ z : Str, vs = [.str z] ∧ z.length ≤ 1000 ∧ Q (.str (S ((cs z).take (rl (cs z) 0 LL z.length)))) H
theorem ok_letters_of (T : Txt K mg a) : FnOk P w K mg base CX0 1 a.f_letters_of a.d_letters_of ["text"] sp_letters_of := by
  refine T.h_letters_of.F.ok sc_letters_of (fun vs H Q E h => ?_) (fun cdv A outer s H vs Q E hr h => ?_)
  · obtain ⟨z, rfl, _⟩ := h
    rfl
  · obtain ⟨z, rfl, hz, k⟩ := h
    refine ⟨_, (pss_cons (ps_set (i := 1) sc_letters_of.nd rfl (.inl rfl) pe_int)
  (pss_cons (ps_while PassesOwn.never (PW.pt (pw_and (pt_cmpR op_lt (pv 1) (pe_callB call_len_str (by rfl) T.z_len (by decide +kernel) (pa_cons (pv 0) (pa_nil))) (nomark _)) (pw_and1 (pt_cmpR op_in_sign (pe_ix ix_str (pv 0) (pv 1) (fun _ _ => rfl)) (Wk.pe_gstr T.g_LETTERS ) rfl)))) (pss_one (ps_aug (i := 1) sc_letters_of.nd rfl (.inl rfl) pe_int ip_add)))
  (pss_one (ps_ret (pe_slice sl_str (pv 0) po_none (po_some (pv 1))))))), ?_⟩
    walk_at "rd"
    refine ⟨fun m σ H' => ∃ n : Nat, σ = [some (.str z), some (.int n)] ∧ n ≤ rl (cs z) 0 LL z.length ∧ m = rl (cs z) 0 LL z.length - n ∧ H' = H, ⟨_, 0, rfl, Nat.zero_le _, rfl, rfl⟩, ?_⟩
    rintro m σ H' ⟨n, rfl, hn, rfl, rfl⟩
    walk_at "rd"
    rw [eL]
    refine ⟨sz_of (by omega), ite2 (fun h1 => ?_) (fun h1 => ?_)⟩
    · obtain ⟨c, hc⟩ : ∃ c, (cs z)[n]? = some c := ⟨_, List.getElem?_eq_getElem (by rw [cs_len]; omega)⟩
      refine ⟨sz_of (by omega), c, hc, ite2 (fun h2 => ?_) (fun h2 => ?_)⟩
      · have st := (rl_step hn).mpr ⟨c, by omega, by rw [Nat.zero_add]; exact hc, h2⟩
        exact ⟨_, fun _ _ q => q, _, by omega, n + 1, rfl, by omega, rfl, rfl⟩
      · have st : ¬ n < rl (cs z) 0 LL z.length := fun q => by
          obtain ⟨d, _, q1, q2⟩ := (rl_step hn).mp q
          rw [Nat.zero_add, hc] at q1
          cases q1
          exact h2 q2
        refine ⟨sz_of (by omega), ?_⟩
        rw [cut_to, show n = rl (cs z) 0 LL z.length by omega]
        exact k
    · have st : ¬ n < rl (cs z) 0 LL z.length := fun q => by
        obtain ⟨d, q1, _⟩ := (rl_step hn).mp q
        omega
      refine ⟨sz_of (by omega), ?_⟩
      rw [cut_to, show n = rl (cs z) 0 LL z.length by omega]
      exact k
def sp_run_end : Sp := fun vs H Q _ => ∃ (z g : Str) (b m : Nat), vs = [.str z, .int b, .str g, .int m] ∧ z.length ≤ 1000 ∧ Q (.int ((b + rl (cs z) b (cs g) m : Nat) : Int)) H
theorem ok_run_end (T : Txt K mg a) : FnOk P w K mg base CX0 1 a.f_run_end a.d_run_end ["text", "begin", "signs", "most"] sp_run_end := by
  refine T.h_run_end.F.ok sc_run_end (fun vs H Q E h => ?_) (fun cdv A outer s H vs Q E hr h => ?_)
  · obtain ⟨z, g, b, m, rfl, _⟩ := h
    rfl
  · obtain ⟨z, g, b, m, rfl, hz, k⟩ := h
    refine ⟨_, (pss_cons (ps_set (i := 4) sc_run_end.nd rfl (.inl rfl) (pv 1))
  (pss_cons (ps_while PassesOwn.never (PW.pt (pw_and (pt_cmpR op_lt (pv 4) (pe_callB call_len_str (by rfl) T.z_len (by decide +kernel) (pa_cons (pv 0) (pa_nil))) (nomark _)) (pw_and (pt_cmpR op_lt (pv 4) (pe_op op_add (pv 1) (pv 3)) (nomark _)) (pw_and1 (pt_cmpR op_in_sign (pe_ix ix_str (pv 0) (pv 4) (fun _ _ => rfl)) (pv 2) rfl))))) (pss_one (ps_aug (i := 4) sc_run_end.nd rfl (.inl rfl) pe_int ip_add)))
  (pss_one (ps_ret (pv 4))))), ?_⟩
    walk_at "rd"
    refine ⟨fun i σ H' => ∃ n : Nat, σ = [some (.str z), some (.int b), some (.str g), some (.int m), some (.int ((b + n : Nat) : Int))] ∧ n ≤ rl (cs z) b (cs g) m ∧ i = rl (cs z) b (cs g) m - n ∧ H' = H, ⟨_, 0, rfl, Nat.zero_le _, rfl, rfl⟩, ?_⟩
    rintro i σ H' ⟨n, rfl, hn, rfl, rfl⟩
    walk_at "rd"
    have no : ∀ q : ¬ n < rl (cs z) b (cs g) m, Q (.int ((b + n : Nat) : Int)) H' := fun q => by
      rw [show n = rl (cs z) b (cs g) m by omega]
      exact k
    refine ⟨sz_of (by omega), ite2 (fun h1 => ?_) (fun h1 => no fun q => ?_)⟩
    · refine ite2 (fun h2 => ?_) (fun h2 => no fun q => ?_)
      · obtain ⟨c, hc⟩ : ∃ c, (cs z)[b + n]? = some c := ⟨_, List.getElem?_eq_getElem (by rw [cs_len]; omega)⟩
        refine ⟨sz_of (by omega), c, hc, ite2 (fun h3 => ?_) (fun h3 => no fun q => ?_)⟩
        · have st := (rl_step hn).mpr ⟨c, by omega, hc, h3⟩
          exact ⟨_, fun _ _ q => q, _, by omega, n + 1, rfl, by omega, rfl, rfl⟩
        · obtain ⟨d, _, q1, q2⟩ := (rl_step hn).mp q
          rw [hc] at q1
          cases q1
          exact h3 q2
      · obtain ⟨d, q1, _⟩ := (rl_step hn).mp q
        omega
    · obtain ⟨d, q1, q2, _⟩ := (rl_step hn).mp q
      have := (List.getElem?_eq_some_iff.mp q2).1
      rw [cs_len] at this
      omega
def sp_word_end : Sp := fun vs H Q _ => ∃ (z : Str) (b : Nat), vs = [.str z, .int b] ∧ z.length ≤ 1000 ∧ Q (.int ((we (cs z) b : Nat) : Int)) H
theorem ok_word_end (T : Txt K mg a) : FnOk P w K mg base CX0 2 a.f_word_end a.d_word_end ["text", "begin"] sp_word_end := by
  have O_run_end : FnOk P w K mg base CX0 _ _ _ _ _ := ok_run_end T
  refine T.h_word_end.F.ok sc_word_end (fun vs H Q E h => ?_) (fun cdv A outer s H vs Q E hr h => ?_)
  · obtain ⟨z, b, rfl, _⟩ := h
    rfl
  · obtain ⟨z, b, rfl, hz, k⟩ := h
    refine ⟨_, (pss_cons (ps_set (i := 2) sc_word_end.nd rfl (.inl rfl) (pe_call O_run_end (hr.mono (by decide)) rfl T.h_run_end.g T.h_run_end.F.kp T.b_run_end .nil pass0 (pa_cons (pv 0) (pa_cons (pv 1) (pa_cons (Wk.pe_gstr T.g_LETTERS ) (pa_cons (Wk.pe_gint T.g_MOST_LETTERS ) (pa_nil)))))))
  (pss_cons (ps_if (PW.pt (pw_and (pt_cmpR op_gt (pv 2) (pv 1) (nomark _)) (pw_and1 (pt_cmpR op_ne (pe_slice sl_str (pv 0) (po_some (pv 2)) (po_some (pe_op op_add (pv 2) pe_int))) pe_str (nomark _))))) (pss_one (ps_set (i := 2) sc_word_end.nd rfl (.inl rfl) (pe_call O_run_end (hr.mono (by decide)) rfl T.h_run_end.g T.h_run_end.F.kp T.b_run_end .nil pass0 (pa_cons (pv 0) (pa_cons (pv 2) (pa_cons (Wk.pe_gstr T.g_DIGITS ) (pa_cons (Wk.pe_gint T.g_MOST_DIGITS ) (pa_nil)))))))) pss_nil)
  (pss_one (ps_ret (pv 2))))), ?_⟩
    walk_at "rd"
    refine ⟨z, _, b, 6, rfl, hz, ?_⟩
    rw [show cs (Str.ofString "abcdefghijklmnopqrstuvwxyz") = LL from eL]
    walk_at "rd"
    rw [cut_one]
    unfold we at k
    refine ite2 (fun h1 => ⟨sz_of (by omega), ?_⟩) (fun h1 => ?_)
    · refine ite2 (fun h2 => ?_) (fun h2 => ?_)
      · refine ⟨z, _, b + rl (cs z) b LL 6, 3, rfl, hz, ?_⟩
        rw [show cs (Str.ofString "0123456789") = DD from eD]
        have h3 : sl (cs z) (b + rl (cs z) b LL 6) (b + rl (cs z) b LL 6 + 1) ≠ [48] := fun q => by
          rw [q] at h2
          revert h2
          decide +kernel
        rw [if_pos ⟨by omega, h3⟩] at k
        exact k
      · have h4 := congrArg cs (Classical.not_not.mp h2)
        rw [cs_S] at h4
        have h5 : sl (cs z) (b + rl (cs z) b LL 6) (b + rl (cs z) b LL 6 + 1) = [48] := by
          rw [h4]
          decide +kernel
        rw [if_neg (fun q => q.2 h5)] at k
        exact k
    · rw [if_neg (fun q => h1 (by omega))] at k
      exact k
theorem sw0 (l : List Nat) : Txt.startswith (S l) (Str.ofString "0") = (l.head? == some 48) := by
  cases l with
  | nil => decide +kernel
  | cons c l =>
    show (decide (0 + 1 ≤ (c :: l).toArray.size) && ((c :: l).toArray.extract 0 (0 + 1) == (Str.ofString "0").cps)) = (some c == some 48)
    have e1 : (c :: l).toArray.extract 0 (0 + 1) = #[c] := by simp
    have e2 : (Str.ofString "0").cps = #[48] := by decide +kernel
    rw [e1, e2]
    by_cases h : c = 48
    · subst h
      simp
    · simp [h]
def sp_begun : Sp := fun vs H Q _ => ∃ z : Str, vs = [.str z] ∧ z.length ≤ 1000 ∧ ∀ H', Same H H' → Q (.bl (bg (cs z))) H'
theorem ok_begun (T : Txt K mg a) : FnOk P w K mg base CX0 2 a.f_is_begun_word a.d_is_begun_word ["text"] sp_begun := by
  have O_letters_of : FnOk P w K mg base CX0 _ _ _ _ _ := ok_letters_of T
  refine T.h_is_begun_word.F.ok sc_is_begun_word (fun vs H Q E h => ?_) (fun cdv A outer s H vs Q E hr h => ?_)
  · obtain ⟨z, rfl, _⟩ := h
    rfl
  · obtain ⟨z, rfl, hz, k⟩ := h
    refine ⟨_, (pss_cons (ps_set (i := 1) sc_is_begun_word.nd rfl (.inl rfl) (pe_call O_letters_of (hr.mono (by decide)) rfl T.h_letters_of.g T.h_letters_of.F.kp T.b_letters_of .nil pass0 (pa_cons (pv 0) (pa_nil))))
  (pss_cons (ps_set (i := 2) sc_is_begun_word.nd rfl (.inl rfl) (pe_slice sl_str (pv 0) (po_some (pe_callB call_len_str (by rfl) T.z_len (by decide +kernel) (pa_cons (pv 1) (pa_nil)))) po_none))
  (pss_cons (ps_if (PW.pt (pw_or (pt_not (pt_chain op_le op_le pe_int (pe_callB call_len_str (by rfl) T.z_len (by decide +kernel) (pa_cons (pv 1) (pa_nil))) (Wk.pe_gint T.g_MOST_LETTERS ))) (pw_or1 (pt_cmpR op_gt (pe_callB call_len_str (by rfl) T.z_len (by decide +kernel) (pa_cons (pv 2) (pa_nil))) (Wk.pe_gint T.g_MOST_DIGITS ) (nomark _))))) (pss_one (ps_ret pe_bl)) pss_nil)
  (pss_one (ps_ret (pe_and (pe_callB (cr_all rfl) (by rfl) T.z_all (by decide +kernel) (pa_cons (pe_lc (own := [("sign", 3)]) (g := gName 3) (tt := tYes) rfl sc_is_begun_word.nd (pi_str (pv 2)) (blkOk_by (own := [("sign", 3)]) (N := ["text", "letters", "digits", "sign"]) (sc := defScope s_is_begun_word) (by decide +kernel)) (fun _ _ _ _ _ => pg_name (i := 3) sc_is_begun_word.nd rfl (Or.inl rfl)) (fun _ _ _ _ _ => pts_nil) (fun _ _ _ _ _ => (pe_cmpR op_in_sign (pv 3) (Wk.pe_gstr T.g_DIGITS ) rfl))) (pa_nil))) (pe_one (pe_not (pe_m1 PySem.F.slot_str_startswith PySem.F.type_str_startswith mt_startswith (pv 2) pe_str))))))))), ?_⟩
    walk_at "rd"
    refine ⟨z, rfl, hz, ?_⟩
    walk_at "rd"
    have hr0 := rl_len (cs z) 0 LL z.length
    rw [cs_len, Nat.sub_zero] at hr0
    have hl : (S ((cs z).take (rl (cs z) 0 LL z.length))).length = rl (cs z) 0 LL z.length := by
      rw [S_len, List.length_take, cs_len]
      omega
    rw [hl, cut_from]
    have hd : (S ((cs z).drop (rl (cs z) 0 LL z.length))).length = ((cs z).drop (rl (cs z) 0 LL z.length)).length := S_len _
    have hd2 : ((cs z).drop (rl (cs z) 0 LL z.length)).length ≤ 1000 := by
      rw [List.length_drop, cs_len]
      omega
    rw [hd]
    have ez : (cs z).length = z.length := cs_len z
    unfold bg at k
    rw [ez] at k
    generalize rl (cs z) 0 LL z.length = n at *
    generalize (cs z).drop n = d at *
    refine ⟨sz_of (by omega), sz_of (by omega), sz_of (by omega), ite2 (fun h1 => ?_) (fun h1 => ?_)⟩
    · refine ite2 (fun h2 => ?_) (fun h2 => ?_)
      · have := k H (Same.refl H)
        rw [decide_eq_false (p := n ≤ 6) (by omega), Bool.and_false] at this
        simpa using this
      · refine ⟨sz_of (by omega), ite2 (fun h3 => ?_) (fun h3 => ?_)⟩
        · have := k H (Same.refl H)
          rw [decide_eq_false (p := d.length ≤ 3) (by omega), Bool.and_false] at this
          simpa using this
        · rw [decide_eq_true (p := 1 ≤ n) (by omega), decide_eq_true (p := n ≤ 6) (by omega), decide_eq_true (p := d.length ≤ 3) (by omega)] at k
          refine ⟨_, rfl, _, rfl, fun D hD => lc_it walk_str (fun i H' => H' D = some (.lst ((d.take i).map fun c => V.bl (decide (c ∈ DD)))) ∧ Same H H') ?_ (fun _ _ _ _ => True.intro) ?_ ?_⟩
          · exact ⟨upd_same, fun b o e => by rw [upd_ne (ne_of_none e hD)]; exact e⟩
          · rintro i x H1 H2 hi ⟨e1, e2⟩ ⟨rfl, c, hc, rfl⟩
            have hc' : d[i]? = some c := by simpa using hc
            walk_at "rd"
            refine ⟨rfl, _, rfl, c, rfl, _, e1, sz_lt (by rw [List.length_map, List.length_take]; omega), ?_, fun b o e => ?_⟩
            · rw [eD, List.take_succ, hc']
              simp
            · have : b ≠ D := fun q => by
                rw [q, hD] at e
                cases e
              rw [upd_ne this]
              exact e2 b o e
          · rintro H1 ⟨e1, e2⟩
            have e3 : (S d).cps.size = d.length := by simp
            rw [e3, List.take_length] at e1
            refine ⟨D, d.map (fun c => decide (c ∈ DD)), rfl, SqL.of (by rw [e1, List.map_map]; rfl), _, rfl, ?_⟩
            have := k H1 e2
            rw [sw0]
            have e4 : (d.map (fun c => decide (c ∈ DD))).all id = d.all fun c => decide (c ∈ DD) := by rw [List.all_map]; rfl
            rw [e4]
            refine ite_b (fun h => ⟨⟨_, rfl⟩, ?_⟩) (fun h => ?_)
            · rw [h] at this
              exact this
            · rw [h] at this
              exact this
    · have := k H (Same.refl H)
      rw [decide_eq_false (p := 1 ≤ n) (by omega), Bool.false_and, Bool.false_and, Bool.false_and, Bool.false_and] at this
      exact this
theorem e_own : [V.str (Str.ofString "fn"), V.str (Str.ofString "let"), V.str (Str.ofString "in"), V.str (Str.ofString "rec"), V.str (Str.ofString "match"), V.str (Str.ofString "with"), V.str (Str.ofString "fail"), V.str (Str.ofString "num")] = own.map (fun l => V.str (S l)) := by decide +kernel
theorem e_q : [V.str (Str.ofString "'"), V.str (Str.ofString "$")] = ([[39], [36]] : List (List Nat)).map (fun l => V.str (S l)) := by decide +kernel
theorem in_q (c : Nat) : inV (.str ⟨#[c]⟩) [V.str (Str.ofString "'"), V.str (Str.ofString "$")] = decide (c = 39 ∨ c = 36) := by
  rw [e_q, inV_strs]
  have : cs (⟨#[c]⟩ : Str) = [c] := rfl
  rw [this]
  simp
def sp_is_word : Sp := fun vs H Q _ => ∃ z : Str, vs = [.str z] ∧ z.length ≤ 1000 ∧ ∀ H', Same H H' → Q (.bl (isw (cs z))) H'
theorem ok_is_word (T : Txt K mg a) : FnOk P w K mg base CX0 3 a.f_is_word a.d_is_word ["value"] sp_is_word := by
  have O_is_begun_word : FnOk P w K mg base CX0 _ _ _ _ _ := ok_begun T
  refine T.h_is_word.F.ok sc_is_word (fun vs H Q E h => ?_) (fun cdv A outer s H vs Q E hr h => ?_)
  · obtain ⟨z, rfl, _⟩ := h
    rfl
  · obtain ⟨z, rfl, hz, k⟩ := h
    refine ⟨_, (pss_one (ps_ret (pe_and (pe_callB call_isi (by rfl) T.z_isinstance (by decide +kernel) (pa_cons (pv 0) (pa_cons (pe_bltn (by rfl) T.z_str (by decide +kernel) (show RelV (.ty "str") _ from rfl)) pa_nil))) (pe_and (pe_cmpR op_notIn_seq (pv 0) (Wk.pe_gref T.g_OWN_WORDS ) rfl) (pe_one (pe_call O_is_begun_word (hr.mono (by decide)) rfl T.h_is_begun_word.g T.h_is_begun_word.F.kp T.b_is_begun_word .nil pass0 (pa_cons (pv 0) (pa_nil)))))))), ?_⟩
    walk_at "rd"
    refine isi_str ?_
    walk_at "rd"
    refine rin_t (T.q_OWN_WORDS H) rfl rfl ?_
    rw [e_own, inV_strs]
    walk_at "rd"
    unfold isw at k
    refine ite2 (fun h => ?_) (fun h => ?_)
    · refine ⟨z, rfl, hz, fun H' e => ?_⟩
      have := k H' e
      rw [decide_eq_false h] at this
      exact this
    · have := k H (Same.refl H)
      rw [decide_eq_true (Classical.not_not.mp h)] at this
      exact this
def sp_token_end : Sp := fun vs H Q _ => ∃ (z : Str) (i c : Nat), vs = [.str z, .int i] ∧ z.length ≤ 1000 ∧ (cs z)[i]? = some c ∧ ∀ H', Same H H' → Q (.int ((te (cs z) i c : Nat) : Int)) H'
theorem ok_token_end (T : Txt K mg a) : FnOk P w K mg base CX0 4 a.f_token_end a.d_token_end ["text", "begin"] sp_token_end := by
  have O_run_end : FnOk P w K mg base CX0 _ _ _ _ _ := ok_run_end T
  have O_word_end : FnOk P w K mg base CX0 _ _ _ _ _ := ok_word_end T
  have O_is_word : FnOk P w K mg base CX0 _ _ _ _ _ := ok_is_word T
  refine T.h_token_end.F.ok sc_token_end (fun vs H Q E h => ?_) (fun cdv A outer s H vs Q E hr h => ?_)
  · obtain ⟨z, i, c, rfl, _⟩ := h
    rfl
  · obtain ⟨z, i, c, rfl, hz, hc, k⟩ := h
    refine ⟨_, (pss_cons (ps_set (i := 2) sc_token_end.nd rfl (.inl rfl) (pe_ix ix_str (pv 0) (pv 1) (fun _ _ => rfl)))
  (pss_cons (ps_if (pt_cmpR op_in_sign (pv 2) (Wk.pe_gstr T.g_LETTERS ) rfl) (pss_one (ps_ret (pe_call O_word_end (hr.mono (by decide)) rfl T.h_word_end.g T.h_word_end.F.kp T.b_word_end .nil pass0 (pa_cons (pv 0) (pa_cons (pv 1) (pa_nil)))))) pss_nil)
  (pss_cons (ps_if (pt_cmpR op_in_sign (pv 2) (Wk.pe_gstr T.g_CAPITALS ) rfl) (pss_one (ps_ret (pe_call O_run_end (hr.mono (by decide)) rfl T.h_run_end.g T.h_run_end.F.kp T.b_run_end .nil pass0 (pa_cons (pv 0) (pa_cons (pe_op op_add (pv 1) pe_int) (pa_cons (Wk.pe_gstr T.g_LETTERS ) (pa_cons (pe_op op_sub (Wk.pe_gint T.g_MOST_LETTERS ) pe_int) (pa_nil)))))))) pss_nil)
  (pss_cons (ps_if (pt_cmpR op_in_sign (pv 2) (Wk.pe_gstr T.g_DIGITS ) rfl) (pss_one (ps_ret (pe_ifExp (pt_cmpR op_eq (pv 2) pe_str (nomark _)) (pe_op op_add (pv 1) pe_int) (pe_call O_run_end (hr.mono (by decide)) rfl T.h_run_end.g T.h_run_end.F.kp T.b_run_end .nil pass0 (pa_cons (pv 0) (pa_cons (pv 1) (pa_cons (Wk.pe_gstr T.g_DIGITS ) (pa_cons (pe_callB call_len_str (by rfl) T.z_len (by decide +kernel) (pa_cons (pv 0) (pa_nil))) (pa_nil))))))))) pss_nil)
  (pss_cons (ps_if (pt_cmpR op_in_seq (pv 2) (pe_tup (pa_cons pe_str (pa_cons pe_str (pa_nil)))) rfl) (pss_cons (ps_set (i := 3) sc_token_end.nd rfl (.inl rfl) (pe_call O_word_end (hr.mono (by decide)) rfl T.h_word_end.g T.h_word_end.F.kp T.b_word_end .nil pass0 (pa_cons (pv 0) (pa_cons (pe_op op_add (pv 1) pe_int) (pa_nil)))))
  (pss_one (ps_ret (pe_ifExp (pt_val (pe_call O_is_word (hr.mono (by decide)) rfl T.h_is_word.g T.h_is_word.F.kp T.b_is_word .nil pass0 (pa_cons (pe_slice sl_str (pv 0) (po_some (pe_op op_add (pv 1) pe_int)) (po_some (pv 3))) (pa_nil)))) (pv 3) (pv 1))))) pss_nil)
  (pss_cons (ps_if (pt_cmpR op_eq (pe_slice sl_str (pv 0) (po_some (pv 1)) (po_some (pe_op op_add (pv 1) pe_int))) pe_str (nomark _)) (pss_one (ps_ret (pe_op op_add (pv 1) pe_int))) pss_nil)
  (pss_one (ps_ret (pe_ifExp (pt_cmpR op_in_sign (pv 2) (Wk.pe_gstr T.g_SIGNS ) rfl) (pe_op op_add (pv 1) pe_int) (pv 1)))))))))), ?_⟩
    walk_at "rd"
    rw [eL, eC, eD, eS]
    refine ⟨sz_of (by omega), c, hc, ?_⟩
    unfold te at k
    refine ite2 (fun h1 => ?_) (fun h1 => ?_)
    · rw [if_pos h1] at k
      exact ⟨z, i, rfl, hz, k H (Same.refl H)⟩
    rw [if_neg h1] at k
    refine ite2 (fun h2 => ?_) (fun h2 => ?_)
    · rw [if_pos h2] at k
      refine ⟨z, _, i + 1, 5, rfl, hz, ?_⟩
      rw [show cs (Str.ofString "abcdefghijklmnopqrstuvwxyz") = LL from eL]
      exact k H (Same.refl H)
    rw [if_neg h2] at k
    refine ite2 (fun h3 => ?_) (fun h3 => ?_)
    · rw [if_pos h3] at k
      have h0 : ((⟨#[c]⟩ : Str) = Str.ofString "0") ↔ c = 48 := by
        rw [show Str.ofString "0" = ⟨#[48]⟩ by decide +kernel, one_inj]
      refine ite2 (fun h4 => ?_) (fun h4 => ?_)
      · rw [if_pos (h0.mp h4)] at k
        exact k H (Same.refl H)
      · rw [if_neg (fun q => h4 (h0.mpr q)), cs_len] at k
        refine ⟨sz_of (by omega), z, _, i, z.length, rfl, hz, ?_⟩
        rw [show cs (Str.ofString "0123456789") = DD from eD]
        exact k H (Same.refl H)
    rw [if_neg h3] at k
    refine ⟨by decide, fun p hp => ?_⟩
    refine rin_t (SqT.of upd_same) rfl rfl ?_
    have sp : Same H (upd H p (HO.tup [V.str (Str.ofString "'"), V.str (Str.ofString "$")])) := fun b o e => by
      rw [upd_ne (ne_of_none e hp)]
      exact e
    rw [in_q]
    walk_at "rd"
    refine ite2 (fun h4 => ?_) (fun h4 => ?_)
    · rw [if_pos h4] at k
      refine ⟨z, i + 1, rfl, hz, _, rfl, sz_of (by omega), ?_⟩
      rw [show cutS z (some ((i : Int) + 1)) (some ((we (cs z) (i + 1) : Nat) : Int)) = S (sl (cs z) (i + 1) (we (cs z) (i + 1))) from cut_mid z (i + 1) _]
      refine ⟨_, rfl, ?_, fun H' e => ⟨_, rfl, ?_⟩⟩
      · rw [S_len]
        unfold sl
        rw [List.length_take, List.length_drop, cs_len]
        omega
      · rw [cs_S]
        refine ite2 (fun h5 => ?_) (fun h5 => ?_)
        · rw [if_pos h5] at k
          exact k _ (sp.trans e)
        · rw [if_neg h5] at k
          exact k _ (sp.trans e)
    rw [if_neg h4] at k
    refine ⟨sz_of (by omega), ?_⟩
    rw [cut_two]
    have ha : (S (sl (cs z) i (i + 2)) = Str.ofString "->") ↔ sl (cs z) i (i + 2) = [45, 62] := by
      rw [show Str.ofString "->" = S [45, 62] by decide +kernel]
      exact S_inj
    refine ite2 (fun h5 => ?_) (fun h5 => ?_)
    · rw [if_pos (ha.mp h5)] at k
      exact k _ sp
    rw [if_neg (fun q => h5 (ha.mpr q))] at k
    refine ite2 (fun h6 => ?_) (fun h6 => ?_)
    · rw [if_pos h6] at k
      exact k _ sp
    · rw [if_neg h6] at k
      exact k _ sp
/-- the list of tokens found so far -/
def TkAll (H : Hp) : List V → List (List Nat × Nat) → Prop
  | [], [] => True
  | v :: vs, t :: ts => (∃ q, v = .ref q ∧ H q = some (.tup [.str (S t.1), .int (t.2 : Int)])) ∧ TkAll H vs ts
  | _, _ => False
theorem TkAll.mono {H H' : Hp} (e : TSame H H') : ∀ {vs : List V} {ts : List (List Nat × Nat)}, TkAll H vs ts → TkAll H' vs ts
  | [], [], _ => True.intro
  | v :: vs, t :: ts, ⟨⟨q, h1, h2⟩, h3⟩ => ⟨⟨q, h1, e _ _ h2⟩, h3.mono e⟩
  | [], _ :: _, h => h.elim
  | _ :: _, [], h => h.elim
theorem TkAll.add {H : Hp} {q : Addr} {t : List Nat × Nat} (hq : H q = some (.tup [.str (S t.1), .int (t.2 : Int)])) : ∀ {vs : List V} {ts : List (List Nat × Nat)}, TkAll H vs ts → TkAll H (vs ++ [.ref q]) (ts ++ [t])
  | [], [], _ => ⟨⟨q, rfl, hq⟩, True.intro⟩
  | v :: vs, u :: ts, ⟨h1, h3⟩ => ⟨h1, h3.add hq⟩
  | [], _ :: _, h => h.elim
  | _ :: _, [], h => h.elim
theorem TkAll.len {H : Hp} : ∀ {vs : List V} {ts : List (List Nat × Nat)}, TkAll H vs ts → vs.length = ts.length
  | [], [], _ => rfl
  | v :: vs, u :: ts, ⟨h1, h3⟩ => congrArg Nat.succ h3.len
  | [], _ :: _, h => h.elim
  | _ :: _, [], h => h.elim
def pd (t : List Nat × Nat) : PyData := .tuple [.str (S t.1), .int (t.2 : Int)]
theorem TkAll.dp {K : PySem.W.Frag} {H : Hp} : ∀ {vs : List V} {ts : List (List Nat × Nat)}, TkAll H vs ts → DpAll K H vs (ts.map pd)
  | [], [], _ => .nil
  | v :: vs, u :: ts, ⟨⟨q, h1, h2⟩, h3⟩ => by
    subst h1
    exact .cons (.tup (SqT.of h2) (.cons (.str _) (.cons (.int _) .nil))) h3.dp
  | [], _ :: _, h => h.elim
  | _ :: _, [], h => h.elim
abbrev res (z : Str) : List (List Nat × Nat) × Option Nat := scan (cs z) (z.length + 1) 0 false []
def endV : Option Nat → V
  | none => .non
  | some n => .int (n : Int)
theorem eALN : (Str.ofString "abcdefghijklmnopqrstuvwxyz" ++ Str.ofString "ABCDEFGHIJKLMNOPQRSTUVWXYZ" ++ Str.ofString "0123456789").cps.toList = ALN := by decide +kernel
theorem eALNQ : (Str.ofString "abcdefghijklmnopqrstuvwxyz" ++ Str.ofString "ABCDEFGHIJKLMNOPQRSTUVWXYZ" ++ Str.ofString "0123456789" ++ Str.ofString "'$").cps.toList = ALN ++ [39, 36] := by decide +kernel
theorem sp_iff {c : Nat} : ((⟨#[c]⟩ : Str) = Str.ofString " ") ↔ c = 32 := by
  rw [show Str.ofString " " = ⟨#[32]⟩ by decide +kernel, one_inj]
/-- a new pair of the new list of all tokens (those ahead of a wrong sign) and None or the wrong sign's place -/
def sp_cut : Sp := fun vs H Q _ => ∃ z : Str, vs = [.str z] ∧ z.length ≤ 1000 ∧
  ∀ (H' : Hp) (p l : Addr) (xs : List V), Same H H' → H l = none → H' p = some (.tup [.ref l, endV (res z).2]) → H' l = some (.lst xs) → TkAll H' xs (res z).1 → Q (.ref p) H'
theorem ok_cut (T : Txt K mg a) : FnOk P w K mg base CX0 5 a.f_cut a.d_cut ["text"] sp_cut := by
  have O_token_end : FnOk P w K mg base CX0 _ _ _ _ _ := ok_token_end T
  refine T.h_cut.F.ok sc_cut (fun vs H Q E h => ?_) (fun cdv A outer s H vs Q E hr h => ?_)
  · obtain ⟨z, rfl, _⟩ := h
    rfl
  · obtain ⟨z, rfl, hz, k⟩ := h
    refine ⟨_, (pss_cons (ps_par3 (i := 1) (j := 2) (l := 3) (by rfl) sc_cut.nd rfl rfl rfl (by decide) (by decide) (by decide) rfl rfl rfl (pa_cons (pe_lst (pa_nil)) (pa_cons pe_int (pa_cons pe_bl (pa_nil)))) (by rfl))
  (pss_cons (ps_while PassesOwn.never (pt_cmpR op_lt (pv 2) (pe_callB call_len_str (by rfl) T.z_len (by decide +kernel) (pa_cons (pv 0) (pa_nil))) (nomark _)) (pss_one (ps_if (pt_cmpR op_eq (pe_ix ix_str (pv 0) (pv 2) (fun _ _ => rfl)) pe_str (nomark _)) (pss_cons (ps_set (i := 3) sc_cut.nd rfl (.inl rfl) pe_bl)
  (pss_one (ps_aug (i := 2) sc_cut.nd rfl (.inl rfl) pe_int ip_add))) (pss_cons (ps_set (i := 4) sc_cut.nd rfl (.inl rfl) (pe_call O_token_end (hr.mono (by decide)) rfl T.h_token_end.g T.h_token_end.F.kp T.b_token_end .nil pass0 (pa_cons (pv 0) (pa_cons (pv 2) (pa_nil)))))
  (pss_cons (ps_if (PW.pt (pw_or (pt_cmpR op_eq (pv 4) (pv 2) (nomark _)) (pw_or1 (PW.pt (pw_and (pt_val (pv 3)) (pw_and1 (pt_cmpR op_in_sign (pe_ix ix_str (pv 0) (pv 2) (fun _ _ => rfl)) (pe_op op_add_str (pe_op op_add_str (Wk.pe_gstr T.g_LETTERS ) (Wk.pe_gstr T.g_CAPITALS )) (Wk.pe_gstr T.g_DIGITS )) rfl))))))) (pss_one (ps_ret (pe_tup (pa_cons (pv 1) (pa_cons (pv 2) (pa_nil)))))) pss_nil)
  (pss_cons (ps_expr (pe_bm PySem.F.plainAttrs_list PySem.F.slot_list_append PySem.F.type_list_append mt_append (pv 1) (pa_cons (pe_tup (pa_cons (pe_slice sl_str (pv 0) (po_some (pv 2)) (po_some (pv 4))) (pa_cons (pv 2) (pa_nil)))) (pa_nil))))
  (pss_cons (ps_set (i := 3) sc_cut.nd rfl (.inl rfl) (pe_cmpR op_in_sign (pe_ix ix_str (pv 0) (pv 2) (fun _ _ => rfl)) (pe_op op_add_str (pe_op op_add_str (pe_op op_add_str (Wk.pe_gstr T.g_LETTERS ) (Wk.pe_gstr T.g_CAPITALS )) (Wk.pe_gstr T.g_DIGITS )) pe_str) rfl))
  (pss_one (ps_set (i := 2) sc_cut.nd rfl (.inl rfl) (pv 4))))))))))
  (pss_one (ps_ret (pe_tup (pa_cons (pv 1) (pa_cons pe_non (pa_nil)))))))), ?_⟩
    walk_at "rd"
    refine ⟨Nat.zero_le _, fun l hl => ?_⟩
    refine ⟨fun m σ H' => ∃ (n i : Nat) (j : Bool) (acc : List (List Nat × Nat)) (xs : List V) (e : Option V), σ = [some (.str z), some (.ref l), some (.int i), some (.bl j), e] ∧ scan (cs z) n i j acc = res z ∧ z.length < n + i ∧
      acc.length ≤ i ∧ H' l = some (.lst xs) ∧ TkAll H' xs acc ∧ Same H H' ∧ m = z.length - i, ⟨_, z.length + 1, 0, false, [], [], none, rfl, rfl, by omega, Nat.le_refl _, upd_same, True.intro, Same.new hl, rfl⟩, ?_⟩
    rintro m σ H' ⟨n, i, j, acc, xs, e, rfl, hsc, hn, ha, hL, hT, hS, rfl⟩
    walk_at "rd"
    refine ⟨sz_of (by omega), ite2 (fun h1 => ?_) (fun h1 => ?_)⟩
    · refine ⟨_, fun _ _ q => q, sz_of (by omega), ?_⟩
      obtain ⟨c, hc⟩ : ∃ c, (cs z)[i]? = some c := ⟨_, List.getElem?_eq_getElem (by rw [cs_len]; omega)⟩
      obtain ⟨n, rfl⟩ : ∃ n', n = n' + 1 := ⟨n - 1, by omega⟩
      refine ⟨c, hc, ite2 (fun h2 => ?_) (fun h2 => ?_)⟩
      · rw [scan_sp hc (sp_iff.mp h2)] at hsc
        exact ⟨_, by omega, n, i + 1, false, acc, xs, e, rfl, hsc, by omega, by omega, hL, hT, hS, rfl⟩
      · have h2' : c ≠ 32 := fun q => h2 (sp_iff.mpr q)
        refine ⟨z, i, c, rfl, hz, hc, fun H1 e1 => ?_⟩
        walk_at "rd"
        have hL1 := e1 _ _ hL
        have stop : (te (cs z) i c = i ∨ (j = true ∧ c ∈ ALN)) → ∀ p, H1 p = none → Q (.ref p) (upd H1 p (.tup [.ref l, .int (i : Int)])) := fun hs p hp => by
          rw [scan_stop hc h2' hs] at hsc
          refine k _ p l xs ((hS.trans e1).trans (Same.new hp)) hl ?_ ?_ ?_
          · rw [upd_same, ← hsc]
            rfl
          · rw [upd_ne (ne_of_none hL1 hp)]
            exact hL1
          · rw [← hsc]
            exact hT.mono (.of (e1.trans (Same.new hp)))
        have hin : ∀ x, x ∈ (Str.ofString "abcdefghijklmnopqrstuvwxyz" ++ Str.ofString "ABCDEFGHIJKLMNOPQRSTUVWXYZ" ++ Str.ofString "0123456789").cps.toList ↔ x ∈ ALN := fun x => by rw [eALN]
        by_cases hs : te (cs z) i c = i ∨ (j = true ∧ c ∈ ALN)
        · refine ite2 (fun _ => ⟨by decide, stop hs⟩) (fun h3 => ?_)
          have hs2 : j = true ∧ c ∈ ALN := hs.resolve_left fun q => h3 (by rw [q])
          rw [if_pos hs2.1]
          refine ⟨sz_of (by omega), c, hc, by decide +kernel, by decide +kernel, ite2 (fun _ => ⟨by decide, stop hs⟩) (fun h4 => absurd ((hin c).mpr hs2.2) h4)⟩
        · have h3 : te (cs z) i c ≠ i := fun q => hs (.inl q)
          have hle := le_te (cs z) i c
          rw [scan_tok hc h2' hs] at hsc
          rw [if_neg (fun q => h3 (by omega))]
          cases j with
          | true =>
            rw [if_pos rfl]
            refine ⟨sz_of (by omega), c, hc, by decide +kernel, by decide +kernel, ite2 (fun h4 => absurd (.inr ⟨rfl, (hin c).mp h4⟩) hs) (fun h4 => ?_)⟩
            refine ⟨.inl ⟨rfl, _, SqL.of hL1⟩, sz_of (by omega), by decide, fun p hp => ⟨xs, by rw [upd_ne (ne_of_none hL1 hp)]; exact hL1, sz_lt (by rw [hT.len]; omega), sz_of (by omega), c, hc, by decide +kernel, by decide +kernel, by decide +kernel, ?_⟩⟩
            have hT2 : TkAll (upd (upd H1 p (.tup [.str (cutS z (some (i : Int)) (some ((te (cs z) i c : Nat) : Int))), .int (i : Int)])) l (.lst (xs ++ [.ref p]))) (xs ++ [.ref p]) (acc ++ [(sl (cs z) i (te (cs z) i c), i)]) := by
              refine TkAll.add ?_ (hT.mono ?_)
              · rw [upd_ne (Ne.symm (ne_of_none hL1 hp)), upd_same, cut_mid]
                rfl
              · refine (TSame.of (e1.trans (Same.new hp))).trans (TSame.lst (vs := xs) ?_)
                rw [upd_ne (ne_of_none hL1 hp)]
                exact hL1
            refine ⟨_, ?_, n, te (cs z) i c, rfl, _, ?_, by omega, ?_, hT2, Same.mut ((hS.trans e1).trans (Same.new hp)) hl, rfl⟩
            · omega
            · rw [← hsc, eALNQ]
              congr 1
              rw [decide_eq_decide]
              simp
            · rw [List.length_append]
              simp
              omega
          | false =>
            rw [if_neg Bool.false_ne_true]
            refine ⟨.inl ⟨rfl, _, SqL.of hL1⟩, sz_of (by omega), by decide, fun p hp => ⟨xs, by rw [upd_ne (ne_of_none hL1 hp)]; exact hL1, sz_lt (by rw [hT.len]; omega), sz_of (by omega), c, hc, by decide +kernel, by decide +kernel, by decide +kernel, ?_⟩⟩
            have hT2 : TkAll (upd (upd H1 p (.tup [.str (cutS z (some (i : Int)) (some ((te (cs z) i c : Nat) : Int))), .int (i : Int)])) l (.lst (xs ++ [.ref p]))) (xs ++ [.ref p]) (acc ++ [(sl (cs z) i (te (cs z) i c), i)]) := by
              refine TkAll.add ?_ (hT.mono ?_)
              · rw [upd_ne (Ne.symm (ne_of_none hL1 hp)), upd_same, cut_mid]
                rfl
              · refine (TSame.of (e1.trans (Same.new hp))).trans (TSame.lst (vs := xs) ?_)
                rw [upd_ne (ne_of_none hL1 hp)]
                exact hL1
            refine ⟨_, ?_, n, te (cs z) i c, rfl, _, ?_, by omega, ?_, hT2, Same.mut ((hS.trans e1).trans (Same.new hp)) hl, rfl⟩
            · omega
            · rw [← hsc, eALNQ]
              congr 1
              rw [decide_eq_decide]
              simp
            · rw [List.length_append]
              simp
              omega
    · have : (cs z)[i]? = none := by
        rw [List.getElem?_eq_none_iff, cs_len]
        omega
      rw [scan_none _ this] at hsc
      refine ⟨by decide, fun p hp => ?_⟩
      refine k _ p l xs (hS.trans (Same.new hp)) hl ?_ ?_ ?_
      · rw [upd_same, ← hsc]
        rfl
      · rw [upd_ne (ne_of_none hL hp)]
        exact hL
      · rw [← hsc]
        exact hT.mono (.of (Same.new hp))
def sp_exc (C : Addr) (f : Str) : Sp := fun vs H Q _ => ∃ (e : Addr) (v : V), vs = [.ref e, v] ∧ H e = some (exo e C none) ∧
  ∀ d, H d = none → d ≠ e → Q .non (upd (upd H d (exd d [(f, v)])) e (exo e C (some d)))
theorem ok_BadText_init (T : Txt K mg a) : FnOk P w K mg base CX0 1 a.f_BadText_init a.d_BadText_init ["self", "at"] (sp_exc a.C_BadText "at") := by
  refine T.F_BadText_init.ok sc_BadText_init (fun vs H Q E h => ?_) (fun cdv A outer s H vs Q E hr h => ?_)
  · obtain ⟨z, v, rfl, _⟩ := h
    rfl
  · obtain ⟨e, v, rfl, he, k⟩ := h
    refine ⟨_, (pss_cons (ps_expr (Wk.pe_kinit T.kb (pa_cons (pv 0) (pa_cons pe_str (pa_nil)))))
  (pss_one (ps_ost (pv 0) (pv 1)))), ?_⟩
    exact ⟨_, rfl, e, a.C_BadText, _, rfl, (by show 1 ≤ 1000; decide), T.e_BadText.o, he, _, rfl, _, rfl, e, a.C_BadText, rfl, T.e_BadText.o, T.n_BadText_at, .inl ⟨he, k⟩⟩
/-- the new list of all tokens; or BadText with the wrong sign's place -/
def sp_tokens (C : Addr) : Sp := fun vs H Q E => ∃ z : Str, vs = [.str z] ∧ z.length ≤ 1000 ∧
  ((res z).2 = none → ∀ (H' : Hp) (l : Addr) (xs : List V), Same H H' → H l = none → H' l = some (.lst xs) → TkAll H' xs (res z).1 → Q (.ref l) H') ∧
  (∀ n, (res z).2 = some n → ∀ (H' : Hp) (d : Addr), Same H H' → H d = none → H' d = some (.xd [(("at" : Str), .int (n : Int))]) → E (.ref C) (some d) H')
theorem ok_tokens (T : Txt K mg a) : FnOk P w K mg base (L2.CX P w) 6 a.f_tokens a.d_tokens ["text"] (sp_tokens a.C_BadText) := by
  have O_cut : FnOk P w K mg base CX0 _ _ _ _ _ := ok_cut T
  have O_BadText_init : FnOk P w K mg base CX0 _ _ _ _ _ := ok_BadText_init T
  refine T.h_tokens.F.okX sc_tokens (fun vs H Q E h => ?_) (fun cdv A outer s H vs Q E hr h => ?_)
  · obtain ⟨z, rfl, _⟩ := h
    rfl
  · obtain ⟨z, rfl, hz, k1, k2⟩ := h
    refine ⟨_, (pss_cons (ps_asg (pe_call O_cut (hr.mono (by decide)) rfl T.h_cut.g T.h_cut.F.kp T.b_cut .nil pass0 (pa_cons (pv 0) (pa_nil))) (pg_tup rfl (pgs_cons (pg_name (i := 1) sc_tokens.nd rfl (.inl rfl)) (pgs_cons (pg_name (i := 2) sc_tokens.nd rfl (.inl rfl)) pgs_nil))))
  (pss_cons (ps_if (pt_cmpR op_notN (pv 2) pe_non (nomark _)) (pss_one (ps_raise rfl (takes_of rfl rfl rfl rfl) (pmk_oex T.e_BadText.o T.e_BadText.iC T.e_BadText.tI O_BadText_init (hr.mono (by decide)) T.b_BadText_init .nil pass0 rfl T.e_BadText.g (pa_cons (pv 2) (pa_nil))))) pss_nil)
  (pss_one (ps_ret (pv 1))))), ?_⟩
    walk_at "rd"
    refine ⟨z, rfl, hz, fun H' p l xs hS hl hp hL hT => ?_⟩
    walk_at "rd"
    refine ⟨_, SqT.of hp, rfl, ?_⟩
    cases hr2 : (res z).2 with
    | none =>
      rw [hr2] at hp
      walk_at "rd"
      rw [if_neg (fun q => q rfl)]
      exact k1 hr2 H' l xs hS hl hL hT
    | some n =>
      rw [hr2] at hp
      walk_at "rd"
      rw [if_pos (by intro q; cases q)]
      refine ⟨by decide, fun e he => ⟨e, _, rfl, upd_same, fun d hd hne => ⟨rfl, d, upd_same, _, by rw [upd_ne hne, upd_same], ?_, ?_⟩⟩⟩
      · rw [upd_ne hne] at hd
        exact hd
      · rw [upd_ne hne] at hd
        exact k2 n hr2 _ d (hS.trans (exc_heap he hd)) (hS.free hd) upd_same
/-- what the law hears: the tokens, or the place -/
def sp_told : Sp := fun vs H Q E => ∃ z : Str, vs = [.str z] ∧ z.length ≤ 1000 ∧
  ((res z).2 = none → ∀ (H' : Hp) (l : Addr) (xs : List V), Same H H' → H l = none → H' l = some (.lst xs) → TkAll H' xs (res z).1 → Q (.ref l) H') ∧
  (∀ n, (res z).2 = some n → ∀ H' : Hp, Same H H' → Q (.int (n : Int)) H')
theorem ok_told (T : Txt K mg a) : FnOk P w K mg base CX0 7 a.f_l_told a.d_l_told ["_law_text_here"] sp_told := by
  have O_tokens : FnOk P w K mg base (L2.CX P w) _ _ _ _ _ := ok_tokens T
  refine T.h_l_told.F.ok sc_l_told (fun vs H Q E h => ?_) (fun cdv A outer s H vs Q E hr h => ?_)
  · obtain ⟨z, rfl, _⟩ := h
    rfl
  · obtain ⟨z, rfl, hz, k1, k2⟩ := h
    refine ⟨_, pss_one (ps_try_as (i := 1) (tb := fun W => tRet (tCallS (sp_tokens a.C_BadText) (WE W) (tCons (tVar 0) tNil))) (ts := fun a0 cls d => tRet (tXf a0 cls d a.C_BadText "at" (tVar 1))) (Wout := fun _ _ _ _ => False) rfl rfl sc_l_told.nd rfl rfl ⟨rfl, by decide, .inl T.e_BadText.g⟩ takes0
      (fun W pn xe tk _ => pss_one (ps_ret (by exact (pe_callS O_tokens (hr.mono (by decide)) rfl T.h_tokens.g T.h_tokens.F.kp T.b_tokens (fun σ => passAt tk σ) (by exact (pa_cons (pv 0) pa_nil))))))
      (fun a0 oe cls d pn hz hf => pss_one (ps_ret (by exact (pe_xf T.e_BadText.xf T.n_BadText_at hz hf (pv 1)))))), ?_⟩
    walk_at "rd"
    refine ⟨z, rfl, hz, k1, fun n hn H' d hS hd hx => ?_⟩
    refine ⟨true, T.e_BadText.te, fun _ a0 _ => ?_, fun q => Bool.noConfusion q⟩
    exact ⟨_, rfl, rfl, rfl, d, _, _, rfl, hx, rfl, k2 n hn H' hS⟩
/-! ### the law's own defs -/
def sp_l_cell (K : PySem.W.Frag) : Sp := fun vs H Q _ => ∃ (p : Addr) (ns : List Int) (i : Nat), vs = [.ref p, .int (i : Int)] ∧ SqL K H p (ns.map V.int) ∧ i ≤ 100 ∧ ∀ n : Int, Q (.int n) H
theorem ok_l_cell (T : Txt K mg a) : FnOk P w K mg base CX0 1 a.f_l_cell a.d_l_cell ["_law_script", "_law_k"] (sp_l_cell K) := by
  refine T.h_l_cell.F.ok sc_l_cell (fun vs H Q E h => ?_) (fun cdv A outer s H vs Q E hr h => ?_)
  · obtain ⟨p, ns, i, rfl, _⟩ := h
    rfl
  · obtain ⟨p, ns, i, rfl, hS, hi, k⟩ := h
    refine ⟨_, (pss_one (ps_ret (pe_ifExp (pt_cmpR op_lt (pv 1) (pe_callB call_len_seq (by rfl) T.z_len (by decide +kernel) (pa_cons (pv 0) (pa_nil))) (nomark _)) (pe_ix ix_list (pv 0) (pv 1) (fun _ _ => rfl)) (pe_op op_add (pe_op op_mul pe_int (pv 1)) pe_int)))), ?_⟩
    walk_at "rd"
    refine ⟨_, .inl hS, ite2 (fun h1 => ?_) (fun h1 => ⟨.inl (by omega), k _⟩)⟩
    rw [List.length_map] at h1
    obtain ⟨n, hn⟩ : ∃ n, ns[i]? = some n := ⟨_, List.getElem?_eq_getElem (by omega)⟩
    exact ⟨p, _, _, _, rfl, rfl, hS, by rw [atI_eq, List.getElem?_map, hn]; rfl, k n⟩
/-- what the law draws from: three numbers, the last one a count -/
def Box (H : Hp) (p : Addr) (n : Nat) : Prop := ∃ (b0 b1 b2 : Int), H p = some (.lst [.int b0, .int b1, .int b2]) ∧ 0 ≤ b0 ∧ 0 ≤ b1 ∧ b1 < 2147483648 ∧ 0 ≤ b2 ∧ b2 ≤ n
def sp_l_box : Sp := fun vs H Q _ => ∃ n : Int, vs = [.int n] ∧ ∀ H' p, Same H H' → H p = none → Box H' p 0 → Q (.ref p) H'
theorem ok_l_box (T : Txt K mg a) : FnOk P w K mg base CX0 1 a.f_l_box a.d_l_box ["_law_cell_here"] sp_l_box := by
  refine T.h_l_box.F.ok sc_l_box (fun vs H Q E h => ?_) (fun cdv A outer s H vs Q E hr h => ?_)
  · obtain ⟨n, rfl, _⟩ := h
    rfl
  · obtain ⟨n, rfl, k⟩ := h
    refine ⟨_, (pss_one (ps_ret (pe_lst (pa_cons (pe_callB (call_max2 rfl) (by rfl) T.z_max (by decide +kernel) (pa_cons pe_int (pa_cons (pe_op op_sub (pv 0) (pe_op op_pow pe_int pe_int)) (pa_nil)))) (pa_cons (pe_op op_modN (pv 0) pe_int) (pa_cons pe_int (pa_nil))))))), ?_⟩
    walk_at "rd"
    refine ⟨⟨by decide, by decide, by decide⟩, by decide, by decide, fun p hp => k _ p (Same.new hp) hp ⟨_, _, _, upd_same, ?_, ?_, ?_, by decide, by decide⟩⟩
    · split <;> omega
    · exact Int.fmod_nonneg_of_pos _ (by decide)
    · exact Int.lt_trans (Int.fmod_lt_of_pos _ (by decide)) (by decide)
def sp_l_take : Sp := fun vs H Q _ => ∃ (p : Addr) (n : Nat) (m : Int), vs = [.ref p, .int m] ∧ Box H p n ∧ n ≤ 1000000 ∧ 0 < m ∧ m < 1073741824 ∧
  ∀ (d : Int) H', 0 ≤ d → d < m → (∀ b o, b ≠ p → H b = some o → H' b = some o) → Box H' p (n + 1) → Q (.int d) H'
theorem ok_l_take (T : Txt K mg a) : FnOk P w K mg base CX0 1 a.f_l_take a.d_l_take ["_law_box_here", "_law_many"] sp_l_take := by
  refine T.h_l_take.F.ok sc_l_take (fun vs H Q E h => ?_) (fun cdv A outer s H vs Q E hr h => ?_)
  · obtain ⟨p, n, m, rfl, _⟩ := h
    rfl
  · obtain ⟨p, n, m, rfl, ⟨b0, b1, b2, hB, g0, g1, g2, g3, g4⟩, hn, hm, hm2, k⟩ := h
    refine ⟨_, (pss_cons (ps_if (pt_cmpR op_gt (pe_ix Wk.ix_listT (pv 0) pe_int (fun _ _ => rfl)) pe_int (nomark _)) (pss_cons (ps_set (i := 2) sc_l_take.nd rfl (.inl rfl) (pe_op op_modN (pe_ix Wk.ix_listT (pv 0) pe_int (fun _ _ => rfl)) (pv 1)))
  (pss_cons (ps_asg (pe_op op_fdivN (pe_ix Wk.ix_listT (pv 0) pe_int (fun _ _ => rfl)) (pv 1)) (pg_sub (pv 0) pe_int set_list))
  (pss_one (ps_ret (pv 2))))) pss_nil)
  (pss_cons (ps_asg (pe_op op_add (pe_ix Wk.ix_listT (pv 0) pe_int (fun _ _ => rfl)) pe_int) (pg_sub (pv 0) pe_int set_list))
  (pss_cons (ps_set (i := 3) sc_l_take.nd rfl (.inl rfl) (pe_op op_modN (pe_op op_pow (pe_op op_add (pe_op op_add (pe_ix Wk.ix_listT (pv 0) pe_int (fun _ _ => rfl)) (pe_op op_mul pe_int (pe_ix Wk.ix_listT (pv 0) pe_int (fun _ _ => rfl)))) pe_int) pe_int) pe_int))
  (pss_cons (ps_set (i := 3) sc_l_take.nd rfl (.inl rfl) (pe_op op_modN (pe_op op_pow (pe_op op_add (pv 3) (pe_op op_mul pe_int (pe_ix Wk.ix_listT (pv 0) pe_int (fun _ _ => rfl)))) pe_int) pe_int))
  (pss_one (ps_ret (pe_op op_modN (pe_op op_fdivN (pv 3) pe_int) (pv 1)))))))), ?_⟩
    walk_at "rd"
    rw [hB]
    walk_at "rd"
    refine ite2 (fun h1 => ⟨by omega, ⟨by omega, by omega⟩, ?_⟩) (fun h1 => ⟨.inl (by omega), ?_⟩)
    · refine k _ _ (Int.fmod_nonneg_of_pos _ hm) (Int.fmod_lt_of_pos _ hm) (fun b o hb e => by rw [upd_ne hb]; exact e) ⟨_, _, _, upd_same, ?_, g1, g2, g3, by omega⟩
      rw [Int.fdiv_eq_ediv_of_nonneg _ (Int.le_of_lt hm)]
      exact Int.ediv_nonneg g0 (Int.le_of_lt hm)
    · generalize hy : ((b1 + 7309 * (b2 + 1) + 29) ^ Int.toNat 5).fmod 2147483647 = y
      have y0 : 0 ≤ y := by rw [← hy]; exact Int.fmod_nonneg_of_pos _ (by decide)
      have y1 : y < 2147483647 := by rw [← hy]; exact Int.fmod_lt_of_pos _ (by decide)
      refine ⟨⟨by decide, by decide, by omega⟩, by decide, .inl (by omega), ⟨by decide, by decide, by omega⟩, by decide, ⟨by decide, by decide⟩, by omega, ?_⟩
      refine k _ _ (Int.fmod_nonneg_of_pos _ hm) (Int.fmod_lt_of_pos _ hm) (fun b o hb e => by rw [upd_ne hb]; exact e) ⟨_, _, _, upd_same, g0, g1, g2, by omega, by omega⟩
def sp_l_run : Sp := fun vs H Q _ => ∃ (z g : Str) (b m : Nat), vs = [.str z, .int b, .str g, .int m] ∧ z.length ≤ 1000 ∧ Q (.int ((rl (cs z) b (cs g) m : Nat) : Int)) H
theorem ok_l_run (T : Txt K mg a) : FnOk P w K mg base CX0 1 a.f_l_run a.d_l_run ["_law_text_here", "_law_spot", "_law_signs", "_law_most"] sp_l_run := by
  refine T.h_l_run.F.ok sc_l_run (fun vs H Q E h => ?_) (fun cdv A outer s H vs Q E hr h => ?_)
  · obtain ⟨z, g, b, m, rfl, _⟩ := h
    rfl
  · obtain ⟨z, g, b, m, rfl, hz, k⟩ := h
    refine ⟨_, (pss_cons (ps_set (i := 4) sc_l_run.nd rfl (.inl rfl) pe_int)
  (pss_cons (ps_while PassesOwn.never (PW.pt (pw_and (pt_cmpR op_lt (pv 4) (pv 3) (nomark _)) (pw_and (pt_cmpR op_lt (pe_op op_add (pv 1) (pv 4)) (pe_callB call_len_str (by rfl) T.z_len (by decide +kernel) (pa_cons (pv 0) (pa_nil))) (nomark _)) (pw_and1 (pt_cmpR op_in_sign (pe_ix ix_str (pv 0) (pe_op op_add (pv 1) (pv 4)) (fun _ _ => rfl)) (pv 2) rfl))))) (pss_one (ps_set (i := 4) sc_l_run.nd rfl (.inl rfl) (pe_op op_add (pv 4) pe_int))))
  (pss_one (ps_ret (pv 4))))), ?_⟩
    walk_at "rd"
    refine ⟨fun i σ H' => ∃ n : Nat, σ = [some (.str z), some (.int b), some (.str g), some (.int m), some (.int (n : Int))] ∧ n ≤ rl (cs z) b (cs g) m ∧ i = rl (cs z) b (cs g) m - n ∧ H' = H, ⟨_, 0, rfl, Nat.zero_le _, rfl, rfl⟩, ?_⟩
    rintro i σ H' ⟨n, rfl, hn, rfl, rfl⟩
    walk_at "rd"
    have no : ∀ q : ¬ n < rl (cs z) b (cs g) m, Q (.int (n : Int)) H' := fun q => by
      rw [show n = rl (cs z) b (cs g) m by omega]
      exact k
    refine ite2 (fun h1 => ⟨sz_of (by omega), ?_⟩) (fun h1 => no fun q => ?_)
    · refine ite2 (fun h2 => ⟨sz_of (by omega), ?_⟩) (fun h2 => no fun q => ?_)
      · obtain ⟨c, hc⟩ : ∃ c, (cs z)[b + n]? = some c := ⟨_, List.getElem?_eq_getElem (by rw [cs_len]; omega)⟩
        refine ⟨c, (atI_eq (cs z) (b + n)).trans hc, ite2 (fun h3 => ?_) (fun h3 => no fun q => ?_)⟩
        · have st := (rl_step hn).mpr ⟨c, by omega, hc, h3⟩
          exact ⟨_, fun _ _ q => q, _, by omega, n + 1, rfl, by omega, rfl, rfl⟩
        · obtain ⟨d, _, q1, q2⟩ := (rl_step hn).mp q
          rw [hc] at q1
          cases q1
          exact h3 q2
      · obtain ⟨d, q1, q2, _⟩ := (rl_step hn).mp q
        have := (List.getElem?_eq_some_iff.mp q2).1
        rw [cs_len] at this
        omega
    · obtain ⟨d, q1, _⟩ := (rl_step hn).mp q
      omega
def sp_l_word_end : Sp := fun vs H Q _ => ∃ (z : Str) (b : Nat), vs = [.str z, .int b] ∧ z.length ≤ 1000 ∧ Q (.int ((we2 (cs z) b : Nat) : Int)) H
theorem ok_l_word_end (T : Txt K mg a) : FnOk P w K mg base CX0 2 a.f_l_word_end a.d_l_word_end ["_law_text_here", "_law_spot"] sp_l_word_end := by
  have O_l_run : FnOk P w K mg base CX0 _ _ _ _ _ := ok_l_run T
  refine T.h_l_word_end.F.ok sc_l_word_end (fun vs H Q E h => ?_) (fun cdv A outer s H vs Q E hr h => ?_)
  · obtain ⟨z, b, rfl, _⟩ := h
    rfl
  · obtain ⟨z, b, rfl, hz, k⟩ := h
    refine ⟨_, (pss_cons (ps_set (i := 2) sc_l_word_end.nd rfl (.inl rfl) (pe_op op_add (pv 1) (pe_call O_l_run (hr.mono (by decide)) rfl T.h_l_run.g T.h_l_run.F.kp T.b_l_run .nil pass0 (pa_cons (pv 0) (pa_cons (pv 1) (pa_cons pe_str (pa_cons pe_int (pa_nil))))))))
  (pss_cons (ps_if (PW.pt (pw_and (pt_cmpR op_lt (pv 2) (pe_callB call_len_str (by rfl) T.z_len (by decide +kernel) (pa_cons (pv 0) (pa_nil))) (nomark _)) (pw_and1 (pt_cmpR op_in_sign (pe_ix ix_str (pv 0) (pv 2) (fun _ _ => rfl)) pe_str rfl)))) (pss_one (ps_set (i := 2) sc_l_word_end.nd rfl (.inl rfl) (pe_op op_add (pv 2) (pe_call O_l_run (hr.mono (by decide)) rfl T.h_l_run.g T.h_l_run.F.kp T.b_l_run .nil pass0 (pa_cons (pv 0) (pa_cons (pv 2) (pa_cons pe_str (pa_cons pe_int (pa_nil))))))))) pss_nil)
  (pss_one (ps_ret (pv 2))))), ?_⟩
    walk_at "rd"
    refine ⟨z, _, b, 6, rfl, hz, ?_⟩
    rw [show cs (Str.ofString "abcdefghijklmnopqrstuvwxyz") = LL from eL]
    refine ⟨_, rfl, sz_of (by omega), ?_⟩
    unfold we2 at k
    refine ite2 (fun h1 => ⟨sz_of (by omega), ?_⟩) (fun h1 => ?_)
    · obtain ⟨c, hc⟩ : ∃ c, (cs z)[b + rl (cs z) b LL 6]? = some c := ⟨_, List.getElem?_eq_getElem (by rw [cs_len]; omega)⟩
      refine ⟨c, (atI_eq (cs z) (b + rl (cs z) b LL 6)).trans hc, ?_⟩
      rw [eN]
      refine ite2 (fun h2 => ?_) (fun h2 => ?_)
      · refine ⟨z, _, b + rl (cs z) b LL 6, 3, rfl, hz, _, rfl, ?_⟩
        rw [show cs (Str.ofString "0123456789") = DD from eD]
        rw [if_pos ⟨c, hc, h2⟩] at k
        exact k
      · rw [if_neg (by rintro ⟨d, q1, q2⟩; rw [hc] at q1; cases q1; exact h2 q2)] at k
        exact k
    · rw [if_neg (by
        rintro ⟨d, q1, q2⟩
        have := (List.getElem?_eq_some_iff.mp q1).1
        rw [cs_len] at this
        omega)] at k
      exact k
def sp_l_one : Sp := fun vs H Q _ => ∃ (z : Str) (i c : Nat), vs = [.str z, .int i] ∧ z.length ≤ 1000 ∧ (cs z)[i]? = some c ∧ ∀ H', Same H H' → Q (.int ((on (cs z) i c : Nat) : Int)) H'
theorem ok_l_one (T : Txt K mg a) : FnOk P w K mg base CX0 3 a.f_l_one a.d_l_one ["_law_text_here", "_law_spot"] sp_l_one := by
  have O_l_run : FnOk P w K mg base CX0 _ _ _ _ _ := ok_l_run T
  have O_l_word_end : FnOk P w K mg base CX0 _ _ _ _ _ := ok_l_word_end T
  refine T.h_l_one.F.ok sc_l_one (fun vs H Q E h => ?_) (fun cdv A outer s H vs Q E hr h => ?_)
  · obtain ⟨z, i, c, rfl, _⟩ := h
    rfl
  · obtain ⟨z, i, c, rfl, hz, hc, k⟩ := h
    refine ⟨_, (pss_cons (ps_par (i := 2) (j := 3) (by rfl) sc_l_one.nd rfl rfl (by decide) rfl rfl (pa_cons (pe_ix ix_str (pv 0) (pv 1) (fun _ _ => rfl)) (pa_cons pe_str (pa_nil))) (by rfl))
  (pss_cons (ps_if (pt_cmpR op_in_sign (pv 2) (pv 3) rfl) (pss_one (ps_ret (pe_call O_l_word_end (hr.mono (by decide)) rfl T.h_l_word_end.g T.h_l_word_end.F.kp T.b_l_word_end .nil pass0 (pa_cons (pv 0) (pa_cons (pv 1) (pa_nil)))))) pss_nil)
  (pss_cons (ps_if (pt_cmpR op_in_sign (pv 2) pe_str rfl) (pss_cons (ps_set (i := 4) sc_l_one.nd rfl (.inl rfl) (pe_ifExp (PW.pt (pw_and (pt_cmpR op_lt (pe_op op_add (pv 1) pe_int) (pe_callB call_len_str (by rfl) T.z_len (by decide +kernel) (pa_cons (pv 0) (pa_nil))) (nomark _)) (pw_and1 (pt_cmpR op_in_sign (pe_ix ix_str (pv 0) (pe_op op_add (pv 1) pe_int) (fun _ _ => rfl)) (pv 3) rfl)))) (pe_call O_l_word_end (hr.mono (by decide)) rfl T.h_l_word_end.g T.h_l_word_end.F.kp T.b_l_word_end .nil pass0 (pa_cons (pv 0) (pa_cons (pe_op op_add (pv 1) pe_int) (pa_nil)))) (pv 1)))
  (pss_cons (ps_set (i := 5) sc_l_one.nd rfl (.inl rfl) (pe_lst (pa_cons pe_str (pa_cons pe_str (pa_cons pe_str (pa_cons pe_str (pa_cons pe_str (pa_cons pe_str (pa_cons pe_str (pa_cons pe_str (pa_nil)))))))))))
  (pss_one (ps_ret (pe_ifExp (pt_cmpR op_in_seq (pe_slice sl_str (pv 0) (po_some (pe_op op_add (pv 1) pe_int)) (po_some (pv 4))) (pv 5) rfl) (pv 1) (pv 4)))))) pss_nil)
  (pss_cons (ps_if (pt_cmpR op_in_sign (pv 2) pe_str rfl) (pss_one (ps_ret (pe_op op_add (pe_op op_add (pv 1) pe_int) (pe_call O_l_run (hr.mono (by decide)) rfl T.h_l_run.g T.h_l_run.F.kp T.b_l_run .nil pass0 (pa_cons (pv 0) (pa_cons (pe_op op_add (pv 1) pe_int) (pa_cons (pv 3) (pa_cons pe_int (pa_nil))))))))) pss_nil)
  (pss_cons (ps_if (pt_cmpR op_in_sign (pv 2) pe_str rfl) (pss_cons (ps_if (pt_cmpR op_eq (pv 2) pe_str (nomark _)) (pss_one (ps_ret (pe_op op_add (pv 1) pe_int))) pss_nil)
  (pss_one (ps_ret (pe_op op_add (pv 1) (pe_call O_l_run (hr.mono (by decide)) rfl T.h_l_run.g T.h_l_run.F.kp T.b_l_run .nil pass0 (pa_cons (pv 0) (pa_cons (pv 1) (pa_cons pe_str (pa_cons (pe_callB call_len_str (by rfl) T.z_len (by decide +kernel) (pa_cons (pv 0) (pa_nil))) (pa_nil)))))))))) pss_nil)
  (pss_cons (ps_if (pt_cmpR op_eq (pe_slice sl_str (pv 0) (po_some (pv 1)) (po_some (pe_op op_add (pv 1) pe_int))) pe_str (nomark _)) (pss_one (ps_ret (pe_op op_add (pv 1) pe_int))) pss_nil)
  (pss_one (ps_ret (pe_ifExp (pt_cmpR op_in_sign (pv 2) pe_str rfl) (pe_op op_add (pv 1) pe_int) (pv 1)))))))))), ?_⟩
    walk_at "rd"
    rw [eL, eC, eD, eS, eQ]
    refine ⟨sz_of (by omega), c, hc, ?_⟩
    unfold on at k
    refine ite2 (fun h1 => ?_) (fun h1 => ?_)
    · rw [if_pos h1] at k
      exact ⟨z, i, rfl, hz, k H (Same.refl H)⟩
    rw [if_neg h1] at k
    refine ite2 (fun h2 => ⟨sz_of (by omega), ?_⟩) (fun h2 => ?_)
    · have h2' : c = 39 ∨ c = 36 := by simpa using h2
      rw [if_pos h2'] at k
      have e0 : cutS z (some ((i : Int) + 1)) (some (i : Int)) = S (sl (cs z) (i + 1) i) := cut_mid z (i + 1) i
      have no : (¬ ∃ c, (cs z)[i + 1]? = some c ∧ c ∈ LL) → ∀ p, H p = none → rIn K false (V.str (cutS z (some ((i : Int) + 1)) (some (i : Int)))) (V.ref p) (upd H p (HO.lst [V.str (Str.ofString "fn"), V.str (Str.ofString "let"), V.str (Str.ofString "in"), V.str (Str.ofString "rec"), V.str (Str.ofString "match"), V.str (Str.ofString "with"), V.str (Str.ofString "fail"), V.str (Str.ofString "num")]))
          fun x H' => ∃ k, x = V.bl k ∧ if k = true then Q (V.int i) H' else Q (V.int i) H' := fun hn p hp => by
        rw [show qe (cs z) i = i from if_neg hn] at k
        refine rin_l (SqL.of upd_same) rfl rfl ⟨_, rfl, ?_⟩
        have e2 := k _ (Same.new (o := HO.lst [V.str (Str.ofString "fn"), V.str (Str.ofString "let"), V.str (Str.ofString "in"), V.str (Str.ofString "rec"), V.str (Str.ofString "match"), V.str (Str.ofString "with"), V.str (Str.ofString "fail"), V.str (Str.ofString "num")]) hp)
        rw [ite_self] at e2
        simp only [ite_self]
        exact e2
      refine ite2 (fun h3 => ⟨sz_of (by omega), ?_⟩) (fun h3 => ⟨by decide, fun p hp => ⟨sz_of (by omega), no ?_ p hp⟩⟩)
      · obtain ⟨d, hd⟩ : ∃ d, (cs z)[i + 1]? = some d := ⟨_, List.getElem?_eq_getElem (by rw [cs_len]; omega)⟩
        refine ⟨d, (atI_eq (cs z) (i + 1)).trans hd, ite2 (fun h4 => ?_) (fun h4 => ⟨by decide, fun p hp => ⟨sz_of (by omega), no ?_ p hp⟩⟩)⟩
        · refine ⟨z, i + 1, rfl, hz, by decide, fun p hp => ⟨_, rfl, sz_of (by omega), ?_⟩⟩
          rw [show cutS z (some ((i : Int) + 1)) (some ((we2 (cs z) (i + 1) : Nat) : Int)) = S (sl (cs z) (i + 1) (we2 (cs z) (i + 1))) from cut_mid z (i + 1) _]
          refine rin_l (SqL.of upd_same) rfl rfl ?_
          rw [e_own, inV_strs, cs_S]
          rw [show qe (cs z) i = we2 (cs z) (i + 1) from if_pos ⟨d, hd, h4⟩] at k
          have e2 := k _ (Same.new (o := HO.lst (own.map fun l => V.str (S l))) hp)
          walk_at "rd"
          refine ite2 (fun h5 => ?_) (fun h5 => ?_)
          · rw [if_pos h5] at e2
            exact e2
          · rw [if_neg h5] at e2
            exact e2
        · rintro ⟨d', q1, q2⟩
          rw [hd] at q1
          cases q1
          exact h4 q2
      · rintro ⟨d', q1, q2⟩
        have := (List.getElem?_eq_some_iff.mp q1).1
        rw [cs_len] at this
        omega
    have h2' : ¬ (c = 39 ∨ c = 36) := by simpa using h2
    rw [if_neg h2'] at k
    refine ite2 (fun h3 => ?_) (fun h3 => ?_)
    · rw [if_pos h3] at k
      refine ⟨z, _, i + 1, 5, rfl, hz, _, rfl, ?_⟩
      rw [show cs (Str.ofString "abcdefghijklmnopqrstuvwxyz") = LL from eL]
      exact k H (Same.refl H)
    rw [if_neg h3] at k
    refine ite2 (fun h4 => ?_) (fun h4 => ⟨sz_of (by omega), ?_⟩)
    · rw [if_pos h4] at k
      have h0 : ((⟨#[c]⟩ : Str) = Str.ofString "0") ↔ c = 48 := by
        rw [show Str.ofString "0" = ⟨#[48]⟩ by decide +kernel, one_inj]
      refine ite2 (fun h5 => ?_) (fun h5 => ⟨sz_of (by omega), ?_⟩)
      · rw [if_pos (h0.mp h5)] at k
        exact k H (Same.refl H)
      · rw [if_neg (fun q => h5 (h0.mpr q)), cs_len] at k
        refine ⟨z, _, i, z.length, rfl, hz, _, rfl, ?_⟩
        rw [show cs (Str.ofString "0123456789") = DD from eD]
        exact k H (Same.refl H)
    rw [if_neg h4] at k
    rw [cut_two]
    have ha : (S (sl (cs z) i (i + 2)) = Str.ofString "->") ↔ sl (cs z) i (i + 2) = [45, 62] := by
      rw [show Str.ofString "->" = S [45, 62] by decide +kernel]
      exact S_inj
    refine ite2 (fun h5 => ?_) (fun h5 => ?_)
    · rw [if_pos (ha.mp h5)] at k
      exact k _ (Same.refl H)
    rw [if_neg (fun q => h5 (ha.mpr q))] at k
    refine ite2 (fun h6 => ?_) (fun h6 => ?_)
    · rw [if_pos h6] at k
      exact k _ (Same.refl H)
    · rw [if_neg h6] at k
      exact k _ (Same.refl H)
/-- the law's own walk: the new list of tokens, or the wrong place -/
def sp_due : Sp := fun vs H Q E => ∃ z : Str, vs = [.str z] ∧ z.length ≤ 1000 ∧
  ((res z).2 = none → ∀ (H' : Hp) (l : Addr) (xs : List V), Same H H' → H l = none → H' l = some (.lst xs) → TkAll H' xs (res z).1 → Q (.ref l) H') ∧
  (∀ n, (res z).2 = some n → ∀ H' : Hp, Same H H' → Q (.int (n : Int)) H')
theorem ok_due (T : Txt K mg a) : FnOk P w K mg base CX0 4 a.f_l_due a.d_l_due ["_law_text_here"] sp_due := by
  have O_l_one : FnOk P w K mg base CX0 _ _ _ _ _ := ok_l_one T
  refine T.h_l_due.F.ok sc_l_due (fun vs H Q E h => ?_) (fun cdv A outer s H vs Q E hr h => ?_)
  · obtain ⟨z, rfl, _⟩ := h
    rfl
  · obtain ⟨z, rfl, hz, k1, k2⟩ := h
    refine ⟨_, (pss_cons (ps_par3 (i := 1) (j := 2) (l := 3) (by rfl) sc_l_due.nd rfl rfl rfl (by decide) (by decide) (by decide) rfl rfl rfl (pa_cons (pe_lst (pa_nil)) (pa_cons pe_int (pa_cons pe_bl (pa_nil)))) (by rfl))
  (pss_cons (ps_while PassesOwn.never (pt_cmpR op_lt (pv 2) (pe_callB call_len_str (by rfl) T.z_len (by decide +kernel) (pa_cons (pv 0) (pa_nil))) (nomark _)) (pss_one (ps_if (pt_cmpR op_eq (pe_ix ix_str (pv 0) (pv 2) (fun _ _ => rfl)) pe_str (nomark _)) (pss_one (ps_par (i := 2) (j := 3) (by rfl) sc_l_due.nd rfl rfl (by decide) rfl rfl (pa_cons (pe_op op_add (pv 2) pe_int) (pa_cons pe_bl (pa_nil))) (by rfl))) (pss_cons (ps_set (i := 4) sc_l_due.nd rfl (.inl rfl) (pe_call O_l_one (hr.mono (by decide)) rfl T.h_l_one.g T.h_l_one.F.kp T.b_l_one .nil pass0 (pa_cons (pv 0) (pa_cons (pv 2) (pa_nil)))))
  (pss_cons (ps_set (i := 5) sc_l_due.nd rfl (.inl rfl) (pe_cmpR op_notIn_sign (pe_ix ix_str (pv 0) (pv 2) (fun _ _ => rfl)) pe_str rfl))
  (pss_cons (ps_set (i := 6) sc_l_due.nd rfl (.inl rfl) (pe_and (pv 3) (pe_one (pe_cmpR op_notIn_sign (pe_ix ix_str (pv 0) (pv 2) (fun _ _ => rfl)) pe_str rfl))))
  (pss_cons (ps_if (PW.pt (pw_or (pt_cmpR op_eq (pv 4) (pv 2) (nomark _)) (pw_or1 (pt_val (pv 6))))) (pss_one (ps_ret (pv 2))) pss_nil)
  (pss_cons (ps_expr (pe_bm PySem.F.plainAttrs_list PySem.F.slot_list_append PySem.F.type_list_append mt_append (pv 1) (pa_cons (pe_tup (pa_cons (pe_slice sl_str (pv 0) (po_some (pv 2)) (po_some (pv 4))) (pa_cons (pv 2) (pa_nil)))) (pa_nil))))
  (pss_one (ps_par (i := 2) (j := 3) (by rfl) sc_l_due.nd rfl rfl (by decide) rfl rfl (pa_cons (pv 4) (pa_cons (pv 5) (pa_nil))) (by rfl)))))))))))
  (pss_one (ps_ret (pv 1))))), ?_⟩
    walk_at "rd"
    refine ⟨Nat.zero_le _, fun l hl => ?_⟩
    refine ⟨fun m σ H' => ∃ (n i : Nat) (j : Bool) (acc : List (List Nat × Nat)) (xs : List V) (e f g : Option V), σ = [some (.str z), some (.ref l), some (.int i), some (.bl j), e, f, g] ∧ scan (cs z) n i j acc = res z ∧ z.length < n + i ∧
      acc.length ≤ i ∧ H' l = some (.lst xs) ∧ TkAll H' xs acc ∧ Same H H' ∧ m = z.length - i, ⟨_, z.length + 1, 0, false, [], [], none, none, none, rfl, rfl, by omega, Nat.le_refl _, upd_same, True.intro, Same.new hl, rfl⟩, ?_⟩
    rintro m σ H' ⟨n, i, j, acc, xs, e, f, g, rfl, hsc, hn, ha, hL, hT, hS, rfl⟩
    walk_at "rd"
    refine ⟨sz_of (by omega), ite2 (fun h1 => ?_) (fun h1 => ?_)⟩
    · refine ⟨_, fun _ _ q => q, sz_of (by omega), ?_⟩
      obtain ⟨c, hc⟩ : ∃ c, (cs z)[i]? = some c := ⟨_, List.getElem?_eq_getElem (by rw [cs_len]; omega)⟩
      obtain ⟨n, rfl⟩ : ∃ n', n = n' + 1 := ⟨n - 1, by omega⟩
      refine ⟨c, hc, ite2 (fun h2 => ?_) (fun h2 => ?_)⟩
      · rw [scan_sp hc (sp_iff.mp h2)] at hsc
        exact ⟨_, by omega, n, i + 1, false, acc, xs, e, f, g, rfl, hsc, by omega, by omega, hL, hT, hS, rfl⟩
      · have h2' : c ≠ 32 := fun q => h2 (sp_iff.mpr q)
        refine ⟨z, i, c, rfl, hz, hc, fun H1 e1 => ?_⟩
        walk_at "rd"
        rw [← te_on hc, eS, eSQ]
        have hL1 := e1 _ _ hL
        have stop : (te (cs z) i c = i ∨ (j = true ∧ c ∈ ALN)) → Q (.int (i : Int)) H1 := fun hs => by
          rw [scan_stop hc h2' hs] at hsc
          exact k2 i (by rw [← hsc]) H1 (hS.trans e1)
        have hal : te (cs z) i c ≠ i → (¬ c ∈ SS ++ [39, 36] ↔ c ∈ ALN) := fun hne => by
          have t := te_ss hc hne
          rw [List.mem_append, List.mem_cons, List.mem_singleton]
          constructor
          · intro q
            exact (t.mp fun z => q (.inl z)).resolve_right fun z => q (.inr z)
          · intro q z
            rcases z with z | z
            · exact (t.mpr (.inl q)) z
            · exact aln_q c q z
        refine ⟨sz_of (by omega), c, hc, ?_⟩
        by_cases hs : te (cs z) i c = i ∨ (j = true ∧ c ∈ ALN)
        · refine ite_b (fun hj => ⟨sz_of (by omega), c, hc, ite2 (fun _ => stop hs) (fun h3 => ite2 (fun _ => stop hs) (fun h4 => ?_))⟩) (fun hj => ite2 (fun _ => stop hs) (fun h3 => ?_))
          · have h3' : te (cs z) i c ≠ i := fun q => h3 (by rw [q])
            exact absurd ((hal h3').mpr (hs.resolve_left h3').2) h4
          · have h3' : te (cs z) i c ≠ i := fun q => h3 (by rw [q])
            rw [(hs.resolve_left h3').1] at hj
            cases hj
        · have h3 : te (cs z) i c ≠ i := fun q => hs (.inl q)
          have h3i : ¬ ((te (cs z) i c : Nat) : Int) = (i : Int) := fun q => h3 (by omega)
          have hle := le_te (cs z) i c
          rw [scan_tok hc h2' hs] at hsc
          have ejo : (!decide (c ∈ SS)) = decide (c ∈ ALN ∨ c = 39 ∨ c = 36) := by
            rw [← decide_not, decide_eq_decide]
            exact te_ss hc h3
          rw [ejo]
          cases j with
          | true =>
            rw [if_pos rfl]
            refine ⟨sz_of (by omega), c, hc, ?_⟩
            rw [if_neg h3i]
            refine ite2 (fun h4 => absurd (.inr ⟨rfl, (hal h3).mp h4⟩) hs) (fun h4 => ?_)
            refine ⟨.inl ⟨rfl, _, SqL.of hL1⟩, sz_of (by omega), by decide, fun p hp => ⟨xs, by rw [upd_ne (ne_of_none hL1 hp)]; exact hL1, sz_lt (by rw [hT.len]; omega), ?_⟩⟩
            have hT2 : TkAll (upd (upd H1 p (.tup [.str (cutS z (some (i : Int)) (some ((te (cs z) i c : Nat) : Int))), .int (i : Int)])) l (.lst (xs ++ [.ref p]))) (xs ++ [.ref p]) (acc ++ [(sl (cs z) i (te (cs z) i c), i)]) := by
              refine TkAll.add ?_ (hT.mono ?_)
              · rw [upd_ne (Ne.symm (ne_of_none hL1 hp)), upd_same, cut_mid]
                rfl
              · refine (TSame.of (e1.trans (Same.new hp))).trans (TSame.lst (vs := xs) ?_)
                rw [upd_ne (ne_of_none hL1 hp)]
                exact hL1
            refine ⟨_, ?_, n, te (cs z) i c, rfl, _, hsc, by omega, ?_, hT2, Same.mut ((hS.trans e1).trans (Same.new hp)) hl, rfl⟩
            · omega
            · rw [List.length_append]
              simp
              omega
          | false =>
            rw [if_neg Bool.false_ne_true, if_neg h3i]
            refine ⟨.inl ⟨rfl, _, SqL.of hL1⟩, sz_of (by omega), by decide, fun p hp => ⟨xs, by rw [upd_ne (ne_of_none hL1 hp)]; exact hL1, sz_lt (by rw [hT.len]; omega), ?_⟩⟩
            have hT2 : TkAll (upd (upd H1 p (.tup [.str (cutS z (some (i : Int)) (some ((te (cs z) i c : Nat) : Int))), .int (i : Int)])) l (.lst (xs ++ [.ref p]))) (xs ++ [.ref p]) (acc ++ [(sl (cs z) i (te (cs z) i c), i)]) := by
              refine TkAll.add ?_ (hT.mono ?_)
              · rw [upd_ne (Ne.symm (ne_of_none hL1 hp)), upd_same, cut_mid]
                rfl
              · refine (TSame.of (e1.trans (Same.new hp))).trans (TSame.lst (vs := xs) ?_)
                rw [upd_ne (ne_of_none hL1 hp)]
                exact hL1
            refine ⟨_, ?_, n, te (cs z) i c, rfl, _, hsc, by omega, ?_, hT2, Same.mut ((hS.trans e1).trans (Same.new hp)) hl, rfl⟩
            · omega
            · rw [List.length_append]
              simp
              omega
    · have : (cs z)[i]? = none := by
        rw [List.getElem?_eq_none_iff, cs_len]
        omega
      rw [scan_none _ this] at hsc
      refine k1 (by rw [← hsc]) H' l xs hS hl hL (by rw [← hsc]; exact hT)
def Keep (p : Addr) (H H' : Hp) : Prop := ∀ b o, b ≠ p → H b = some o → H' b = some o
theorem Box.same {H H' : Hp} {p : Addr} {n : Nat} (h : Box H p n) (e : Same H H') : Box H' p n := by
  obtain ⟨b0, b1, b2, h1, h2⟩ := h
  exact ⟨b0, b1, b2, e _ _ h1, h2⟩
theorem Box.more {H : Hp} {p : Addr} {n m : Nat} (h : Box H p n) (e : n ≤ m) : Box H p m := by
  obtain ⟨b0, b1, b2, h1, h2, h3, h4, h5, h6⟩ := h
  exact ⟨b0, b1, b2, h1, h2, h3, h4, h5, by omega⟩
theorem Keep.of {p : Addr} {H H' : Hp} (e : Same H H') : Keep p H H' := fun b o _ q => e b o q
theorem Keep.trans {p : Addr} {H H1 H2 : Hp} (x : Keep p H H1) (y : Keep p H1 H2) : Keep p H H2 := fun b o n q => y b o n (x b o n q)
theorem Box.ne {H : Hp} {p l : Addr} {n : Nat} (h : Box H p n) (e : H l = none) : l ≠ p := fun q => by
  obtain ⟨_, _, _, h1, _⟩ := h
  rw [q, h1] at e
  cases e
theorem pick {ls : List Str} {d : Int} (h0 : 0 ≤ d) (h1 : d < (ls.length : Int)) : ∃ w, w ∈ ls ∧ atI (ls.map V.str) d = some (.str w) := by
  obtain ⟨j, rfl⟩ : ∃ j : Nat, d = (j : Int) := ⟨d.toNat, by omega⟩
  have hj : j < ls.length := by omega
  refine ⟨ls[j], List.getElem_mem hj, ?_⟩
  rw [atI_eq, List.getElem?_map, List.getElem?_eq_getElem hj]
  rfl
def some19 : List Str := [Str.ofString "x", Str.ofString "ab12", Str.ofString "fn", Str.ofString "T", Str.ofString "Abcdef", Str.ofString "0", Str.ofString "12", Str.ofString "300", Str.ofString "'k", Str.ofString "$x", Str.ofString "->", Str.ofString "-", Str.ofString ">", Str.ofString "(", Str.ofString "}", Str.ofString "@", Str.ofString "^", Str.ofString "_", Str.ofString "in"]
def odd16 : List Str := [Str.ofString "abcdefg", Str.ofString "x0", Str.ofString "x1234", Str.ofString "007", Str.ofString "Abcdefg", Str.ofString "'", Str.ofString "$", Str.ofString "'1", Str.ofString "!", Str.ofString "?", Str.ofString "\n", Str.ofString "#", Str.ofString "'fn", Str.ofString "$in", Str.ofString "9a", Str.ofString "T1"]
def sp4 : List Str := [Str.ofString "", Str.ofString " ", Str.ofString " ", Str.ofString "  "]
def sp2 : List Str := [Str.ofString " ", Str.ofString ""]
/-- all signs are plain ones -/
def Okc (z : Str) : Prop := ∀ c ∈ cs z, c < 1114112
theorem Okc.app {x y : Str} (h : Okc x) (g : Okc y) : Okc (x ++ y) := fun c hc => by
  have e : cs (x ++ y) = cs x ++ cs y := by
    show (x.cps ++ y.cps).toList = _
    simp
  rw [e] at hc
  rcases List.mem_append.mp hc with q | q
  · exact h c q
  · exact g c q
theorem Okc.cut {x : Str} (h : Okc x) (lo hi : Option Int) : Okc (cutS x lo hi) := fun c hc => by
  unfold cutS at hc
  rw [show ∀ l : List Nat, cs (⟨l.toArray⟩ : Str) = l from cs_S] at hc
  exact h c (List.mem_of_mem_drop (List.mem_of_mem_take hc))
theorem ok19 : ∀ w ∈ some19, ∀ c ∈ w.cps.toList, c < 1114112 := by decide +kernel
theorem ok16 : ∀ w ∈ odd16, ∀ c ∈ w.cps.toList, c < 1114112 := by decide +kernel
theorem ok4 : ∀ w ∈ sp4, ∀ c ∈ w.cps.toList, c < 1114112 := by decide +kernel
theorem ok2 : ∀ w ∈ sp2, ∀ c ∈ w.cps.toList, c < 1114112 := by decide +kernel
theorem len19 : ∀ w ∈ some19, w.length ≤ 7 := by decide +kernel
theorem len16 : ∀ w ∈ odd16, w.length ≤ 7 := by decide +kernel
theorem len4 : ∀ w ∈ sp4, w.length ≤ 2 := by decide +kernel
theorem len2 : ∀ w ∈ sp2, w.length ≤ 2 := by decide +kernel
def sp_l_text : Sp := fun vs H Q _ => ∃ (p : Addr) (n : Nat), vs = [.ref p] ∧ Box H p n ∧ n ≤ 100000 ∧
  ∀ (z : Str) H', z.length ≤ 300 → Okc z → Keep p H H' → Box H' p (n + 50) → Q (.str z) H'
theorem ok_l_text (T : Txt K mg a) : FnOk P w K mg base CX0 2 a.f_l_text a.d_l_text ["_law_box_here"] sp_l_text := by
  have O_l_take : FnOk P w K mg base CX0 _ _ _ _ _ := ok_l_take T
  refine T.h_l_text.F.ok sc_l_text (fun vs H Q E h => ?_) (fun cdv A outer s H vs Q E hr h => ?_)
  · obtain ⟨p, n, rfl, _⟩ := h
    rfl
  · obtain ⟨p, n, rfl, hB, hn, k⟩ := h
    refine ⟨_, (pss_cons (ps_set (i := 1) sc_l_text.nd rfl (.inl rfl) (pe_lst (pa_cons pe_str (pa_cons pe_str (pa_cons pe_str (pa_cons pe_str (pa_cons pe_str (pa_cons pe_str (pa_cons pe_str (pa_cons pe_str (pa_cons pe_str (pa_cons pe_str (pa_cons pe_str (pa_cons pe_str (pa_cons pe_str (pa_cons pe_str (pa_cons pe_str (pa_cons pe_str (pa_cons pe_str (pa_cons pe_str (pa_nil)))))))))))))))))))))
  (pss_cons (ps_expr (pe_bm PySem.F.plainAttrs_list PySem.F.slot_list_append PySem.F.type_list_append mt_append (pv 1) (pa_cons pe_str (pa_nil))))
  (pss_cons (ps_set (i := 2) sc_l_text.nd rfl (.inl rfl) (pe_lst (pa_cons pe_str (pa_cons pe_str (pa_cons pe_str (pa_cons pe_str (pa_cons pe_str (pa_cons pe_str (pa_cons pe_str (pa_cons pe_str (pa_cons pe_str (pa_cons pe_str (pa_cons pe_str (pa_cons pe_str (pa_cons pe_str (pa_cons pe_str (pa_cons pe_str (pa_cons pe_str (pa_nil)))))))))))))))))))
  (pss_cons (ps_set (i := 3) sc_l_text.nd rfl (.inl rfl) (pe_ix Wk.ix_listT (pe_lst (pa_cons pe_str (pa_cons pe_str (pa_nil)))) (pe_call O_l_take (hr.mono (by decide)) rfl T.h_l_take.g T.h_l_take.F.kp T.b_l_take .nil pass0 (pa_cons (pv 0) (pa_cons pe_int (pa_nil)))) (fun _ _ => rfl)))
  (pss_cons (ps_for PassesOwn.never rfl (pi_range1 rfl T.z_range (pa_cons (pe_call O_l_take (hr.mono (by decide)) rfl T.h_l_take.g T.h_l_take.F.kp T.b_l_take .nil pass0 (pa_cons (pv 0) (pa_cons pe_int (pa_nil)))) (pa_nil))) (pg_name (i := 4) sc_l_text.nd rfl (.inl rfl)) (pss_one (ps_set (i := 3) sc_l_text.nd rfl (.inl rfl) (pe_op op_add_str (pe_op op_add_str (pv 3) (pe_ix Wk.ix_listT (pv 1) (pe_call O_l_take (hr.mono (by decide)) rfl T.h_l_take.g T.h_l_take.F.kp T.b_l_take .nil pass0 (pa_cons (pv 0) (pa_cons pe_int (pa_nil)))) (fun _ _ => rfl))) (pe_ix Wk.ix_listT (pe_lst (pa_cons pe_str (pa_cons pe_str (pa_cons pe_str (pa_cons pe_str (pa_nil)))))) (pe_call O_l_take (hr.mono (by decide)) rfl T.h_l_take.g T.h_l_take.F.kp T.b_l_take .nil pass0 (pa_cons (pv 0) (pa_cons pe_int (pa_nil)))) (fun _ _ => rfl))))))
  (pss_cons (ps_if (pt_cmpR op_eq (pe_call O_l_take (hr.mono (by decide)) rfl T.h_l_take.g T.h_l_take.F.kp T.b_l_take .nil pass0 (pa_cons (pv 0) (pa_cons pe_int (pa_nil)))) pe_int (nomark _)) (pss_cons (ps_set (i := 5) sc_l_text.nd rfl (.inl rfl) (pe_call O_l_take (hr.mono (by decide)) rfl T.h_l_take.g T.h_l_take.F.kp T.b_l_take .nil pass0 (pa_cons (pv 0) (pa_cons (pe_op op_add (pe_callB call_len_str (by rfl) T.z_len (by decide +kernel) (pa_cons (pv 3) (pa_nil))) pe_int) (pa_nil)))))
  (pss_one (ps_set (i := 3) sc_l_text.nd rfl (.inl rfl) (pe_op op_add_str (pe_op op_add_str (pe_slice sl_str (pv 3) po_none (po_some (pv 5))) (pe_ix Wk.ix_listT (pv 2) (pe_call O_l_take (hr.mono (by decide)) rfl T.h_l_take.g T.h_l_take.F.kp T.b_l_take .nil pass0 (pa_cons (pv 0) (pa_cons pe_int (pa_nil)))) (fun _ _ => rfl))) (pe_slice sl_str (pv 3) (po_some (pv 5)) po_none))))) pss_nil)
  (pss_one (ps_ret (pv 3))))))))), ?_⟩
    walk_at "rd"
    refine ⟨by decide, fun l1 h1 => ⟨.inl ⟨rfl, _, SqL.of upd_same⟩, by decide, by decide, fun l2 h2 => ⟨by decide, fun l3 h3 => ?_⟩⟩⟩
    have h2' : H l2 = none := (Same.mut (Same.new h1) h1).free h2
    have h3' : H l3 = none := ((Same.mut (Same.new h1) h1).trans (Same.new h2)).free h3
    have n12 : l1 ≠ l2 := ne_of_none upd_same h2
    have n13 : l1 ≠ l3 := ne_of_none ((upd_ne n12).trans upd_same) h3
    have n23 : l2 ≠ l3 := ne_of_none upd_same h3
    refine ⟨p, n, 2, rfl, hB.same (((Same.mut (Same.new h1) h1).trans (Same.new h2)).trans (Same.new h3)), by omega, by decide, by decide, fun d4 H4 d40 d41 kp4 bx4 => ?_⟩
    have hL1 : H4 l1 = some (.lst (some19.map V.str)) := kp4 l1 _ (hB.ne h1) ((upd_ne n13).trans ((upd_ne n12).trans upd_same))
    have hL2 : H4 l2 = some (.lst (odd16.map V.str)) := kp4 l2 _ (hB.ne h2') ((upd_ne n23).trans upd_same)
    have hL3 : H4 l3 = some (.lst (sp2.map V.str)) := kp4 l3 _ (hB.ne h3') upd_same
    have K4 : Keep p H H4 := Keep.trans (Keep.of (((Same.mut (Same.new h1) h1).trans (Same.new h2)).trans (Same.new h3))) kp4
    obtain ⟨w4, m4, a4⟩ := pick (ls := sp2) d40 d41
    refine ⟨_, _, rfl, hL3, _, a4, ?_⟩
    have w4l := len2 w4 m4
    clear kp4
    refine for_hide fun tb D htb hD => ?_
    unfold tFor iRng1
    walk_at "rd"
    refine ⟨p, n + 1, 9, rfl, bx4, by omega, by decide, by decide, fun d5 H5 d50 d51 kp5 bx5 => ⟨_, rfl, by omega, by omega, ?_⟩⟩
    refine for_range (lo := 0) (n := d5.toNat) (g := gName 4) (tb := tb) (D := D) (fun i σ H' => ∃ (z : Str) (x : Option V), σ = [some (.ref p), some (.ref l1), some (.ref l2), some (.str z), x, none] ∧ z.length ≤ 2 + 9 * i ∧ Okc z ∧ Keep p H H' ∧ Box H' p (n + 2 + 2 * i) ∧
      H' l1 = some (.lst (some19.map V.str)) ∧ H' l2 = some (.lst (odd16.map V.str))) ⟨w4, none, rfl, by omega, ok2 w4 m4, K4.trans kp5, bx5, kp5 _ _ (hB.ne h1) hL1, kp5 _ _ (hB.ne h2') hL2⟩ ?_ ?_
    · rintro i σ H6 hi ⟨z, x, rfl, hz, hoz, K6, bx6, g1, g2⟩
      rw [htb]
      walk_at "rd"
      refine ⟨p, n + 2 + 2 * i, 19, rfl, bx6, by omega, by decide, by decide, fun d7 H7 d70 d71 kp7 bx7 => ?_⟩
      obtain ⟨w7, m7, a7⟩ := pick (ls := some19) d70 d71
      have w7l := len19 w7 m7
      have g1' := kp7 _ _ (hB.ne h1) g1
      have g2' := kp7 _ _ (hB.ne h2') g2
      rw [g1']
      walk_at "rd"
      refine ⟨_, a7, _, rfl, sz_of (by omega), by decide, fun q hq => ?_⟩
      have nq := bx7.ne hq
      refine ⟨p, n + 2 + 2 * i + 1, 4, rfl, bx7.same (Same.new hq), by omega, by decide, by decide, fun d8 H8 d80 d81 kp8 bx8 => ?_⟩
      obtain ⟨w8, m8, a8⟩ := pick (ls := sp4) d80 d81
      have w8l := len4 w8 m8
      rw [show H8 q = some (.lst (sp4.map V.str)) from kp8 _ _ nq upd_same]
      walk_at "rd"
      have hl3 : (z ++ w7).length = z.length + w7.length := Str.length_append z w7
      have hl4 : (z ++ w7 ++ w8).length = (z ++ w7).length + w8.length := Str.length_append _ w8
      exact ⟨_, a8, _, rfl, sz_of (by omega), by omega, (hoz.app (ok19 w7 m7)).app (ok4 w8 m8), ((K6.trans kp7).trans (Keep.of (Same.new hq))).trans kp8, bx8, kp8 _ _ (hB.ne h1) (Same.new hq _ _ g1'), kp8 _ _ (hB.ne h2') (Same.new hq _ _ g2')⟩
    · rintro σ H6 ⟨z, x, rfl, hz, hoz, K6, bx6, g1, g2⟩
      rw [hD]
      walk_at "rd"
      have hd5 : d5.toNat ≤ 8 := by omega
      refine ⟨p, _, 2, rfl, bx6, by omega, by decide, by decide, fun d7 H7 d70 d71 kp7 bx7 => ?_⟩
      walk_at "rd"
      refine ite2 (fun h7 => ⟨sz_of (by omega), ?_⟩) (fun h7 => k z H7 (by omega) hoz (K6.trans kp7) (bx7.more (by omega)))
      refine ⟨p, _, _, rfl, bx7, by omega, by omega, by omega, fun d8 H8 d80 d81 kp8 bx8 => ?_⟩
      walk_at "rd"
      refine ⟨sz_of (by omega), p, _, 16, rfl, bx8, by omega, by decide, by decide, fun d9 H9 d90 d91 kp9 bx9 => ?_⟩
      walk_at "rd"
      rw [kp9 _ _ (hB.ne h2') (kp8 _ _ (hB.ne h2') (kp7 _ _ (hB.ne h2') g2))]
      walk_at "rd"
      obtain ⟨w9, m9, a9⟩ := pick (ls := odd16) d90 d91
      have w9l := len16 w9 m9
      have hc1 := cutS_length z none (some d8)
      have hc2 := cutS_length z (some d8) none
      have hl3 : (cutS z none (some d8) ++ w9).length = _ := Str.length_append _ w9
      have hl4 : (cutS z none (some d8) ++ w9 ++ cutS z (some d8) none).length = _ := Str.length_append _ _
      exact ⟨_, a9, _, rfl, sz_of (by omega), sz_of (by omega), sz_of (by omega), k _ H9 (by omega) (((hoz.cut _ _).app (ok16 w9 m9)).app (hoz.cut _ _)) (((K6.trans kp7).trans kp8).trans kp9) (bx9.more (by omega))⟩
theorem Keep.same {p : Addr} {H H1 H2 : Hp} (k : Keep p H1 H2) (e : Same H H1) (h : H p = none) : Same H H2 := fun b o q => k b o (ne_of_none q h) (e b o q)
theorem lay_toks : ∀ (ts : List (List Nat × Nat)), (∀ t ∈ ts, ∀ c ∈ t.1, c < 1114112) → PyData.canLayAll0 (ts.map pd) = true ∧ PyData.depthAll (ts.map pd) ≤ 1
  | [], _ => ⟨rfl, Nat.zero_le _⟩
  | t :: ts, h => by
    obtain ⟨h1, h2⟩ := lay_toks ts fun u hu => h u (List.mem_cons_of_mem _ hu)
    have h3 : PyData.strOk (S t.1) = true := by
      unfold PyData.strOk
      rw [Array.all_eq_true']
      intro c hc
      have := h t (List.mem_cons_self ..) c (by simpa using hc)
      simpa using this
    constructor
    · show (PyData.canLay0 (pd t) && PyData.canLayAll0 (ts.map pd)) = true
      rw [h1, Bool.and_true]
      simp [pd, PyData.canLay0, PyData.canLayAll0, h3]
    · show max (PyData.depth (pd t)) (PyData.depthAll (ts.map pd)) ≤ 1
      have : PyData.depth (pd t) = 1 := by simp [pd, PyData.depth, PyData.depthAll]
      omega
theorem ne_toks {H : Hp} {l m : Addr} {xs ys : List V} {ts : List (List Nat × Nat)} {Q : VK} (h1 : H l = some (.lst xs)) (t1 : TkAll H xs ts) (h2 : H m = some (.lst ys)) (t2 : TkAll H ys ts)
    (ok : ∀ t ∈ ts, ∀ c ∈ t.1, c < 1114112) (q : Q (.bl false) H) : rNeD K (.ref l) (.ref m) H Q := by
  obtain ⟨c1, c2⟩ := lay_toks ts ok
  have sh : SeqAt.shaped (.list (ts.map pd)) = true := by
    unfold SeqAt.shaped
    rw [show PyData.canLay0 (.list (ts.map pd)) = true from c1, Bool.true_and, decide_eq_true_eq]
    show PyData.depthAll (ts.map pd) + 1 ≤ 64
    omega
  refine ⟨_, _, .lst (SqL.of h1) t1.dp, .lst (SqL.of h2) t2.dp, sh, sh, ?_⟩
  rw [SeqAt.eqv_refl _ (show PyData.canLay0 (.list (ts.map pd)) = true from c1)]
  exact q
def sp_law (K : PySem.W.Frag) : Sp := fun vs H Q _ => ∃ (p : Addr) (ns : List Int), vs = [.ref p] ∧ SqL K H p (ns.map V.int) ∧ ns.length ≤ 63 ∧ ∀ H', Q (.bl true) H'
theorem ok_law (T : Txt K mg a) : FnOk P w K mg base CX0 19 a.f_law a.d_law ["_law_script"] (sp_law K) := by
  have O_l_cell : FnOk P w K mg base CX0 _ _ _ _ _ := ok_l_cell T
  have O_l_box : FnOk P w K mg base CX0 _ _ _ _ _ := ok_l_box T
  have O_l_text : FnOk P w K mg base CX0 _ _ _ _ _ := ok_l_text T
  have O_l_due : FnOk P w K mg base CX0 _ _ _ _ _ := ok_due T
  have O_l_told : FnOk P w K mg base CX0 _ _ _ _ _ := ok_told T
  have O_tokens : FnOk P w K mg base (L2.CX P w) _ _ _ _ _ := ok_tokens T
  refine T.h_law.F.ok sc_law (fun vs H Q E h => ?_) (fun cdv A outer s H vs Q E hr h => ?_)
  · obtain ⟨p, ns, rfl, _⟩ := h
    rfl
  · obtain ⟨p, ns, rfl, hS, hlen, k⟩ := h
    refine ⟨_, (pss_cons (ps_for PassesOwn.never rfl (pi_range1 rfl T.z_range (pa_cons (pe_callB (call_max2 rfl) (by rfl) T.z_max (by decide +kernel) (pa_cons pe_int (pa_cons (pe_callB (call_min2 rfl) (by rfl) T.z_min (by decide +kernel) (pa_cons pe_int (pa_cons (pe_callB call_len_seq (by rfl) T.z_len (by decide +kernel) (pa_cons (pv 0) (pa_nil))) (pa_nil)))) (pa_nil)))) (pa_nil))) (pg_name (i := 1) sc_law.nd rfl (.inl rfl)) (pss_cons (ps_set (i := 2) sc_law.nd rfl (.inl rfl) (pe_call O_l_box (hr.mono (by decide)) rfl T.h_l_box.g T.h_l_box.F.kp T.b_l_box .nil pass0 (pa_cons (pe_call O_l_cell (hr.mono (by decide)) rfl T.h_l_cell.g T.h_l_cell.F.kp T.b_l_cell .nil pass0 (pa_cons (pv 0) (pa_cons (pv 1) (pa_nil)))) (pa_nil))))
  (pss_one (ps_for PassesOwn.never rfl (pi_range1 rfl T.z_range (pa_cons pe_int (pa_nil))) (pg_name (i := 3) sc_law.nd rfl (.inl rfl)) (pss_cons (ps_set (i := 4) sc_law.nd rfl (.inl rfl) (pe_call O_l_text (hr.mono (by decide)) rfl T.h_l_text.g T.h_l_text.F.kp T.b_l_text .nil pass0 (pa_cons (pv 2) (pa_nil))))
  (pss_cons (ps_set (i := 5) sc_law.nd rfl (.inl rfl) (pe_call O_l_due (hr.mono (by decide)) rfl T.h_l_due.g T.h_l_due.F.kp T.b_l_due .nil pass0 (pa_cons (pv 4) (pa_nil))))
  (pss_cons (ps_set (i := 6) sc_law.nd rfl (.inl rfl) (pe_call O_l_told (hr.mono (by decide)) rfl T.h_l_told.g T.h_l_told.F.kp T.b_l_told .nil pass0 (pa_cons (pv 4) (pa_nil))))
  (pss_cons (ps_if (PW.pt (pw_or (pt_cmpR (op_neD hr.units) (pv 6) (pv 5) (nomark _)) (pw_or1 (pt_val (pe_callB call_isi (by rfl) T.z_isinstance (by decide +kernel) (pa_cons (pv 6) (pa_cons (pe_bltn (by rfl) T.z_bool (by decide +kernel) (show RelV (.ty "bool") _ from rfl)) pa_nil))))))) (pss_one (ps_ret pe_bl)) pss_nil)
  (pss_one (ps_if (pt_val (pe_callB call_isi (by rfl) T.z_isinstance (by decide +kernel) (pa_cons (pv 6) (pa_cons (pe_bltn (by rfl) T.z_list (by decide +kernel) (show RelV (.ty "list") _ from rfl)) pa_nil)))) (pss_cons (ps_expr (pe_bm PySem.F.plainAttrs_list PySem.F.slot_list_append PySem.F.type_list_append mt_append (pv 6) (pa_cons pe_str (pa_nil))))
  (pss_one (ps_if (pt_cmpR (op_neD hr.units) (pe_call O_tokens (hr.mono (by decide)) rfl T.h_tokens.g T.h_tokens.F.kp T.b_tokens .nil passL (pa_cons (pv 4) (pa_nil))) (pv 5) (nomark _)) (pss_one (ps_ret pe_bl)) pss_nil))) pss_nil))))))))))
  (pss_one (ps_ret pe_bl))), ?_⟩
    walk_at "rd"
    refine for_hide fun tb D htb hD => ?_
    unfold tFor iRng1
    walk_at "rd"
    refine ⟨_, .inl hS, ?_⟩
    rw [List.length_map]
    generalize hN : (if (if (ns.length : Int) < 8 then (ns.length : Int) else 8) > 2 then (if (ns.length : Int) < 8 then (ns.length : Int) else 8) else 2) = N
    have hN1 : 0 ≤ N ∧ N ≤ 8 := by
      rw [← hN]
      split <;> split <;> omega
    refine ⟨by omega, by omega, ?_⟩
    refine for_range (lo := 0) (n := N.toNat) (g := gName 1) (tb := tb) (D := D) (fun i σ H' => ∃ x1 x2 x3 x4 x5 x6 : Option V, σ = [some (.ref p), x1, x2, x3, x4, x5, x6] ∧ Same H H') ⟨none, none, none, none, none, none, rfl, Same.refl H⟩ ?_ ?_
    · rintro i σ H1 hi ⟨x1, x2, x3, x4, x5, x6, rfl, s1⟩
      rw [htb]
      walk_at "rd"
      refine ⟨p, ns, i, by rw [Int.zero_add], s1.seq hS, by omega, fun n => ⟨n, rfl, fun H2 b s2 hb bx => ?_⟩⟩
      refine for_hide fun tb2 D2 htb2 hD2 => ?_
      unfold tFor iRng1
      walk_at "rd"
      refine ⟨by decide, by decide, ?_⟩
      refine for_range (lo := 0) (n := Int.toNat 4) (g := gName 3) (tb := tb2) (D := D2) (fun j σ H' => ∃ y1 y3 y4 y5 y6 : Option V, σ = [some (.ref p), y1, some (.ref b), y3, y4, y5, y6] ∧ Same H1 H' ∧ Box H' b (50 * j)) ⟨_, _, _, _, _, rfl, s2, bx⟩ ?_ ?_
      · rintro j σ H3 hj ⟨y1, y3, y4, y5, y6, rfl, s3, bx3⟩
        have hj4 : j < 4 := hj
        rw [htb2]
        walk_at "rd"
        refine ⟨b, 50 * j, rfl, bx3, by omega, fun z H4 hz ho kp4 bx4 => ?_⟩
        walk_at "rd"
        have s4 : Same H1 H4 := Keep.same kp4 s3 hb
        have okt : ∀ t ∈ (res z).1, ∀ c ∈ t.1, c < 1114112 := fun t ht c hc => ho c (scan_sub _ _ _ _ (by intro t ht; cases ht) t ht c hc)
        cases hr : (res z).2 with
        | none =>
          refine ⟨z, rfl, by omega, fun _ H5 l5 xs5 s5 n5 e5 t5 => ?_, fun m q => (by rw [hr] at q; cases q)⟩
          walk_at "rd"
          refine ⟨z, rfl, by omega, fun _ H6 l6 xs6 s6 n6 e6 t6 => ?_, fun m q => (by rw [hr] at q; cases q)⟩
          walk_at "rd"
          refine ne_toks e6 t6 (s6 _ _ e5) (t5.mono (.of s6)) okt ?_
          walk_at "rd"
          refine ⟨_, _, _, _, false, rfl, .ty _, .base (.lst e6), kit_ty (by decide +kernel), ?_⟩
          walk_at "rd"
          refine ⟨_, _, _, _, true, rfl, .ty _, .base (.lst e6), kit_ty (by decide +kernel), ?_⟩
          walk_at "rd"
          have s5' : Same H1 H5 := s4.trans s5
          have s6' : Same H1 H6 := s5'.trans s6
          have n56 : l5 ≠ l6 := ne_of_none e5 n6
          have hl6 : xs6.length < 100000 := by
            have h1 := scan_len (l := cs z) (z.length + 1) 0 false []
            have h2 := t6.len
            have h3 : (res z).1.length ≤ 0 + (z.length + 1) := h1
            omega
          refine ⟨.inl ⟨rfl, _, SqL.of e6⟩, xs6, e6, sz_lt hl6, z, rfl, by omega, fun _ H7 l7 xs7 s7 n7 e7 t7 => ?_, fun m q => (by rw [hr] at q; cases q)⟩
          have e5' : H7 l5 = some (.lst xs5) := s7 _ _ (by rw [upd_ne n56]; exact s6 _ _ e5)
          have t5' : TkAll H7 xs5 (res z).1 := (t5.mono (.of s6)).mono ((TSame.lst e6).trans (.of s7))
          refine ne_toks e7 t7 e5' t5' okt ?_
          walk_at "rd"
          have sL : Same H4 (upd H6 l6 (HO.lst (xs6 ++ [V.str (Str.ofString "late")]))) := Same.mut (s5.trans s6) (s5.free n6)
          exact ⟨s4.trans (sL.trans s7), bx4.same (sL.trans s7)⟩
        | some m =>
          refine ⟨z, rfl, by omega, fun q => (by rw [hr] at q; cases q), fun m' q H5 s5 => ?_⟩
          rw [hr] at q
          cases q
          try walk_at "rd"
          refine ⟨z, rfl, by omega, fun q => (by rw [hr] at q; cases q), fun m' q H6 s6 => ?_⟩
          rw [hr] at q
          cases q
          try walk_at "rd"
          refine ⟨.int (m : Int), .int (m : Int), .int _, .int _, rfl, rfl, ?_⟩
          have e0 : (!PyData.eqv (.int (m : Int)) (.int (m : Int))) = false := by simp [PyData.eqv]
          rw [e0]
          try walk_at "rd"
          refine ⟨_, _, _, _, false, rfl, .ty _, .base (.int _), kit_ty (by decide +kernel), ?_⟩
          try walk_at "rd"
          refine ⟨_, _, _, _, false, rfl, .ty _, .base (.int _), kit_ty (by decide +kernel), ?_⟩
          try walk_at "rd"
          exact ⟨s4.trans (s5.trans s6), bx4.same (s5.trans s6)⟩
      · rintro σ H3 ⟨y1, y3, y4, y5, y6, rfl, s3, bx3⟩
        rw [hD2]
        exact ⟨_, _, _, _, _, _, rfl, s1.trans s3⟩
    · rintro σ H1 ⟨x1, x2, x3, x4, x5, x6, rfl, s1⟩
      rw [hD]
      exact k H1
end
theorem txt_mk {K : PySem.W.Frag} {h : Heap} {mg : Str → Option Value} {CK C_BadText f_BadText_init f_letters_of f_is_begun_word f_is_word f_run_end f_word_end f_token_end f_cut f_tokens f_l_cell f_l_box f_l_take f_l_run f_l_word_end f_l_one f_l_due f_l_text f_l_told f_law t_OWN_WORDS : Addr} {d_BadText_init d_letters_of d_is_begun_word d_is_word d_run_end d_word_end d_token_end d_cut d_tokens d_l_cell d_l_box d_l_take d_l_run d_l_word_end d_l_one d_l_due d_l_text d_l_told d_law : FuncData} {t_LETTERS t_CAPITALS t_DIGITS t_MOST_LETTERS t_MOST_DIGITS t_SIGNS : Tok} (X : K.In h) (G : h.Ns mainGlobals mg)
    (kb : Wk.KBase K mg CK)
    (e_BadText : Wk.ExcT K mg "BadText" C_BadText f_BadText_init)
    (F_BadText_init : Fun K "__init__" "BadText.__init__" s_BadText_init f_BadText_init d_BadText_init)
    (n_BadText_at : PySem.W.findIn K (.ref C_BadText) "at" = some none)
    (h_letters_of : Wk.FnT K mg "letters_of" s_letters_of f_letters_of d_letters_of)
    (h_is_begun_word : Wk.FnT K mg "is_begun_word" s_is_begun_word f_is_begun_word d_is_begun_word)
    (h_is_word : Wk.FnT K mg "is_word" s_is_word f_is_word d_is_word)
    (h_run_end : Wk.FnT K mg "run_end" s_run_end f_run_end d_run_end)
    (h_word_end : Wk.FnT K mg "word_end" s_word_end f_word_end d_word_end)
    (h_token_end : Wk.FnT K mg "token_end" s_token_end f_token_end d_token_end)
    (h_cut : Wk.FnT K mg "cut" s_cut f_cut d_cut)
    (h_tokens : Wk.FnT K mg "tokens" s_tokens f_tokens d_tokens)
    (h_l_cell : Wk.FnT K mg "_law_cell" s_l_cell f_l_cell d_l_cell)
    (h_l_box : Wk.FnT K mg "_law_box" s_l_box f_l_box d_l_box)
    (h_l_take : Wk.FnT K mg "_law_take" s_l_take f_l_take d_l_take)
    (h_l_run : Wk.FnT K mg "_law_run" s_l_run f_l_run d_l_run)
    (h_l_word_end : Wk.FnT K mg "_law_word_end" s_l_word_end f_l_word_end d_l_word_end)
    (h_l_one : Wk.FnT K mg "_law_one" s_l_one f_l_one d_l_one)
    (h_l_due : Wk.FnT K mg "_law_due" s_l_due f_l_due d_l_due)
    (h_l_text : Wk.FnT K mg "_law_text" s_l_text f_l_text d_l_text)
    (h_l_told : Wk.FnT K mg "_law_told" s_l_told f_l_told d_l_told)
    (h_law : Wk.FnT K mg "law" s_law f_law d_law)
    (g_LETTERS : PySem.W.nsIn K mainGlobals "LETTERS" = some (some (.str "abcdefghijklmnopqrstuvwxyz" t_LETTERS)))
    (g_CAPITALS : PySem.W.nsIn K mainGlobals "CAPITALS" = some (some (.str "ABCDEFGHIJKLMNOPQRSTUVWXYZ" t_CAPITALS)))
    (g_DIGITS : PySem.W.nsIn K mainGlobals "DIGITS" = some (some (.str "0123456789" t_DIGITS)))
    (g_MOST_LETTERS : PySem.W.nsIn K mainGlobals "MOST_LETTERS" = some (some (.int 6 t_MOST_LETTERS)))
    (g_MOST_DIGITS : PySem.W.nsIn K mainGlobals "MOST_DIGITS" = some (some (.int 3 t_MOST_DIGITS)))
    (g_OWN_WORDS : PySem.W.nsIn K mainGlobals "OWN_WORDS" = some (some (.ref t_OWN_WORDS)))
    (q_OWN_WORDS : ∀ H, SqT K H t_OWN_WORDS [V.str "fn", V.str "let", V.str "in", V.str "rec", V.str "match", V.str "with", V.str "fail", V.str "num"])
    (g_SIGNS : PySem.W.nsIn K mainGlobals "SIGNS" = some (some (.str "(){}[]<>=,;:.|+-*/@^_" t_SIGNS)))
    (z_all : PySem.W.nsIn K mainGlobals "all" = some none)
    (z_bool : PySem.W.nsIn K mainGlobals "bool" = some none)
    (z_isinstance : PySem.W.nsIn K mainGlobals "isinstance" = some none)
    (z_len : PySem.W.nsIn K mainGlobals "len" = some none)
    (z_list : PySem.W.nsIn K mainGlobals "list" = some none)
    (z_max : PySem.W.nsIn K mainGlobals "max" = some none)
    (z_min : PySem.W.nsIn K mainGlobals "min" = some none)
    (z_range : PySem.W.nsIn K mainGlobals "range" = some none)
    (z_str : PySem.W.nsIn K mainGlobals "str" = some none) :
    Txt K mg ⟨CK, C_BadText, f_BadText_init, d_BadText_init, f_letters_of, d_letters_of, f_is_begun_word, d_is_begun_word, f_is_word, d_is_word, f_run_end, d_run_end, f_word_end, d_word_end, f_token_end, d_token_end, f_cut, d_cut, f_tokens, d_tokens, f_l_cell, d_l_cell, f_l_box, d_l_box, f_l_take, d_l_take, f_l_run, d_l_run, f_l_word_end, d_l_word_end, f_l_one, d_l_one, f_l_due, d_l_due, f_l_text, d_l_text, f_l_told, d_l_told, f_law, d_law, t_LETTERS, t_CAPITALS, t_DIGITS, t_MOST_LETTERS, t_MOST_DIGITS, t_OWN_WORDS, t_SIGNS⟩ :=
  { kb := kb,
    e_BadText := e_BadText,
    F_BadText_init := F_BadText_init,
    b_BadText_init := F_BadText_init.binds (ps := ["self", "at"]) fun _ _ _ _ _ _ us hl => match us, hl with | [_, _], _ => rfl,
    n_BadText_at := n_BadText_at,
    h_letters_of := h_letters_of,
    b_letters_of := h_letters_of.F.binds (ps := ["text"]) fun _ _ _ _ _ _ us hl => match us, hl with | [_], _ => rfl,
    h_is_begun_word := h_is_begun_word,
    b_is_begun_word := h_is_begun_word.F.binds (ps := ["text"]) fun _ _ _ _ _ _ us hl => match us, hl with | [_], _ => rfl,
    h_is_word := h_is_word,
    b_is_word := h_is_word.F.binds (ps := ["value"]) fun _ _ _ _ _ _ us hl => match us, hl with | [_], _ => rfl,
    h_run_end := h_run_end,
    b_run_end := h_run_end.F.binds (ps := ["text", "begin", "signs", "most"]) fun _ _ _ _ _ _ us hl => match us, hl with | [_, _, _, _], _ => rfl,
    h_word_end := h_word_end,
    b_word_end := h_word_end.F.binds (ps := ["text", "begin"]) fun _ _ _ _ _ _ us hl => match us, hl with | [_, _], _ => rfl,
    h_token_end := h_token_end,
    b_token_end := h_token_end.F.binds (ps := ["text", "begin"]) fun _ _ _ _ _ _ us hl => match us, hl with | [_, _], _ => rfl,
    h_cut := h_cut,
    b_cut := h_cut.F.binds (ps := ["text"]) fun _ _ _ _ _ _ us hl => match us, hl with | [_], _ => rfl,
    h_tokens := h_tokens,
    b_tokens := h_tokens.F.binds (ps := ["text"]) fun _ _ _ _ _ _ us hl => match us, hl with | [_], _ => rfl,
    h_l_cell := h_l_cell,
    b_l_cell := h_l_cell.F.binds (ps := ["_law_script", "_law_k"]) fun _ _ _ _ _ _ us hl => match us, hl with | [_, _], _ => rfl,
    h_l_box := h_l_box,
    b_l_box := h_l_box.F.binds (ps := ["_law_cell_here"]) fun _ _ _ _ _ _ us hl => match us, hl with | [_], _ => rfl,
    h_l_take := h_l_take,
    b_l_take := h_l_take.F.binds (ps := ["_law_box_here", "_law_many"]) fun _ _ _ _ _ _ us hl => match us, hl with | [_, _], _ => rfl,
    h_l_run := h_l_run,
    b_l_run := h_l_run.F.binds (ps := ["_law_text_here", "_law_spot", "_law_signs", "_law_most"]) fun _ _ _ _ _ _ us hl => match us, hl with | [_, _, _, _], _ => rfl,
    h_l_word_end := h_l_word_end,
    b_l_word_end := h_l_word_end.F.binds (ps := ["_law_text_here", "_law_spot"]) fun _ _ _ _ _ _ us hl => match us, hl with | [_, _], _ => rfl,
    h_l_one := h_l_one,
    b_l_one := h_l_one.F.binds (ps := ["_law_text_here", "_law_spot"]) fun _ _ _ _ _ _ us hl => match us, hl with | [_, _], _ => rfl,
    h_l_due := h_l_due,
    b_l_due := h_l_due.F.binds (ps := ["_law_text_here"]) fun _ _ _ _ _ _ us hl => match us, hl with | [_], _ => rfl,
    h_l_text := h_l_text,
    b_l_text := h_l_text.F.binds (ps := ["_law_box_here"]) fun _ _ _ _ _ _ us hl => match us, hl with | [_], _ => rfl,
    h_l_told := h_l_told,
    b_l_told := h_l_told.F.binds (ps := ["_law_text_here"]) fun _ _ _ _ _ _ us hl => match us, hl with | [_], _ => rfl,
    h_law := h_law,
    g_LETTERS := PySem.W.mg_of X G g_LETTERS,
    g_CAPITALS := PySem.W.mg_of X G g_CAPITALS,
    g_DIGITS := PySem.W.mg_of X G g_DIGITS,
    g_MOST_LETTERS := PySem.W.mg_of X G g_MOST_LETTERS,
    g_MOST_DIGITS := PySem.W.mg_of X G g_MOST_DIGITS,
    g_OWN_WORDS := PySem.W.mg_of X G g_OWN_WORDS,
    q_OWN_WORDS := q_OWN_WORDS,
    g_SIGNS := PySem.W.mg_of X G g_SIGNS,
    z_all := PySem.W.mg_none_of X G z_all,
    z_bool := PySem.W.mg_none_of X G z_bool,
    z_isinstance := PySem.W.mg_none_of X G z_isinstance,
    z_len := PySem.W.mg_none_of X G z_len,
    z_list := PySem.W.mg_none_of X G z_list,
    z_max := PySem.W.mg_none_of X G z_max,
    z_min := PySem.W.mg_none_of X G z_min,
    z_range := PySem.W.mg_none_of X G z_range,
    z_str := PySem.W.mg_none_of X G z_str }
theorem law_end {l : PySem.W.OpenLaw} {w : World} {K : PySem.W.Frag} {h : Heap} {mg : Str → Option Value} {fa : Addr} {a : Ad} (G : h.Ns mainGlobals mg) (hfa : mg "law" = some (.ref fa)) (T : Txt K mg a) :
    ∃ fd : FuncData, (∀ (s : Shared) (v : Value), BindsTo s fd ⟨[v], []⟩ [("_law_script", v)]) ∧ ∀ base : Heap, K.In base → base.Ns mainGlobals mg → FnOk l.prog w K mg base CX0 19 fa fd ["_law_script"] (sp_law K) := by
  have e := hfa.symm.trans T.h_law.g
  cases e
  obtain ⟨oc, od, kV, doc, pm, an, cdv, ct, osl, e1, e2, e3⟩ := T.h_law.F.ex
  refine ⟨a.d_law, fun s v => ?_, fun base _ _ => ok_law T⟩
  rw [e1]
  exact .of_eq rfl
end Tok
open PySem PySem.W PyProof.Rows in
set_option maxRecDepth 100000 in
set_option maxHeartbeats 0 in
theorem PySem.Challenge.cw_widestkind_k09_tokens_holds : PySem.Challenge.rw_widestkind_k09_tokens.Holds := by
  w_on; o_law; k_head; (case hw => w_witness2)
  k_fill
  refine L2.walk_of (l := PySem.Challenge.rw_widestkind_k09_tokens) (n := 63) (k := 19) (x := "_law_script") (CX := fun _ => L2.CX0) (sp := fun w => Tok.sp_law _) rfl (by decide) rfl ⟨rfl, by decide, by decide⟩ (fun w h Y => PySem.W.kIn_of Y) ?F (fun _ _ a ns hl _ hS => ⟨a, ns, rfl, hS, hl, fun _ => rfl⟩) (fun _ _ _ _ _ h => h)
  case F =>
    intro w mg fa h KX G hmg
    refine' Tok.law_end (l := PySem.Challenge.rw_widestkind_k09_tokens) (w := w) G hmg (Tok.txt_mk KX G ?kb ?e_BadText ?F_BadText_init ?n_BadText_at ?h_letters_of ?h_is_begun_word ?h_is_word ?h_run_end ?h_word_end ?h_token_end ?h_cut ?h_tokens ?h_l_cell ?h_l_box ?h_l_take ?h_l_run ?h_l_word_end ?h_l_one ?h_l_due ?h_l_text ?h_l_told ?h_law ?g_LETTERS ?g_CAPITALS ?g_DIGITS ?g_MOST_LETTERS ?g_MOST_DIGITS ?g_OWN_WORDS ?q_OWN_WORDS ?g_SIGNS ?z_all ?z_bool ?z_isinstance ?z_len ?z_list ?z_max ?z_min ?z_range ?z_str)
    (case kb => refine' Wk.kb_mk KX G ?a1 ?a2 ?a3 ?a4; (case a1 => k_is); (case a2 => k_is); (case a3 => k_is); (case a4 => k_is))
    (case e_BadText => refine' Wk.exc_mk KX G ?a1 ?a2 ?a3 ?a4 ?a5 ?a6 ?a7 ?a8 ?a9 ?b1 ?b2 ?b3 ?b4 ?b5; (case a1 => k_is); (case a2 => k_is); (case a3 => decide +kernel); (case a4 => k_is); (case a5 => k_is); (case a6 => k_is); (case a7 => k_is); (case a8 => k_is); (case a9 => k_is); (case b1 => k_is); (case b2 => k_is); (case b3 => k_is); (case b4 => k_is); (case b5 => first | rfl | k_is))
    (case F_BadText_init => refine' L2.fun_mk ?a1 ?a2 ?a3; (case a1 => k_is); (case a2 => k_is); (case a3 => k_is))
    (case n_BadText_at => k_is)
    (case h_letters_of => refine' Wk.fn_here KX G ?a1 ?a2 ?a3 ?a4; (case a1 => k_is); (case a2 => k_is); (case a3 => k_is); (case a4 => k_is))
    (case h_is_begun_word => refine' Wk.fn_here KX G ?a1 ?a2 ?a3 ?a4; (case a1 => k_is); (case a2 => k_is); (case a3 => k_is); (case a4 => k_is))
    (case h_is_word => refine' Wk.fn_here KX G ?a1 ?a2 ?a3 ?a4; (case a1 => k_is); (case a2 => k_is); (case a3 => k_is); (case a4 => k_is))
    (case h_run_end => refine' Wk.fn_here KX G ?a1 ?a2 ?a3 ?a4; (case a1 => k_is); (case a2 => k_is); (case a3 => k_is); (case a4 => k_is))
    (case h_word_end => refine' Wk.fn_here KX G ?a1 ?a2 ?a3 ?a4; (case a1 => k_is); (case a2 => k_is); (case a3 => k_is); (case a4 => k_is))
    (case h_token_end => refine' Wk.fn_here KX G ?a1 ?a2 ?a3 ?a4; (case a1 => k_is); (case a2 => k_is); (case a3 => k_is); (case a4 => k_is))
    (case h_cut => refine' Wk.fn_here KX G ?a1 ?a2 ?a3 ?a4; (case a1 => k_is); (case a2 => k_is); (case a3 => k_is); (case a4 => k_is))
    (case h_tokens => refine' Wk.fn_here KX G ?a1 ?a2 ?a3 ?a4; (case a1 => k_is); (case a2 => k_is); (case a3 => k_is); (case a4 => k_is))
    (case h_l_cell => refine' Wk.fn_here KX G ?a1 ?a2 ?a3 ?a4; (case a1 => k_is); (case a2 => k_is); (case a3 => k_is); (case a4 => k_is))
    (case h_l_box => refine' Wk.fn_here KX G ?a1 ?a2 ?a3 ?a4; (case a1 => k_is); (case a2 => k_is); (case a3 => k_is); (case a4 => k_is))
    (case h_l_take => refine' Wk.fn_here KX G ?a1 ?a2 ?a3 ?a4; (case a1 => k_is); (case a2 => k_is); (case a3 => k_is); (case a4 => k_is))
    (case h_l_run => refine' Wk.fn_here KX G ?a1 ?a2 ?a3 ?a4; (case a1 => k_is); (case a2 => k_is); (case a3 => k_is); (case a4 => k_is))
    (case h_l_word_end => refine' Wk.fn_here KX G ?a1 ?a2 ?a3 ?a4; (case a1 => k_is); (case a2 => k_is); (case a3 => k_is); (case a4 => k_is))
    (case h_l_one => refine' Wk.fn_here KX G ?a1 ?a2 ?a3 ?a4; (case a1 => k_is); (case a2 => k_is); (case a3 => k_is); (case a4 => k_is))
    (case h_l_due => refine' Wk.fn_here KX G ?a1 ?a2 ?a3 ?a4; (case a1 => k_is); (case a2 => k_is); (case a3 => k_is); (case a4 => k_is))
    (case h_l_text => refine' Wk.fn_here KX G ?a1 ?a2 ?a3 ?a4; (case a1 => k_is); (case a2 => k_is); (case a3 => k_is); (case a4 => k_is))
    (case h_l_told => refine' Wk.fn_here KX G ?a1 ?a2 ?a3 ?a4; (case a1 => k_is); (case a2 => k_is); (case a3 => k_is); (case a4 => k_is))
    (case h_law => refine' Wk.fn_here KX G ?a1 ?a2 ?a3 ?a4; (case a1 => k_is); (case a2 => k_is); (case a3 => k_is); (case a4 => k_is))
    (case g_LETTERS => k_is)
    (case g_CAPITALS => k_is)
    (case g_DIGITS => k_is)
    (case g_MOST_LETTERS => k_is)
    (case g_MOST_DIGITS => k_is)
    (case g_OWN_WORDS => k_is)
    (case q_OWN_WORDS => refine' Wk.sqT_mk ?a1 ?a2 ?a3; (case a1 => k_is); (case a2 => decide +kernel); (case a3 => exact .cons ⟨_, rfl⟩ (.cons ⟨_, rfl⟩ (.cons ⟨_, rfl⟩ (.cons ⟨_, rfl⟩ (.cons ⟨_, rfl⟩ (.cons ⟨_, rfl⟩ (.cons ⟨_, rfl⟩ (.cons ⟨_, rfl⟩ (.nil))))))))))
    (case g_SIGNS => k_is)
    (case z_all => k_is)
    (case z_bool => k_is)
    (case z_isinstance => k_is)
    (case z_len => k_is)
    (case z_list => k_is)
    (case z_max => k_is)
    (case z_min => k_is)
    (case z_range => k_is)
    (case z_str => k_is)
