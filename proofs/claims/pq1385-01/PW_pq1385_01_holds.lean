import PyProof.Rows.All
import Wide.All
import OpenK.AllK
import Wide.FinOn
import Lean
import PySem.Challenge.RW_pq1385_01
open PySem PySem.W PySem.Calls PyProof.Rows PySem.Challenge
set_option Elab.async false
set_option linter.all false
set_option maxHeartbeats 4000000
set_option maxRecDepth 100000
set_option compiler.extract_closed false
set_option genSizeOf false
set_option genInjectivity false
set_option tactic.hygienic false
namespace Mine
theorem an2 {A B G : Prop} (k : A → B → G) : A ∧ B → G := fun h => k h.1 h.2
theorem an3 {A B C G : Prop} (k : A → B → C → G) : A ∧ B ∧ C → G := fun h => k h.1 h.2.1 h.2.2
theorem an4 {A B C D G : Prop} (k : A → B → C → D → G) : A ∧ B ∧ C ∧ D → G := fun h => an3 (k h.1) h.2
theorem an5 {A B C D E G : Prop} (k : A → B → C → D → E → G) : A ∧ B ∧ C ∧ D ∧ E → G := fun h => an4 (k h.1) h.2
theorem an6 {A B C D E F G : Prop} (k : A → B → C → D → E → F → G) : A ∧ B ∧ C ∧ D ∧ E ∧ F → G := fun h => an5 (k h.1) h.2
theorem an7 {A B C D E F H G : Prop} (k : A → B → C → D → E → F → H → G) : A ∧ B ∧ C ∧ D ∧ E ∧ F ∧ H → G := fun h => an6 (k h.1) h.2
theorem an8 {A B C D E F H I G : Prop} (k : A → B → C → D → E → F → H → I → G) : A ∧ B ∧ C ∧ D ∧ E ∧ F ∧ H ∧ I → G := fun h => an7 (k h.1) h.2
section
variable {A B C D E F H I J : Sort _} {G : Prop}
theorem ex1 {p : A → Prop} (k : ∀ a, p a → G) : (∃ a, p a) → G := fun h => h.elim k
theorem ex2 {p : A → B → Prop} (k : ∀ a b, p a b → G) : (∃ a b, p a b) → G := ex1 fun a => ex1 (k a)
theorem ex3 {p : A → B → C → Prop} (k : ∀ a b c, p a b c → G) : (∃ a b c, p a b c) → G := ex1 fun a => ex2 (k a)
theorem ex4 {p : A → B → C → D → Prop} (k : ∀ a b c d, p a b c d → G) : (∃ a b c d, p a b c d) → G := ex1 fun a => ex3 (k a)
theorem ex5 {p : A → B → C → D → E → Prop} (k : ∀ a b c d e, p a b c d e → G) : (∃ a b c d e, p a b c d e) → G := ex1 fun a => ex4 (k a)
theorem ex6 {p : A → B → C → D → E → F → Prop} (k : ∀ a b c d e f, p a b c d e f → G) : (∃ a b c d e f, p a b c d e f) → G := ex1 fun a => ex5 (k a)
theorem ex9 {p : A → B → C → D → E → F → H → I → J → Prop} (k : ∀ a b c d e f h i j, p a b c d e f h i j → G) : (∃ a b c d e f h i j, p a b c d e f h i j) → G := ex3 fun a b c => ex6 (k a b c)
end
section
variable {A B C D E F L : Type} {G : L → Prop} {x : L}
theorem iv0 {y : L} {P : Prop} (k : P → G y) : x = y ∧ P → G x := fun h => h.1 ▸ k h.2
theorem iv1 {f : A → L} {P : A → Prop} (k : ∀ a, P a → G (f a)) : (∃ a, x = f a ∧ P a) → G x := ex1 fun a => iv0 (k a)
theorem iv2 {f : A → B → L} {P : A → B → Prop} (k : ∀ a b, P a b → G (f a b)) : (∃ a b, x = f a b ∧ P a b) → G x := ex1 fun a => iv1 (k a)
theorem iv3 {f : A → B → C → L} {P : A → B → C → Prop} (k : ∀ a b c, P a b c → G (f a b c)) : (∃ a b c, x = f a b c ∧ P a b c) → G x := ex1 fun a => iv2 (k a)
theorem iv4 {f : A → B → C → D → L} {P : A → B → C → D → Prop} (k : ∀ a b c d, P a b c d → G (f a b c d)) : (∃ a b c d, x = f a b c d ∧ P a b c d) → G x := ex1 fun a => iv3 (k a)
theorem iv5 {f : A → B → C → D → E → L} {P : A → B → C → D → E → Prop} (k : ∀ a b c d e, P a b c d e → G (f a b c d e)) : (∃ a b c d e, x = f a b c d e ∧ P a b c d e) → G x := ex1 fun a => iv4 (k a)
theorem iv6 {f : A → B → C → D → E → F → L} {P : A → B → C → D → E → F → Prop} (k : ∀ a b c d e h, P a b c d e h → G (f a b c d e h)) : (∃ a b c d e h, x = f a b c d e h ∧ P a b c d e h) → G x := ex1 fun a => iv5 (k a)
end
section
variable {A B C D E F L : Type} {x : L}
theorem jv1 {f : A → L} {P : A → Prop} (a : A) (e : x = f a) (k : P a) : ∃ a, x = f a ∧ P a := ⟨a, e, k⟩
theorem jv2 {f : A → B → L} {P : A → B → Prop} (a : A) (b : B) (e : x = f a b) (k : P a b) : ∃ a b, x = f a b ∧ P a b := ⟨a, jv1 b e k⟩
theorem jv3 {f : A → B → C → L} {P : A → B → C → Prop} (a : A) (b : B) (c : C) (e : x = f a b c) (k : P a b c) : ∃ a b c, x = f a b c ∧ P a b c := ⟨a, jv2 b c e k⟩
theorem jv4 {f : A → B → C → D → L} {P : A → B → C → D → Prop} (a : A) (b : B) (c : C) (d : D) (e : x = f a b c d) (k : P a b c d) : ∃ a b c d, x = f a b c d ∧ P a b c d := ⟨a, jv3 b c d e k⟩
theorem jv5 {f : A → B → C → D → E → L} {P : A → B → C → D → E → Prop} (a : A) (b : B) (c : C) (d : D) (e : E) (q : x = f a b c d e) (k : P a b c d e) : ∃ a b c d e, x = f a b c d e ∧ P a b c d e := ⟨a, jv4 b c d e q k⟩
theorem jv6 {f : A → B → C → D → E → F → L} {P : A → B → C → D → E → F → Prop} (a : A) (b : B) (c : C) (d : D) (e : E) (h : F) (q : x = f a b c d e h) (k : P a b c d e h) : ∃ a b c d e h, x = f a b c d e h ∧ P a b c d e h := ⟨a, jv5 b c d e h q k⟩
end
theorem dn {a b n : Nat} (h : b ≤ n) (e : Nat.ble (a+1) b = true) : a ≤ n - 1 := Nat.le_sub_of_add_le (Nat.le_trans (Nat.le_of_ble_eq_true e) h)
theorem dn2 {a b n : Nat} (h : b ≤ n) (e : Nat.ble (a+2) b = true) : a ≤ n - 1 - 1 := Nat.le_sub_of_add_le (Nat.le_sub_of_add_le (Nat.le_trans (Nat.le_of_ble_eq_true e) h))
theorem dn0 {a b n : Nat} (h : b ≤ n) (e : Nat.ble a b = true) : a ≤ n := Nat.le_trans (Nat.le_of_ble_eq_true e) h
theorem lec {t c C : Nat} (h : t ≤ c) (e : Nat.ble c C = true) : t ≤ C := Nat.le_trans h (Nat.le_of_ble_eq_true e)
theorem ltc {t c C : Nat} (h : t < c) (e : Nat.ble c (C+1) = true) : t ≤ C := Nat.le_of_lt_succ (Nat.lt_of_lt_of_le h (Nat.le_of_ble_eq_true e))
theorem eql {t u C : Nat} (h : t = u) (k : u ≤ C) : t ≤ C := h ▸ k
theorem eqr {t u C : Nat} (h : u = t) (k : u ≤ C) : t ≤ C := h ▸ k
theorem ltl {t u C : Nat} (h : t < u) (k : u ≤ C) : t ≤ C := Nat.le_trans (Nat.le_of_lt h) k
theorem i63 {t : Nat} (h : t ≤ 1000000) : (t : Int) < 2 ^ 63 := by omega
theorem iab {t : Nat} (h : t ≤ 999999) : (t : Int).natAbs < 1000000 := by omega
theorem iabl {t C : Nat} (h : t ≤ C) : (t : Int).natAbs ≤ C := by omega
theorem imin {t u C : Nat} (h : u ≤ C) : min t u ≤ C := Nat.le_trans (Nat.min_le_right _ _) h
theorem ltq {t u v : Nat} (h : t < u) (k : u = v) : t < v := k ▸ h
theorem ltr {t u v : Nat} (h : t < u) (k : v = u) : t < v := k ▸ h
theorem lt4 {a : Nat} (h : a < 4) : a = 0 ∨ a = 1 ∨ a = 2 ∨ a = 3 := by omega
theorem lt3 {a : Nat} (h : a < 3) : a = 0 ∨ a = 1 ∨ a = 2 := by omega
theorem lt2 {a : Nat} (h : a < 2) : a = 0 ∨ a = 1 := by omega
theorem dcl {a b : Nat} (e : Nat.ble a b = true) : a ≤ b := Nat.le_of_ble_eq_true e
section
open Lean
def sT (k : String) (l : List Syntax) : Syntax := .node .none (`Lean.Parser.Tactic ++ .mkSimple k) l.toArray
def sE (k : String) (l : List Syntax) : Syntax := .node .none (`Lean.Parser.Term ++ .mkSimple k) l.toArray
def sA (s : String) : Syntax := .atom .none s
def sN (l : List Syntax) : Syntax := .node .none nullKind l.toArray
def sq (l : List Syntax) : Syntax := sT "tacticSeq" [sT "tacticSeq1Indented" [sN (l.intersperse (sA ";"))]]
def sO : Syntax := sT "optConfig" [sN []]
def hole : Syntax := sE "hole" [sA "_"]
def sap (f : Name) (l : List Syntax) : Syntax := sE "app" [mkIdent f, sN l]
def tok (j : String) : Syntax := .node .none `PySem.W.tacticK_lt_ #[sA "k_lt", mkIdent (.mkSimple j)]
def wr (k a : String) (l : List Syntax) : Syntax := sT k [sA a, sq l]
def fis (l : List Syntax) : Syntax := wr "failIfSuccess" "fail_if_success" l
def shw (t : Syntax) : Syntax := wr "withReducible" "with_reducible" [fis [fis [sT "show" [sA "show", t]]]]
def runP (t : Syntax) : Syntax := shw (sap `Mine.RUN [hole, hole, sap `List.cons [t, hole], hole, hole, hole])
def ell (n : Name) : Syntax := sap n [sE "ellipsis" [sA ".."]]
def smp (o : List Syntax) (l : List Syntax) : Syntax := sT "simp" [sA "simp", sO, sN [], sN o, sN l, sN []]
def decK : Syntax := sT "decide" [sA "decide", sT "optConfig" [sN [sT "configItem" [sT "posConfigItem" [sA "+", mkIdent `kernel]]]]]
def krf : Syntax := .node .none `tacticKernel_rfl #[sA "kernel_rfl"]
def omg : Syntax := sT "omega" [sA "omega", sO]
def ex (t : Syntax) : Syntax := sT "exact" [sA "exact", t]
def rfn (t : Syntax) : Syntax := sT "refine" [sA "refine", t]
def sh : Syntax := sE "syntheticHole" [sA "?", sA "_"]
def nrm : Syntax := wr "withUnfoldingAll" "with_unfolding_all" [ex (mkIdent `rfl)]
def rep (l : List Syntax) : List Syntax := [sT "tacticRepeat_" [sA "repeat", sq l]]
def inl (x : String) : List Syntax := match x.toList with
 | ['A'] => [sT "assumption" [sA "assumption"]]
 | ['B'] => [wr "withReducibleAndInstances" "with_reducible_and_instances" [ex (sap `Eq.refl [mkIdent `true])]]
 | ['N'] => [nrm]
 | ['K'] => [sT "first" [sA "first", sN ([[fis [fis [decK]], krf], [decK]].map fun x => .node .none groupKind #[sA "|", sq x])]]
 | ['L'] => [sT "lia" [sA "lia", sO]]
 | ['J'] => [krf]
 | ['Z'] => [sT "dsimp" [sA "dsimp", sO, sN [], sN [sA "only"], sN [sA "[", sN [sT "simpLemma" [sN [], sN [], mkIdent `List.cons_append], sA ",", sT "simpLemma" [sN [], sN [], mkIdent `List.nil_append]], sA "]"], sN []]]
 | ['U'] => [sT "decide" [sA "decide", sO]]
 | ['R'] => [sT "tacticRfl" [sA "rfl"]]
 | ['S'] => [wr "focus" "focus" [smp [] [], sT "done" [sA "done"]]]
 | ['O'] => [wr "focus" "focus" [smp [] [], omg]]
 | ['W'] => [omg]
 | ['G'] => [sT "dsimp" [sA "dsimp", sO, sN [], sN [sA "only"], sN [], sN []], tok "dk"]
 | ['H'] => [sT "intro" [sA "intro", sN [hole, hole]], ex (sE "anonymousCtor" [sA "⟨", sN [hole, sA ",", mkIdent `rfl], sA "⟩"])]
 | ['V'] => [sT "tactic_<;>_" [sT "constructor" [sA "constructor"], sA "<;>", nrm]]
 | ['k'] => [sT "skip" [sA "skip"]]
 | ['w'] => rep [tok "x"]
 | ['v'] => rep [fis [runP (sap `Mine.It.stm [ell `PySem.Stmt.If])], tok "x"]
 | ['C'] => [smp [sA "only"] [sA "[", sN [sT "simpLemma" [sN [], sN [], mkIdent `List.map_cons], sA ",", sT "simpLemma" [sN [], sN [], mkIdent `List.map_nil]], sA "]"], decK]
 | _ => [tok x]
def alt (nm : List Name) (x : String) : List Syntax :=
 let l := (String.ofList x.toList.tail).splitOn "/"
 let a := l.headD ""
 let n := if a.startsWith "!" then (String.ofList a.toList.tail).toName else `Mine ++ a.toName
 let r := l.tail.flatMap inl
 let cs := (nm.map fun y => (mkIdent y : Syntax)).zip (l.tail.map inl)
 let hs := cs.map fun (y, _) => sE "syntheticHole" [sA "?", y]
 let cs := cs.map fun (y, t) => sT "case" [sA "case", sN [sT "caseArg" [.node .none `Lean.binderIdent #[y], sN []]], sA "=>", sq t]
 match x.toList.headD ' ' with
 | 'a' => if cs.isEmpty then [rfn (sap n [sh])] else sT "refine'" [sA "refine'", sap n (hs ++ [sh])] :: cs
 | 'd' => rfn (sap n [sh]) :: r
 | 'e' => if cs.isEmpty then [ex (mkIdent n)] else sT "refine'" [sA "refine'", sap n hs] :: cs
 | 'u' => [ex (sap n [hole])]
 | 't' => [tok a]
 | 'i' => [rfn (sap n [sh]), sT "intro" [sA "intro", sN [hole, hole]]]
 | 's' => runP (ell n) :: r
 | 'c' => runP hole :: r
 | 'j' => shw (ell n) :: r
 | _ => inl x
def engTab : String := "w=w;v=v;co=C;C=aR_cons tC1 aSTS.runc;C1=+iSTS.runcL;N=tN0 k;N0=+aThen_next;S=tS0 tS1 tS2;S0=+aR_store/sv;S1=+dR_endE/S2;S2=aexSv/sv;x=sIt.ev/ey sIt.ev/ex sIt.evs/ev sIt.stm/sy sIt.stm/st sIt.tst/ty sIt.tst/ts sIt.br/kif sIt.sts/ss sIt.attr/ra sIt.cmp/rc sIt.tru/rt crn/rn ten jGETA/ga jCMP/cm jTRU/tu jBIN/bi jCALL/ca jSUBT/sb jTGT/tg jSETA/se j!ite/it tth;en=+aR_endE aR_endB aR_endT aR_end aEX.run aTST.run iSTS.runL aSTS.run aST.runIf;ex=+aR_loc/A/hv aR_glob/A/A/hg aR_int aR_str aR_bool aR_none aR_attr/N aR_callG/A/A/hg/N aR_inT/A/N aR_cmp/N aR_neg aR_not aR_bin aR_or2 aR_and2 aR_boolOne aR_andC aR_meth/A/N/N/N/N aR_slice/N/A aR_sub/N aR_list/A/N aR_tuple/A/N aR_ife;ev=+aR_evs_one aR_evs_cons aR_evs_nil;ss=tss0 aR_cons;ss0=+aR_nil aR_last aR_cons;st=tst0 aR_assignU/N/R;st0=+aR_if aR_ret aR_ret0 aR_assign/A/N aR_expr/A/N aR_assignT/N/N aR_aug/A/hv aR_augA aR_pass aR_cont aR_st'/N;ts=+aR_tinT/A/N aR_tninT/A/N aR_tcmp/N aR_tnot aR_tbool aR_tval/N;kif=tif0 aR_T/zt aR_F/zf aR_T/zs aR_F/zs;if0=+aR_TT aR_FF;it=tit0 aifT/zt aifF/zf aifT/zs aifF/zs;it0=+aifTT aifFF;ra=+aR_items/A/A/vec aR_kind/A/A/vec aR_attrs/A/A/vec/N aR_at;rc=+aR_cmpt/V aR_cmpv/V aR_cm;rt=+aR_trub aR_trun aR_tr;rn=+aR_call/N aR_store/sv aR_retE aR_retv aR_pop aR_mkf aR_notv aR_notb aR_pb aR_pv aR_and1 aR_or1 aR_and aR_or aR_lst/N/N aR_tup/N/N aR_inb/N/ni aR_inv/N/ni aR_addi aR_subi aR_inci aR_neg1 aR_and2b aR_or2b aR_and2n aR_or2n aR_methG/mm aR_tname/A/sv aR_tattr aR_tsub aR_sbt aR_bn aR_in aR_gt aR_sa aR_sb aR_si aR_tgt;mm=+eM_append/A eM_get/A eM_index/A eM_reverse/A;ni=R A K;ga=+aV_items/A/A/vec aV_kind/A/A/vec aV_attrs/A/A/vec/N aO_get/A/A/A/J/gf/N aA_getI/A/A/ka/gf/N;ka=eKOk.atn/A/J;ks=eKOk.stn/A/J;cm=+acmpV_of/V aC_inS'/A/A/dl aC_ninS'/A/A/dl;tu=+aU_bool aU_none;bi=+aB_add aB_sub;ca=+aV_isinst/A/vec aL_list/A/ln aQ_append/A/ln aQ_get1'/A/A/dl;sb=aSB_dicS'/A/dl/H aSB_list'/A/W/W/R/H aSB_tup'/A/W/W/R/H;tg=+aG_name/A/sv aTGT.run'/N;se=+aV_setShared/A/A/vec aA_setI/A/A/ks/sf/S;th=+aThen_next aThen_ret aThen_cont aThen_brk aLoopQ_next aLoopQ_cont aLoopQ_ret aexSv/sv aEVS_nil aEVS_cons aEXO_none aEXO_some aexInt aTGTS_nil aTGTS_cons aXS_nil aXS_cons'/N aLX/A;hv=+ehv0 ehv1 ehv2 ehv3 ehv4 ehv5 ehv6 ehv7 ehv8 ehv9 ehvn/hv ehvc/hg;hg=+ehg0 ehg1 ehg2 ehg3 ehg4 ehg5 ehg6 ehg7 ehg8 ehg9 ehgn/hg;sv=+esv0 esv1 esv2 esv3 esv4 esv5 esv6 esv7 esv8 esv9 esvn/sv;le=eLe.refl A eLe.tset/A/le eLe.t2/A/le;zt=A K edT/W;zf=A K edF/W;zs=R S O;vec=A evecm/A/le;ln=A W S O;ne=K G;sf=tsfh eSetF.app/J/Z;sfh=tsf1 eSetF.tail/nf/sfh;sf1=+eSetF.head;gf=tgf0 eGetF.tail/nf/gf;gf0=+eGetF.head;dl=A edlook_hd udlookS_nil udlook_nil edlook_tl/ne/dl;cp=eCaps.nil eCaps.cons/hv/ck/cp;ck=ekindOf_of/A/K;gs=eGVs.nil eGVs.cons/gn/gs;gn=+egn_0/A egn_1/A egn_2/A egn_3/A egn_4/A egn_5/A egn_6/A egn_7/A;om=tom0 U L;om0=+A edn/A/B edn0/A/B edn2/A/B u!Int.natCast_nonneg tbg edcl/B u!Int.le_refl ei63/bd eiab/bd eiabl/bd tbd eltq/A/A eltr/A/A e!Eq.trans/A/A e!Eq.trans/A/es elt4/A elt3/A elt2/A;es=e!Eq.symm/A;bg=+elec/A/B eltc/A/B;bd=+tbg eeql/A/be eltl/A/be eeqr/A/be eimin/be;be=+tbg eeql/A/bg eltl/A/bg eeqr/A/bg;dk=K;nf=J;ey=+aR_attrN/A/hv aR_callA/A/A/hg/av aR_lstA/A/A/av/N aR_tupA/A/A/av/N;sy=+aR_retA/A/A/av aR_assignA/A/A/av/sv;ty=+aR_tcmpA/A/A/N/av/V;av=+eAVs.nil eAVs.l/hv/av eAVs.g/hg/av eAVs.i/av eAVs.s/av eAVs.b/av eAVs.n/av"
def eng (i : Syntax) : MacroM Syntax := do
 let some t := (engTab.splitOn ";").findSome? (fun s => match s.splitOn "=" with | [a, b] => if a == i.getId.eraseMacroScopes.toString then some b else none | _ => none) | Macro.throwUnsupported
 let nm ← [`s1, `s2, `s3, `s4, `s5, `s6].mapM fun (n : Name) => Macro.addMacroScope n
 let f (t : String) := sT "first" [sA "first", sN ((t.splitOn " ").map fun x => .node .none groupKind #[sA "|", sq (alt nm x)])]
 return if t.startsWith "+" then wr "withReducible" "with_reducible" [f (String.ofList t.toList.tail)] else f t
end
local macro_rules | `(tactic| k_lt $i:ident) => eng i
local macro_rules | `(tactic| omega) => return tok "om"
inductive V where
 | none | bool (b : Bool) | int (i : Int) | str (s : Str) | ref (a : Addr) | ty (n : String) | bi (n : String) | odd
 deriving DecidableEq
noncomputable def E : Value → V
 | .none => .none
 | .bool b => .bool b
 | .int i _ => .int i
 | .str s _ => .str s
 | .ref a => .ref a
 | .type n => .ty n
 | .builtin n => .bi n
 | _ => .odd
theorem E_int {v : Value} {i : Int} (h : E v = .int i) : ∃ t, v = .int i t := by cases v <;> cases h <;> exact ⟨_, rfl⟩
theorem E_str {v : Value} {i : Str} (h : E v = .str i) : ∃ t, v = .str i t := by cases v <;> cases h <;> exact ⟨_, rfl⟩
theorem E_ref {v : Value} {i : Addr} (h : E v = .ref i) : v = .ref i := by cases v <;> cases h <;> rfl
theorem E_bool {v : Value} {i : Bool} (h : E v = .bool i) : v = .bool i := by cases v <;> cases h <;> rfl
theorem E_none {v : Value} (h : E v = .none) : v = .none := by cases v <;> cases h <;> rfl
theorem E_ty {v : Value} {i : String} (h : E v = .ty i) : v = .type i := by cases v <;> cases h <;> rfl
theorem E_bi {v : Value} {i : String} (h : E v = .bi i) : v = .builtin i := by cases v <;> cases h <;> rfl
inductive AObj where
 | list (xs : List V)
 | tup (xs : List V)
 | inst (C d : Addr)
 | flds (fs : List (Str × V))
 | vecd (k i a : V)
 | dicS (l : List (Str × V))
 | dicI (l : List (Int × V))
 | rng (lo hi : Int)
 | raw (o : Obj)
 | ns (m : Str → Option Value)
theorem Lj {a b : List V} (h : some (AObj.list a) = some (AObj.list b)) : a = b := by cases h; rfl
noncomputable abbrev Sig := Addr → Option AObj
noncomputable abbrev Loc := List (Str × Option V)
inductive FE : List DictEntry → List (Str × V) → Prop
 | nil : FE [] []
 | cons {hsh : Int} {x : Str} {t : Tok} {val : Value} {v : V} {es fs} : E val = v → FE es fs → FE (⟨hsh, .str x t, val⟩ :: es) ((x, v) :: fs)
noncomputable def vecFlds (k i a : V) (b : Bool) : List (Str × V) := [("kind", k), ("items", i), ("attrs", a), ("shared", .bool b), ("loose", .bool false)]
noncomputable def Rep (prog : Program) (w : World) : AObj → Addr → Heap → Prop
 | .list xs, a, h => ∃ vs n, h.get? a = some { cls := .type "list", data := .seq vs n } ∧ vs.toList.map E = xs
 | .tup xs, a, h => ∃ vs n, h.get? a = some { cls := .type "tuple", data := .seq vs n } ∧ vs.toList.map E = xs
 | .inst C d, a, h => h.get? a = some (instObj C d)
 | .flds fs, a, h => ∃ es n, h.get? a = some (dictOf es n) ∧ FE es fs
 | .vecd k i at', a, h => ∃ b, ∃ es n, h.get? a = some (dictOf es n) ∧ FE es (vecFlds k i at' b)
 | .dicS l, a, h => ∃ kvs, h.DictOf (strKind prog w) a kvs ∧ kvs.map (fun p => (p.1, E p.2)) = l
 | .dicI l, a, h => ∃ kvs, h.DictOf (intKind prog w) a kvs ∧ kvs.map (fun p => (p.1, E p.2)) = l
 | .rng lo hi, a, h => ∃ t u v, IsRange h a lo hi 1 t u v
 | .raw o, a, h => h.get? a = some o
 | .ns m, a, h => h.Ns a m
structure Cx where
 A : Around
 env : Env
 h₀ : Heap
 os : OsState
 lns : List Str
 gl : List (Str × V)
structure Fm (prog : Program) (w : World) (c : Cx) (ρ : Loc) (σ : Sig) (s : Shared) : Prop where
 names : ρ.map (·.1) = c.lns
 ns : ∃ m, s.heap.Ns c.env.locals m ∧ ∀ p ∈ ρ, c.env.kindOf p.1 = some .local → (m p.1).map E = p.2
 cl : ∀ p ∈ ρ, c.env.kindOf p.1 = some .cell → ∃ a v, c.env.cells.lookup p.1 = some a ∧ s.heap.IsCell a v ∧ v.map E = p.2
 keep : ∀ b o, c.h₀.get? b = some o → s.heap.get? b = some o
 own : ∀ a o, σ a = some o → Rep prog w o a s.heap
 free : ∀ a o, σ a = some o → c.h₀.get? a = none ∧ a ≠ c.env.locals ∧ ∀ x, c.env.cells.lookup x ≠ some a
 gens : s.gens = #[]
 os : s.os = c.os
structure Base (prog : Program) (w : World) (K : Frag) (h : Heap) : Prop where
 inK : K.In h
 g : ∃ mg, h.Ns mainGlobals mg
 b : ∃ mb, h.Ns builtinsNs mb ∧ ∀ x : Str, x ≠ "__name__" → mb x = bootBuiltins x
 nolimit : h.NoLimit
 nodigits : ∃ mc, h.Ns cStatics mc ∧ mc "sys.int_max_str_digits" = none
 sm : ∃ o, h.get? sysModules = some o
structure AttrOk (K : Frag) (C : Addr) (nm : Str) : Prop where
 plain : plainGet K C nm = true
 dict : hasDictIn K C = true
 attr : ∃ a, findIn K (.ref C) nm = some a ∧ noGet K a = true
structure StoreOk (K : Frag) (C : Addr) (nm : Str) : Prop where
 sa : findIn K (.ref C) "__setattr__" = some (some (.builtin "object.__setattr__"))
 over : plainOver K C = true
 taker : takerIn K C nm = some none
 dict : hasDictIn K C = true
noncomputable def gv (K : Frag) (x : Str) : Addr := match nsIn K mainGlobals x with
 | some (some (.ref a)) => a
 | _ => 0
structure FnOk (K : Frag) (f : Addr) (name qual : Str) (params : Arguments) (body : List PySem.Stmt) (scope : Scope) (dfs : List V) : Prop where
 ex : ∃ oc od osl dV kV doc pm an cdv ct, K.lookup f = some ⟨oc, od, .func (fnOf name qual params body scope dV kV doc pm an cdv ct), osl⟩ ∧ codeIn K cdv qual = true ∧
  ((dV = .none ∧ dfs = []) ∨ ∃ T o vs m, dV = .ref T ∧ K.lookup T = some o ∧ o.data = .seq vs m ∧ vs.toList.map E = dfs)
noncomputable def excB : List Value := [.type "Exception", .type "BaseException", .type "object"]
structure ExcIn (K : Frag) (C fI : Addr) : Prop where
 obj : ∃ nm q N bs bm sn sub ab col dd k0 k1 k2 k3 k5, K.lookup C = some (excClassObj nm q C N bs bm true sn sub ab col dd k0 k1 k2 k3 k5 "Exception.__new__") ∧ tailIn K excB bm = true
 init : findIn K (.ref C) "__init__" = some (some (.ref fI))
 fn : isFn K (.ref fI) = true
 sa : findIn K (.ref C) "__setattr__" = some (some (.builtin "object.__setattr__"))
 ga : findIn K (.ref C) "__getattribute__" = some (some (.builtin "BaseException.__getattribute__"))
 hk : findIn K (.ref C) "__getattr__" = some none
 attr : findIn K (.ref C) "message" = some none
 keep : keepIn K (.ref C) = true
noncomputable def topStmt (i : Nat) : PySem.Stmt := (pw_pq1385_01.main.body.drop i).headD (.Pass ⟨0, 0, 0, 0⟩)
noncomputable def inClass (i j : Nat) : PySem.Stmt := match topStmt i with
 | .ClassDef _ _ _ body _ _ _ _ _ _ _ => (body.drop j).headD (.Pass ⟨0, 0, 0, 0⟩)
 | _ => .Pass ⟨0, 0, 0, 0⟩
noncomputable def fnArgs : PySem.Stmt → Arguments
 | .FunctionDef _ args _ _ _ _ _ _ _ _ => args
 | _ => { posonlyargs := [], args := [], vararg := none, kwonlyargs := [], kw_defaults := [], kwarg := none, defaults := [] }
noncomputable def fnBody : PySem.Stmt → List PySem.Stmt
 | .FunctionDef _ _ body _ _ _ _ _ _ _ => body
 | _ => []
noncomputable def fnScope : PySem.Stmt → Scope
 | .FunctionDef _ _ _ _ _ _ scope _ _ _ => scope
 | _ => { kind := .function, names := [], isGenerator := false, isCoroutine := false, more := [] }
noncomputable def mt (K : Frag) (C m : Str) : Addr := match findIn K (.ref (gv K C)) m with
 | some (some (.ref a)) => a
 | _ => 0
noncomputable def defNames : List Str := (["Environment", "Evaluator", "Matching", "Missing", "Null", "Refusal", "Vector", "_law_flags_right", "_law_frame", "_law_grain", "_law_index", "_law_items_right", "_law_names_right", "_law_parts_right", "_law_plain", "_law_taken", "array_element_place", "array_with_names", "as_kind", "as_list", "as_vector_kind", "assign_flags", "assign_frame", "axis_texts", "b_colnames", "b_dim_frame", "b_element_frame", "b_rownames", "b_set_colnames", "b_set_frame"] : List Str) ++ (["b_set_rownames", "b_subset_frame", "both_arguments", "character", "class_attr", "column_names", "column_places", "common_kind", "dim_of", "dimnames_of", "doubled_text", "element", "element_step", "empty_column", "environment_item", "extending_places", "factor_codes", "first_frame", "first_places", "fitted_column", "flag", "frame_rows", "frame_with_columns", "frame_with_rows", "get_attr", "index_arguments", "index_parts", "integer", "is_absent", "is_atomic"] : List Str) ++ (["is_atomic_kind", "is_factor", "is_flag_matrix", "is_frame", "is_list_kind", "is_long_index", "is_true", "is_vector", "item_as", "kept_attrs", "kind_items", "kind_order", "label_text", "label_texts", "lacking", "level_at", "list_item_as", "logical", "logical_places", "longer_labels", "make_unique", "match_names", "missing", "name_places", "names_of", "needed", "new_frame", "null", "number_text", "one_item"] : List Str) ++ (["one_name", "one_place", "one_whole", "part_columns", "part_rows", "partial_place", "pick_items", "pick_rows", "picked_labels", "plain_rows", "positions", "put_places", "refuse_subset", "row_names", "row_places", "select_columns", "setter_arguments", "share", "spread_items", "spread_list", "subset_frame", "take", "to_double", "to_integer", "to_logical", "to_text", "to_whole", "unused_text", "vector_element", "whole_places"] : List Str) ++ (["whole_subscripts", "with_names", "without_columns"] : List Str)
noncomputable def biNames : List (Str × V) := [("isinstance", .bi "isinstance"), ("len", .bi "len"), ("list", .ty "list"), ("max", .bi "max"), ("range", .ty "range"), ("sorted", .bi "sorted"), ("str", .ty "str")]
noncomputable def fnTab : List (Nat × Str × List V) := ([(210, "_law_grain", []), (211, "_law_frame", []), (212, "_law_index", []), (213, "_law_plain", []), (214, "_law_taken", []), (215, "_law_parts_right", []), (216, "_law_flags_right", []), (217, "_law_names_right", []), (218, "_law_items_right", []), (219, "law", []), (50, "null", []), (51, "missing", []), (52, "logical", []), (53, "integer", []), (54, "character", []), (57, "flag", []), (60, "is_vector", []), (61, "is_atomic", []), (64, "share", []), (66, "get_attr", []), (69, "label_text", []), (71, "label_texts", []), (86, "class_attr", []), (83, "names_of", []), (84, "dim_of", []), (92, "match_names", [.none]), (93, "needed", []), (94, "take", [.none]), (98, "common_kind", []), (97, "kind_order", [])] : List (Nat × Str × List V)) ++ ([(106, "to_text", []), (107, "item_as", []), (108, "is_atomic_kind", []), (112, "with_names", []), (113, "as_kind", []), (116, "whole_subscripts", []), (117, "logical_places", []), (118, "whole_places", []), (119, "first_places", []), (120, "name_places", []), (121, "extending_places", []), (122, "positions", []), (124, "one_name", []), (125, "one_whole", []), (126, "one_place", []), (129, "is_list_kind", []), (131, "one_item", []), (132, "vector_element", []), (135, "element_step", []), (137, "is_long_index", []), (138, "element", []), (140, "is_true", []), (142, "make_unique", []), (144, "is_frame", []), (145, "is_factor", []), (146, "new_frame", []), (147, "plain_rows", []), (148, "frame_rows", []), (149, "column_names", []), (150, "row_names", [])] : List (Nat × Str × List V)) ++ ([(151, "kept_attrs", []), (153, "pick_items", []), (154, "picked_labels", []), (155, "pick_rows", []), (156, "is_absent", []), (157, "row_places", []), (158, "column_places", []), (159, "select_columns", []), (160, "subset_frame", []), (163, "kind_items", []), (164, "put_places", []), (166, "fitted_column", []), (167, "part_rows", []), (168, "part_columns", []), (169, "longer_labels", []), (170, "spread_list", []), (172, "assign_frame", []), (175, "first_frame", []), (176, "index_arguments", []), (177, "b_subset_frame", []), (178, "b_element_frame", []), (179, "setter_arguments", []), (180, "is_flag_matrix", []), (181, "assign_flags", []), (182, "b_set_frame", []), (183, "b_dim_frame", []), (184, "axis_texts", []), (185, "b_rownames", []), (186, "b_colnames", []), (187, "frame_with_rows", [])] : List (Nat × Str × List V)) ++ ([(188, "frame_with_columns", []), (190, "both_arguments", []), (191, "b_set_rownames", []), (192, "b_set_colnames", [])] : List (Nat × Str × List V))
noncomputable def mtTab : List (Nat × Nat × Str × Str × Str × List V) := [(208, 0, "Evaluator", "__init__", "Evaluator.__init__", [.int 20000, .int 40]), (208, 1, "Evaluator", "new_env", "Evaluator.new_env", []), (46, 0, "Environment", "__init__", "Environment.__init__", [.none]), (208, 5, "Evaluator", "warn_all", "Evaluator.warn_all", [.none]), (43, 0, "Null", "__init__", "Null.__init__", []), (44, 0, "Missing", "__init__", "Missing.__init__", []), (45, 0, "Vector", "__init__", "Vector.__init__", [.none]), (88, 0, "Matching", "__init__", "Matching.__init__", []), (88, 1, "Matching", "exact", "Matching.exact", []), (88, 2, "Matching", "partial", "Matching.partial", []), (88, 3, "Matching", "partial_of", "Matching.partial_of", []), (88, 4, "Matching", "positional", "Matching.positional", []), (88, 5, "Matching", "is_free", "Matching.is_free", []), (88, 6, "Matching", "rest", "Matching.rest", []), (3, 0, "Refusal", "__init__", "Refusal.__init__", [])]
noncomputable def clsTab : List Str := ["Environment", "Evaluator", "Matching", "Missing", "Null", "Vector"]
noncomputable def atTab : List (Str × Str) := ([("Environment", "attrs"), ("Environment", "frame"), ("Environment", "kind"), ("Environment", "locked"), ("Environment", "locks"), ("Environment", "number"), ("Environment", "parent"), ("Evaluator", "base"), ("Evaluator", "current"), ("Evaluator", "deparser"), ("Evaluator", "dispatcher"), ("Evaluator", "frames"), ("Evaluator", "globals"), ("Evaluator", "handlers"), ("Evaluator", "limit"), ("Evaluator", "most_frames"), ("Evaluator", "next_number"), ("Evaluator", "out"), ("Evaluator", "restarts"), ("Evaluator", "s4"), ("Evaluator", "signaller"), ("Evaluator", "steps"), ("Evaluator", "targets"), ("Evaluator", "visible"), ("Evaluator", "warner"), ("Evaluator", "warnings"), ("Matching", "formals"), ("Matching", "places"), ("Matching", "tags"), ("Matching", "used")] : List (Str × Str)) ++ ([("Missing", "attrs"), ("Missing", "kind"), ("Null", "attrs"), ("Null", "kind"), ("Vector", "attrs"), ("Vector", "attrs"), ("Vector", "items"), ("Vector", "kind"), ("Vector", "loose"), ("Vector", "shared")] : List (Str × Str))
structure KOk (K : Frag) : Prop where
 g : ∀ x ∈ defNames, nsIn K mainGlobals x = some (some (.ref (gv K x))) ∧ keepIn K (.ref (gv K x)) = true
 b : ∀ p ∈ biNames, nsIn K mainGlobals p.1 = some none
 f : ∀ p ∈ fnTab, FnOk K (gv K p.2.1) p.2.1 p.2.1 (fnArgs (topStmt p.1)) (fnBody (topStmt p.1)) (fnScope (topStmt p.1)) p.2.2
 m : ∀ p ∈ mtTab, FnOk K (mt K p.2.2.1 p.2.2.2.1) p.2.2.2.1 p.2.2.2.2.1 (fnArgs (inClass p.1 p.2.1)) (fnBody (inClass p.1 p.2.1)) (fnScope (inClass p.1 p.2.1)) p.2.2.2.2.2
 mf : ∀ p ∈ mtTab.take 14, findIn K (.ref (gv K p.2.2.1)) p.2.2.2.1 = some (some (.ref (mt K p.2.2.1 p.2.2.2.1))) ∧ isFn K (.ref (mt K p.2.2.1 p.2.2.2.1)) = true ∧ keepIn K (.ref (mt K p.2.2.1 p.2.2.2.1)) = true ∧ plainGet K (gv K p.2.2.1) p.2.2.2.1 = true
 c : ∀ C ∈ clsTab, makesIn K (gv K C) = true
 a : ∀ p ∈ atTab, AttrOk K (gv K p.1) p.2 ∧ StoreOk K (gv K p.1) p.2
 x : ExcIn K (gv K "Refusal") (mt K "Refusal" "__init__")
noncomputable def intsL (zs : List Int) : List V := zs.map V.int
noncomputable def LawAt (w : World) (K : Frag) : Prop := ∀ {s : Shared} (hB : Base PySem.Challenge.rw_pq1385_01.row.toRowW.prog w K s.heap) (hg : s.gens = #[]) {sc : Addr} {us : Array Value} {m : Nat} {zs : List Int} (hsc : s.heap.get? sc = some { cls := .type "list", data := .seq us m }) (hus : us.toList.map E = intsL zs) (hz : zs.length ≤ 63)
 {R : Result → Shared → Prop} (hR : ∀ s', (∀ b o, s.heap.get? b = some o → s'.heap.get? b = some o) → s'.os = s.os → s'.gens = #[] → R (.ok (.ret (.bool true))) s'),
 codeAny (model PySem.Challenge.rw_pq1385_01.row.toRowW.prog w) callerA (.call (.ref (gv K "law")) ⟨[.ref sc], []⟩) R s
theorem someWorld : Nonempty (World × Frag) := ⟨⟨⟨fun _ _ => 0, { strHash := fun _ => 0, shareClass := fun _ => 0, mergeTok := id, idOf := fun _ => 0, idOfShared := fun _ _ => 0, followText := fun _ => false, idOfImm := fun _ => 0 }⟩, []⟩⟩
noncomputable def prog : Program := PySem.Challenge.rw_pq1385_01.row.toRowW.prog
noncomputable def wK : World × Frag := @Classical.epsilon _ someWorld fun p => ¬ (KOk p.2 → LawAt p.1 p.2)
noncomputable def w : World := wK.1
noncomputable def K : Frag := wK.2
theorem law_ever (h : KOk K → LawAt w K) (w₀ : World) (K₀ : Frag) (hK : KOk K₀) : LawAt w₀ K₀ := by
 apply Classical.byContradiction
 intro hn
 exact @Classical.epsilon_spec_aux _ someWorld (fun p => ¬ (KOk p.2 → LawAt p.1 p.2)) ⟨(w₀, K₀), fun f => hn (f hK)⟩ h
structure Bd where
 os : List Obj
 n : Nat
 t : Nat
 ns : List (Str × Nat × Value)
 tb : List Value
 md : Value
 cp : Nat
noncomputable def tpO (l : List Value) : Obj := { cls := .type "tuple", data := .seq ⟨l⟩ }
noncomputable def flO (l : List Value) : Obj := { cls := .none, data := .fields ⟨l⟩ }
noncomputable def tks : Nat → List Str → List Value
 | _, [] => []
 | t, s :: r => .str s t :: tks (t + 1) r
noncomputable def cuS : Str := "/claim/cut.py"
noncomputable def cdO (nm qn : Str) (t line argc flags a : Nat) (fn : Bool) (b : Nat) (x y z : Value) (u : Nat) : Obj :=
 { cls := .type "code", data := .fields ⟨[.str nm t, .str qn (t + 1), .str cuS (t + 2), rawInt line, rawInt argc, rawInt 0, rawInt 0, rawInt flags, .ref a, .bool fn, rawInt 181, .ref b, .none, x, y, z, rawInt u, rawInt line, .str cuS (u + 1)]⟩ }
noncomputable def dfsOf : Nat → List PySem.Expr → List Value × Nat
 | t, [] => ([], t)
 | t, .Constant (.int i) _ _ :: r => let (l, u) := dfsOf (t + 1) r; (.int i t :: l, u)
 | t, .Constant (.str i) _ _ :: r => let (l, u) := dfsOf (t + 1) r; (.str i t :: l, u)
 | t, .Constant (.bool i) _ _ :: r => let (l, u) := dfsOf t r; (.bool i :: l, u)
 | t, _ :: r => let (l, u) := dfsOf t r; (.none :: l, u)
noncomputable def mute : List Nat := [172, 325, 384, 436, 543, 555, 576, 638, 651, 657, 670, 773, 791, 823, 986, 1002, 1067, 1077, 1105, 1121, 1140, 1194, 1196, 1261, 1295, 1349, 1423, 1478, 1815, 1827, 1842, 1845, 1872, 1889, 1917]
noncomputable def addFn (mu : List Nat) (b : Bd) (pre : Str) (name : Str) (args : Arguments) (body : List PySem.Stmt) (sc : Scope) (line : Nat) : Bd × Nat × Nat :=
 let qn : Str := ⟨pre.cps ++ name.cps⟩
 let (dv, t) := dfsOf b.t args.defaults
 let (os, n, d) : List Obj × Nat × Value := match dv with | [] => (b.os, b.n, .none) | _ => (tpO dv :: b.os, b.n + 1, .ref b.n)
 let q := mu.contains line
 let nms := (sc.names.filter fun p => p.2 == .local).map (·.1)
 let cls := (sc.names.filter fun p => p.2 == .cell).map (·.1)
 let (os, m, u) : List Obj × Nat × Nat := match q with | true => (flO [] :: tpO [] :: os, n + 2, t + 3) | false => (tpO (tks (t + 3 + nms.length) cls) :: tpO (tks (t + 3) nms) :: flO [] :: tpO [] :: os, n + 4, t + 3 + nms.length + cls.length)
 let fd : FuncData := { name, qualname := qn, params := args, body := .stmts body, scope := sc, globals := 0, closure := [], defaults := .none, kwdefaults := .none }
 let c := cdO name qn t line args.args.length 3 n true (n + 1) (match q with | true => .none | false => .ref (n + 2)) (match q with | true => .none | false => .ref (n + 3)) (.ref m) u
 let f : Obj := { cls := .type "function", data := .func { fd with globals := 3, defaults := d, pyModule := b.md, code := .ref (m + 1) } }
 ({ b with os := f :: c :: { cls := .none, data := .func fd } :: os, n := m + 3, t := u + 2 }, m + 1, m + 2)
noncomputable def addMs (mu : List Nat) (pre : Str) : List PySem.Stmt → Bd → List (Str × Nat × Value) → List Value → Bd × List (Str × Nat × Value) × List Value
 | [], b, ns, tb => (b, ns, tb)
 | .FunctionDef name args body _ _ _ sc _ _ p :: r, b, ns, tb =>
  let (b, c, f) := addFn mu b pre name args body sc p.line
  addMs mu pre r { b with t := b.t + 1 } (ns ++ [(name, b.t, .ref f)]) (tb ++ [rawInt p.line, rawInt p.col, .ref c])
 | _ :: r, b, ns, tb => addMs mu pre r b ns tb
noncomputable def dictE (P : Params) (l : List (Str × Nat × Value)) (n : Nat) : Obj := { cls := .type "dict", data := .dict ⟨l.map fun p => { hash := PyData.keyHash P p.1, key := .str p.1 p.2.1, val := p.2.2 }⟩ n }
noncomputable def addCl (P : Params) (mu : List Nat) (b : Bd) (name : Str) (body : List PySem.Stmt) (stat : List Str) (line : Nat) (kind : Nat) (subs : List Value) : Bd :=
 let a := b.n
 let t := b.t
 let cn := b.cp
 let bases : List Value := match kind with | 0 => [] | 1 => [.type "Exception"] | _ => [.ref cn]
 let ns0 : List (Str × Nat × Value) := [("__module__", t + 7, b.md), ("__qualname__", t + 9, .str name (t + 8)), ("__firstlineno__", t + 11, .int line (t + 10))]
 let (b1, ns, tb) := addMs mu ⟨name.cps ++ ("." : Str).cps⟩ body { b with os := [], n := a + 7, t := t + 12 } ns0 []
 let m := b1.n
 let u := b1.t
 let c := m + 2
 let ns := ns.append [("__static_attributes__", u + stat.length, .ref m)]
 let v := u + stat.length + 1
 let (ds, ex, v) : List Obj × List (Str × Nat × Value) × Nat := match kind with
  | 0 => ([{ cls := .type "getset_descriptor", data := .fields ⟨[.str "__weakref__" (v + 2), .ref c, .builtin "ExceptionGroup.__weakref__", .none]⟩ }, { cls := .type "getset_descriptor", data := .fields ⟨[.str "__dict__" v, .ref c, .builtin "function.__dict__", .builtin "function.__dict__#set"]⟩ }],
   [("__dict__", v + 1, .ref (c + 1)), ("__weakref__", v + 3, .ref (c + 2)), ("__doc__", v + 4, .none)], v + 5)
  | 1 => ([{ cls := .type "getset_descriptor", data := .fields ⟨[.str "__weakref__" v, .ref c, .builtin "ExceptionGroup.__weakref__", .none]⟩ }], [("__weakref__", v + 1, .ref (c + 1)), ("__doc__", v + 2, .none)], v + 5)
  | _ => ([], [("__doc__", v, .none)], v + 1)
 let mro : List Value := .ref c :: (match kind with | 0 => [.type "object"] | 1 => [.type "Exception", .type "BaseException", .type "object"] | _ => [.ref cn, .type "Exception", .type "BaseException", .type "object"])
 let cl : Obj := { cls := .type "type", data := .cls { name, bases := (match kind with | 0 => [.type "object"] | _ => bases), mro, ns := m + 1, qualname := name, subclasses := subs }, slots := #[(match kind with | 0 => none | _ => some (.ref a)), none, some (.str name t), some (.str name (t + 8)), some (.builtin (match kind with | 0 => "object.__new__" | _ => "Exception.__new__")), some (.bool true)] }
 let nsF := ns.filter (fun p => p.1 != ("__qualname__" : Str)) ++ ex
 let e := c + 1 + ds.length
 { b1 with
  os := { cls := .type "builtin_function_or_method", data := .fields ⟨[.builtin "object.__init_subclass__", .ref c]⟩ } :: { cls := .type "super", data := .fields ⟨[.ref c, .ref c, .ref c]⟩ } :: ds ++ cl :: dictE P nsF (1 + ex.length) :: tpO (tks u stat) :: b1.os ++
   { cls := .type "frame", slots := #[some (.ref (a + 5)), some (.ref 3), some (.ref (a + 2)), none, some b.md, none, some (.ref 0)] } :: cdO name name (t + 2) line 0 0 (a + 3) false (a + 4) .none .none .none (t + 5) :: flO tb :: tpO [] :: dictE P ns ns.length ::
   { cls := .type "builtin_function_or_method", data := .fields ⟨[.builtin "type.__prepare__", .type "type"]⟩ } :: tpO bases :: b.os,
  n := e + 2, t := v + 2, ns := (name, v + 1, .ref c) :: b.ns, tb := .ref (a + 5) :: rawInt 0 :: rawInt line :: b.tb, cp := match kind with | 1 => c | _ => b.cp }
noncomputable def top1 (P : Params) (mu : List Nat) (b : Bd) : PySem.Stmt → Bd
 | .FunctionDef name args body _ _ _ sc _ _ p =>
  let (b, c, f) := addFn mu b ⟨#[]⟩ name args body sc p.line
  { b with t := b.t + 1, ns := (name, b.t, .ref f) :: b.ns, tb := .ref c :: rawInt 0 :: rawInt p.line :: b.tb }
 | .ClassDef name bases _ body _ _ _ _ _ stat p => match bases with
  | [] => addCl P mu b name body stat p.line 0 []
  | .Name x _ :: _ => match x == ("Exception" : Str) with
   | true => addCl P mu b name body stat p.line 1 [.ref 51, .ref 70, .ref 89, .ref 108, .ref 127]
   | false => addCl P mu b name body stat p.line 2 []
  | _ => b
 | .Assign [.Name x _] (.Constant (.str s) _ _) _ => match x == ("__name__" : Str) with
  | true => { b with t := b.t + 2, md := .str s b.t }
  | false => { b with t := b.t + 2, ns := (x, b.t + 1, .str s b.t) :: b.ns }
 | .Assign [.Name x _] (.Constant (.int i) _ _) _ => { b with t := b.t + 2, ns := (x, b.t + 1, .int i b.t) :: b.ns }
 | .Assign [.Name x _] (.Tuple es _ _) _ =>
  let (l, u) := dfsOf b.t es
  { b with os := tpO l :: b.os, n := b.n + 1, t := u + 1, ns := (x, u, .ref b.n) :: b.ns }
 | _ => b
noncomputable def b0 : Bd := ⟨[], 15, 187, [], [], .str "__main__" 164, 0⟩
noncomputable def topB (P : Params) (k : Nat) : Bd := (pw_pq1385_01.main.body.take k).foldl (top1 P mute) b0
noncomputable def gns (b : Bd) : List (Str × Nat × Value) := List.append [("__name__", 165, b.md), ("__doc__", 166, .none), ("__package__", 167, .none), ("__loader__", 168, .builtin "__main__.__loader__#opaque"), ("__spec__", 169, .none), ("__annotations__", 170, .ref 6), ("__builtins__", 171, .ref 4), ("__file__", 173, .str cuS 172), ("__cached__", 174, .none)] b.ns.reverse
noncomputable def oSub (P : Params) : Obj := { (dictE P [("type.__subclasses__.Exception.0", 212, .int 31 0), ("type.__subclasses__.Exception.n", 213, .int 1 0)] 2) with cls := .none }
noncomputable def objsOf (P : Params) (o2 : Obj) (b : Bd) : List Obj :=
 boot_o_0 P :: boot_o_1 P :: o2 :: dictE P (gns b) (gns b).length :: boot_o_4 P :: boot_o_5 P :: boot_o_6 P :: boot_o_7 P :: boot_o_8 P :: boot_o_9 P :: boot_o_10 P :: tpO [] :: flO b.tb.reverse :: cdO "<module>" "<module>" 182 1 0 0 11 false 12 .none .none .none 185 ::
  { cls := .type "frame", slots := #[some (.ref 13), some (.ref 3), some (.ref 3), none, some (.str "__main__" 164), none, some (.ref 0)] } :: b.os.reverse
noncomputable def ev : List Obj → List Obj
 | [] => []
 | [a] => [a]
 | a :: _ :: r => a :: ev r
noncomputable def treeOf : Nat → List Obj → BT
 | 0, _ => .nil
 | _, [] => .nil
 | n + 1, v :: r => .node v (treeOf n (ev r)) (treeOf n (ev r.tail))
noncomputable def stT (P : Params) (k : Nat) (os : OsState) : SharedT :=
 let b := topB P k
 ⟨treeOf b.n (objsOf P (match k with | 0 => boot_o_2 P | _ => oSub P) b), b.n, (boot_heap P).life, #[], boot_drawn, b.t, os⟩
noncomputable def ENV : Env := { scope := pw_pq1385_01.main.scope, locals := mainNs, globals := mainNs, cells := [], code := .ref 13, frame := some 14 }
noncomputable def CODE0 : Code := Code.body pw_pq1385_01.main.body ENV
noncomputable def pos0 : Pos := ⟨0, 0, 0, 0⟩
noncomputable def seg (a b : Nat) : List PySem.Stmt := (pw_pq1385_01.main.body.take b).drop a
theorem ev_get : ∀ (l : List Obj) (i : Nat), (ev l)[i]? = l[2 * i]?
 | [], i => by simp [ev]
 | [a], i => by cases i <;> simp [ev, Nat.mul_add]
 | a :: b :: r, 0 => by simp [ev]
 | a :: b :: r, i + 1 => by
  show (a :: ev r)[i + 1]? = _
  rw [List.getElem?_cons_succ, ev_get r i, show 2 * (i + 1) = 2 * i + 1 + 1 by omega, List.getElem?_cons_succ, List.getElem?_cons_succ]
theorem ev_len : ∀ l : List Obj, (ev l).length ≤ l.length
 | [] => Nat.le_refl _
 | [a] => Nat.le_refl _
 | a :: b :: r => by have := ev_len r; simp only [ev, List.length_cons]; omega
theorem treeOf_get : ∀ (n : Nat) (l : List Obj), l.length ≤ n → ∀ i, (treeOf n l).get i = l[i]?
 | 0, l, h, i => by
  obtain rfl : l = [] := List.length_eq_zero_iff.mp (Nat.le_zero.mp h)
  rfl
 | n + 1, [], _, i => rfl
 | n + 1, v :: r, h, i => by
  have h1 : r.length ≤ n := Nat.le_of_succ_le_succ h
  show (BT.node v (treeOf n (ev r)) (treeOf n (ev r.tail))).get i = _
  rw [BT.get_node, treeOf_get n _ (Nat.le_trans (ev_len _) h1), treeOf_get n _ (Nat.le_trans (ev_len _) (by rw [List.length_tail]; omega)), ev_get, ev_get]
  cases i with
  | zero => rfl
  | succ i =>
   rw [if_neg (by omega), List.getElem?_cons_succ]
   by_cases p : (i + 1) % 2 = 1
   · rw [if_pos p, show 2 * ((i + 1) / 2) = i by omega]
   · rw [if_neg p, List.getElem?_tail, show 2 * ((i + 1) / 2 - 1) + 1 = i by omega]
theorem absHeap_of {l : List Obj} {n : Nat} {life : Life} (h : l.length = n) : absHeap (treeOf n l) n life = ⟨l.toArray, life⟩ := by
 have : (absHeap (treeOf n l) n life).objs = l.toArray := by
  apply Array.ext_getElem?
  intro i
  rw [absHeap_at, treeOf_get _ _ (Nat.le_of_eq h), List.getElem?_toArray]
  by_cases q : i < n
  · rw [if_pos q, List.getElem?_eq_getElem (h ▸ q)]; rfl
  · rw [if_neg q, List.getElem?_eq_none (by omega)]
 show Heap.mk _ _ = Heap.mk _ _
 exact congrArg (Heap.mk · life) this
theorem top_pre (w : World) (os : OsState) : Fast.tw15667345088766844465 Fast.tw14364793385576792824 pw_pq1385_01 w 11 (some (.ref 6)) 12 ⟨boot_heap w.params, #[], boot_drawn, boot_toks, os⟩ (topStub pw_pq1385_01) = some ((stT w.params 0 os).abs, ⟨Fast.tw11892475500146522536 Fast.tw14364793385576792824 CODE0, CODE0, pos0, [topFrame pos0]⟩) := by kernel_rfl
noncomputable abbrev rP (w : World) (os : OsState) (a b : Nat) (p q : Pos) : Prop := Fast.tw10110043849684766642 Fast.tw14364793385576792824 pw_pq1385_01 w 11 (some (.ref 6)) 1 2200 (stT w.params a os) ⟨(Fast.tw12563942051412417395 (seg a b) ENV).wrap doneF deadEnd id id, CODE0, p, [topFrame pos0]⟩ = some (.next, stT w.params b os, CODE0, q)
theorem run_0 (w : World) (os : OsState) : rP w os 0 24 ⟨0, 0, 0, 0⟩ ⟨85, 0, 95, 23⟩ := by delta rP; kernel_rfl
theorem run_24 (w : World) (os : OsState) : rP w os 24 48 ⟨85, 0, 95, 23⟩ ⟨292, 0, 300, 25⟩ := by delta rP; kernel_rfl
theorem run_48 (w : World) (os : OsState) : rP w os 48 80 ⟨292, 0, 300, 25⟩ ⟨492, 0, 524, 32⟩ := by delta rP; kernel_rfl
theorem run_80 (w : World) (os : OsState) : rP w os 80 114 ⟨492, 0, 524, 32⟩ ⟨791, 0, 797, 61⟩ := by delta rP; kernel_rfl
theorem run_114 (w : World) (os : OsState) : rP w os 114 146 ⟨791, 0, 797, 61⟩ ⟨1065, 0, 1066, 119⟩ := by delta rP; kernel_rfl
theorem run_146 (w : World) (os : OsState) : rP w os 146 171 ⟨1065, 0, 1066, 119⟩ ⟨1249, 0, 1260, 16⟩ := by delta rP; kernel_rfl
theorem run_171 (w : World) (os : OsState) : rP w os 171 196 ⟨1249, 0, 1260, 16⟩ ⟨1452, 0, 1458, 15⟩ := by delta rP; kernel_rfl
theorem run_196 (w : World) (os : OsState) : rP w os 196 211 ⟨1452, 0, 1458, 15⟩ ⟨1802, 0, 1814, 15⟩ := by delta rP; kernel_rfl
theorem run_211 (w : World) (os : OsState) : rP w os 211 220 ⟨1802, 0, 1814, 15⟩ ⟨1917, 0, 1930, 116⟩ := by delta rP; kernel_rfl
noncomputable def q0 : Program := { pw_pq1385_01 with main := { pw_pq1385_01.main with body := [seg 219 220].flatten } }
noncomputable def endH (P : Params) : Heap := ⟨(objsOf P (oSub P) (topB P 220)).toArray, (boot_heap P).life⟩
noncomputable def endS (P : Params) (os : OsState) : Shared := ⟨endH P, #[], boot_drawn, 2662, os⟩
noncomputable def lo : List Str := Fast.tw18344453789297297638 pw_pq1385_01 |>.filter fun n => !(Fast.sEq n "law") && !(Fast.sEq n "__name__")
theorem l1 (w : World) (os : OsState) : Fast.tw4187177175401517315 q0 lo (importedModules pw_pq1385_01.main.body) (fun _ => true) true (endS w.params os) = openGood q0 lo := by kernel_rfl
theorem l2 (w : World) : staticsOk (importedModules pw_pq1385_01.main.body) (boot_heap w.params) (endH w.params) = true := by kernel_rfl
theorem l3 (w : World) : namesBound pw_pq1385_01 (endH w.params) = true := by unfold namesBound; rw [Fast.te18344453789297297638, Fast.te12749700546528644094, Fast.sDec_eq]; kernel_rfl
theorem l4 (w : World) : laidKept (boot_heap w.params) (endH w.params) = true := by kernel_rfl
theorem l5 (w : World) (os : OsState) : gensDone (endS w.params os) = true := by kernel_rfl
theorem l6 (w : World) : ((boot_heap w.params).isNs mainGlobals && (#[] : Array GenState).size == 0, (boot_heap w.params).objs.size, (boot_heap w.params).nsMap mainGlobals "__annotations__") = (true, 11, some (.ref 6)) := by kernel_rfl
noncomputable def asK : List Nat := [1, 3, 30, 31, 47, 48, 50, 51, 180, 181, 271, 277, 278, 333, 334, 336, 337, 354, 355, 357, 358, 370, 376, 377, 386, 387, 399, 405, 406, 408, 409, 468, 469, 475, 476, 482, 483, 489, 490, 496, 497, 516, 517, 537, 538, 544, 545, 565, 566, 572, 573, 593, 594, 600, 601, 605, 606, 683, 684, 690, 691, 695, 696, 702, 703, 716, 717, 723, 724, 730, 731, 737, 738, 744, 745, 751, 752, 756, 757, 759, 760, 770, 771, 782, 783, 784, 788, 789, 795, 796, 797, 801, 802, 808, 809, 815, 816, 850, 851, 857, 858, 864, 865, 871, 872, 878, 879, 885, 886, 892, 893, 904, 905, 911, 912, 916, 917, 923, 924, 930, 931, 937, 938, 942, 943, 949, 950, 956, 957, 963, 964, 970, 971, 977, 978, 984, 985, 991, 992, 998, 999, 1012, 1013, 1019, 1020, 1026, 1027, 1033, 1034, 1040, 1041, 1047, 1048, 1052, 1053, 1057, 1058, 1064, 1065, 1071, 1072, 1078, 1079, 1085, 1086, 1092, 1093, 1099, 1100, 1104, 1105, 1111, 1112, 1118, 1119, 1123, 1124, 1130, 1131, 1137, 1138, 1144, 1145, 1151, 1152, 1156, 1157, 1161, 1162, 1168, 1169, 1175, 1176, 1182, 1183, 1187, 1188, 1194, 1195, 1201, 1202, 1208, 1209, 1215, 1216, 1220, 1221, 1225, 1226, 1232, 1233, 1239, 1240, 1246, 1247, 1253, 1254, 1258, 1259, 1265, 1266, 1270, 1271, 1277, 1278, 1284, 1285, 1291, 1292, 1298, 1299, 1305, 1306, 1312, 1313, 1317, 1318, 1324, 1325, 1331, 1332, 1338, 1339, 1345, 1346, 1352, 1353, 1359, 1360, 1366, 1367, 1371, 1372, 1378, 1379, 1385, 1386, 1392, 1393, 1498, 1504, 1505, 1511, 1512, 1535, 1541, 1542, 1695, 1696, 1706, 1707, 1711, 1712, 1716, 1717, 1721, 1722, 1726, 1727, 1733, 1734, 1738, 1739, 1743, 1744, 1750, 1751, 1755, 1756]
noncomputable def KF (P : Params) : Frag :=
 let t := treeOf 1757 (objsOf P (oSub P) (topB P 220))
 asK.map fun a => (a, (t.get a).getD default)
noncomputable def isF (K : Frag) (f : Addr) : Bool := match K.lookup f with | some ⟨_, _, .func _, _⟩ => true | _ => false
noncomputable def fdOf (K : Frag) (f : Addr) : FuncData := match K.lookup f with | some ⟨_, _, .func fd, _⟩ => fd | _ => default
noncomputable def dfOk (K : Frag) (dfs : List V) : Value → Bool
 | .none => dfs.isEmpty
 | .ref T => (match K.lookup T with | some ⟨_, _, .seq vs _, _⟩ => decide (vs.toList.map E = dfs) | _ => false)
 | _ => false
noncomputable def fnS (name qual : Str) (s : PySem.Stmt) (fd : FuncData) : FuncData := fnOf name qual (fnArgs s) (fnBody s) (fnScope s) fd.defaults fd.kwdefaults fd.doc fd.pyModule fd.annotations fd.code fd.closureTuple
noncomputable def fnB (K : Frag) (f : Addr) (qual : Str) (dfs : List V) : Bool := isF K f && codeIn K (fdOf K f).code qual && dfOk K dfs (fdOf K f).defaults
theorem isF_of {K : Frag} {f : Addr} (h : isF K f = true) : ∃ c d fd sl, K.lookup f = some ⟨c, d, .func fd, sl⟩ := by
 revert h; delta isF
 cases K.lookup f with
 | none => intro h; cases h
 | some o =>
  obtain ⟨c, d, dt, sl⟩ := o
  cases dt <;> intro h <;> first | exact ⟨_, _, _, _, rfl⟩ | cases h
theorem dfOk_of {K : Frag} {T : Addr} {dfs : List V} (h : dfOk K dfs (.ref T) = true) : ∃ c d vs m s, K.lookup T = some ⟨c, d, .seq vs m, s⟩ ∧ vs.toList.map E = dfs := by
 revert h; delta dfOk; dsimp only
 cases K.lookup T with
 | none => intro h; cases h
 | some o =>
  obtain ⟨c, d, dt, sl⟩ := o
  cases dt <;> intro h <;> first | exact ⟨_, _, _, _, _, rfl, of_decide_eq_true h⟩ | cases h
theorem FnOk.of {K : Frag} {f : Addr} {name qual : Str} {s : PySem.Stmt} {dfs : List V} (h : fnB K f qual dfs = true) (e : fdOf K f = fnS name qual s (fdOf K f)) : FnOk K f name qual (fnArgs s) (fnBody s) (fnScope s) dfs := by
 simp only [fnB, Bool.and_eq_true] at h
 obtain ⟨⟨h1, h2⟩, h3⟩ := h
 obtain ⟨c, d, fd, sl, hl⟩ := isF_of h1
 have e0 : fdOf K f = fd := by unfold fdOf; rw [hl]
 rw [e0] at h2 h3 e
 refine ⟨c, d, sl, fd.defaults, fd.kwdefaults, fd.doc, fd.pyModule, fd.annotations, fd.code, fd.closureTuple, hl.trans (congrArg (fun x => some (Obj.mk c d (.func x) sl)) e), h2, ?_⟩
 revert h3
 cases hd : fd.defaults with
 | none => intro h3; exact .inl ⟨rfl, List.isEmpty_iff.mp h3⟩
 | ref T =>
  intro h3
  obtain ⟨c2, d2, vs, m, s2, hT, e⟩ := dfOk_of h3
  exact .inr ⟨T, _, vs, m, rfl, hT, rfl, e⟩
 | _ => intro h3; cases h3
noncomputable def gB (K : Frag) : Bool := defNames.all fun x => decide (nsIn K mainGlobals x = some (some (.ref (gv K x)))) && keepIn K (.ref (gv K x))
noncomputable def bB (K : Frag) : Bool := biNames.all fun p => decide (nsIn K mainGlobals p.1 = some none)
noncomputable def fB (K : Frag) : Bool := fnTab.all fun p => fnB K (gv K p.2.1) p.2.1 p.2.2
noncomputable def mB (K : Frag) : Bool := mtTab.all fun p => fnB K (mt K p.2.2.1 p.2.2.2.1) p.2.2.2.2.1 p.2.2.2.2.2
noncomputable def mfB (K : Frag) : Bool := (mtTab.take 14).all fun p => decide (findIn K (.ref (gv K p.2.2.1)) p.2.2.2.1 = some (some (.ref (mt K p.2.2.1 p.2.2.2.1)))) && isFn K (.ref (mt K p.2.2.1 p.2.2.2.1)) && keepIn K (.ref (mt K p.2.2.1 p.2.2.2.1)) && plainGet K (gv K p.2.2.1) p.2.2.2.1
noncomputable def cB (K : Frag) : Bool := clsTab.all fun C => makesIn K (gv K C)
noncomputable def aB (K : Frag) : Bool := atTab.all fun p => plainGet K (gv K p.1) p.2 && hasDictIn K (gv K p.1) && (match findIn K (.ref (gv K p.1)) p.2 with | some a => noGet K a | none => false) &&
 decide (findIn K (.ref (gv K p.1)) "__setattr__" = some (some (.builtin "object.__setattr__"))) && plainOver K (gv K p.1) && decide (takerIn K (gv K p.1) p.2 = some none)
noncomputable def xB (K : Frag) : Bool := let C := gv K "Refusal"; let f := mt K "Refusal" "__init__"
 tailIn K excB [.ref 31, .type "Exception", .type "BaseException", .type "object"] && decide (findIn K (.ref C) "__init__" = some (some (.ref f))) && isFn K (.ref f) && decide (findIn K (.ref C) "__setattr__" = some (some (.builtin "object.__setattr__"))) &&
 decide (findIn K (.ref C) "__getattribute__" = some (some (.builtin "BaseException.__getattribute__"))) && decide (findIn K (.ref C) "__getattr__" = some none) && decide (findIn K (.ref C) "message" = some none) && keepIn K (.ref C)
noncomputable def RefO : Obj := excClassObj "Refusal" "Refusal" 51 50 [.ref 31] [.ref 31, .type "Exception", .type "BaseException", .type "object"] true [] [] false none none (some (.ref 35)) none (some (.str "Refusal" 216)) (some (.str "Refusal" 224)) (some (.bool true)) "Exception.__new__"
noncomputable def lawB (K : Frag) : Bool := decide (nsIn K mainGlobals "law" = some (some (.ref (gv K "law")))) && (K.lookup sysModules).isSome
noncomputable def allB (K : Frag) : Bool := gB K && (bB K && (mfB K && (cB K && (aB K && (xB K && lawB K)))))
noncomputable def liveT (t : BT) (a : Nat) : Bool := match t.get a with | some ⟨_, _, .freed, _⟩ => false | some _ => true | none => false
theorem k_all (P : Params) : allB (KF P) = true := by kernel_rfl
theorem k_fns (P : Params) : (fB (KF P) && mB (KF P), (fnTab.map fun p => fdOf (KF P) (gv (KF P) p.2.1)), (mtTab.map fun p => fdOf (KF P) (mt (KF P) p.2.2.1 p.2.2.2.1)), (KF P).lookup (gv (KF P) "Refusal"), gv (KF P) "Refusal") =
 (true, (fnTab.map fun p => fnS p.2.1 p.2.1 (topStmt p.1) (fdOf (KF P) (gv (KF P) p.2.1))), (mtTab.map fun p => fnS p.2.2.2.1 p.2.2.2.2.1 (inClass p.1 p.2.1) (fdOf (KF P) (mt (KF P) p.2.2.1 p.2.2.2.1))), some RefO, 51) := by kernel_rfl
theorem k_live (P : Params) : asK.all (liveT (treeOf 1757 (objsOf P (oSub P) (topB P 220)))) = true := by kernel_rfl
theorem st_len (P : Params) : (objsOf P (oSub P) (topB P 220)).length = 1757 := by kernel_rfl
theorem st_nt (P : Params) : ((topB P 220).n, (topB P 220).t) = (1757, 2662) := by kernel_rfl
theorem st_end (P : Params) (os : OsState) : (stT P 220 os).abs = endS P os := by
 have e := st_nt P
 have e1 : (topB P 220).n = 1757 := congrArg Prod.fst e
 have e2 : (topB P 220).t = 2662 := congrArg Prod.snd e
 show Shared.mk (absHeap (treeOf (topB P 220).n (objsOf P (oSub P) (topB P 220))) (topB P 220).n (boot_heap P).life) #[] boot_drawn (topB P 220).t os = _
 rw [e1, e2, absHeap_of (st_len P)]; rfl
theorem cut_ {α : Type} (L : List α) {a b c : Nat} (h : a ≤ b) (k : b ≤ c) (n : b ≤ L.length) : (L.take c).drop a = (L.take b).drop a ++ (L.take c).drop b := by
 have e : L.take c = L.take b ++ (L.take c).drop b := by
  have := (List.take_append_drop b (L.take c)).symm
  rwa [List.take_take, Nat.min_eq_left k] at this
 rw [show (L.take c).drop a = (L.take b ++ (L.take c).drop b).drop a by rw [← e], List.drop_append_of_le_length (by rw [List.length_take]; omega)]
theorem bl : pw_pq1385_01.main.body.length = 220 := by kernel_rfl
theorem seg_0 : pw_pq1385_01.main.body = seg 0 220 := (List.take_of_length_le (Nat.le_of_eq bl)).symm
theorem seg_220 : seg 220 220 = [] := List.drop_eq_nil_of_le (by rw [List.length_take]; omega)
abbrev pE : Pos := ⟨1917, 0, 1930, 116⟩
theorem top_fin (w : World) (s : Shared) : topRun treeTable pw_pq1385_01 w 11 (some (.ref 6)) 2 s ⟨doneF .next, CODE0, pE, [topFrame pos0]⟩ = some s := by kernel_rfl
theorem top_blk (w : World) (s : Shared) : segRun treeTable pw_pq1385_01 w 11 (some (.ref 6)) 1 1 s (blockOf pw_pq1385_01.main.body ENV CODE0 pos0 [topFrame pos0]) = some (.next, s, CODE0, pos0) := by
 have e : (blockStart pw_pq1385_01.main.body ENV).wrap (fun _ => doneF .next) deadEnd id id = doneF .next := by rw [Fast.te1066825118222455980]; kernel_rfl
 show segRun treeTable pw_pq1385_01 w 11 (some (.ref 6)) 1 1 s ⟨(blockStart pw_pq1385_01.main.body ENV).wrap (fun _ => doneF .next) deadEnd id id, CODE0, pos0, [topFrame pos0]⟩ = _
 rw [e]; rfl
theorem run_seg {w : World} {os : OsState} {n a b : Nat} {l : List PySem.Stmt} {p q : Pos} (h : Fast.tw10110043849684766642 Fast.tw14364793385576792824 pw_pq1385_01 w 11 (some (.ref 6)) 1 n (stT w.params a os) ⟨(Fast.tw12563942051412417395 l ENV).wrap doneF deadEnd id id, CODE0, p, [topFrame pos0]⟩ = some (.next, stT w.params b os, CODE0, q)) :
 segRun treeTable pw_pq1385_01 w 11 (some (.ref 6)) 1 n (stT w.params a os).abs (piecesOf l ENV CODE0 p [topFrame pos0]) = some (.next, (stT w.params b os).abs, CODE0, q) := by
 rw [← Fast.te10110043849684766642, ← Fast.te14364793385576792824, ← Fast.te12563942051412417395] at h
 exact segRun_of h
theorem seg_step {w : World} {s s₁ r : Shared} {p p₁ : Pos} {n m a b : Nat} (ha : a ≤ b) (hb : b ≤ 220) (h1 : segRun treeTable pw_pq1385_01 w 11 (some (.ref 6)) 1 n s (piecesOf (seg a b) ENV CODE0 p [topFrame pos0]) = some (.next, s₁, CODE0, p₁))
 (k : topRun treeTable pw_pq1385_01 w 11 (some (.ref 6)) m s₁ (restOf (seg b 220) ENV CODE0 p₁ [topFrame pos0]) = some r) : topRun treeTable pw_pq1385_01 w 11 (some (.ref 6)) (n + m) s (restOf (seg a 220) ENV CODE0 p [topFrame pos0]) = some r := by
 rw [show seg a 220 = seg a b ++ seg b 220 from cut_ _ ha hb (by rw [bl]; exact hb)]
 exact piece_app h1 k
theorem seg_end {w : World} {s r : Shared} {p : Pos} (h : topRun treeTable pw_pq1385_01 w 11 (some (.ref 6)) 2 s ⟨doneF .next, CODE0, p, [topFrame pos0]⟩ = some r) : topRun treeTable pw_pq1385_01 w 11 (some (.ref 6)) 2 s (restOf (seg 220 220) ENV CODE0 p [topFrame pos0]) = some r := by
 rw [seg_220]; exact piece_nil h
theorem top_go {w : World} {s s₀ r : Shared} {N : Nat} (h : topGo treeTable pw_pq1385_01 w 11 (some (.ref 6)) 12 s (topStub pw_pq1385_01) = some (s₀, ⟨denote treeTable CODE0, CODE0, pos0, [topFrame pos0]⟩))
 (k : topRun treeTable pw_pq1385_01 w 11 (some (.ref 6)) N s₀ (restOf (seg 0 220) ENV CODE0 pos0 [topFrame pos0]) = some r) : topRun treeTable pw_pq1385_01 w 11 (some (.ref 6)) (12 + (1 + N)) s (topStub pw_pq1385_01) = some r :=
 go_top h (piece_block (top_blk w _) (seg_0 ▸ k))
theorem top_run (w : World) (os : OsState) : topRun treeTable pw_pq1385_01 w 11 (some (.ref 6)) (12 + (1 + (2200 + (2200 + (2200 + (2200 + (2200 + (2200 + (2200 + (2200 + (2200 + 2))))))))))) ⟨boot_heap w.params, #[], boot_drawn, boot_toks, os⟩ (topStub pw_pq1385_01) = some ⟨endH w.params, #[], boot_drawn, 2662, os⟩ := by
 have h0 := top_pre w os
 rw [← Fast.te15667345088766844465, ← Fast.te14364793385576792824, ← Fast.te11892475500146522536] at h0
 have k := seg_step (b := 24) (by decide) (by decide) (run_seg (run_0 w os)) (seg_step (b := 48) (by decide) (by decide) (run_seg (run_24 w os)) (seg_step (b := 80) (by decide) (by decide) (run_seg (run_48 w os)) (seg_step (b := 114) (by decide) (by decide) (run_seg (run_80 w os)) (seg_step (b := 146) (by decide) (by decide) (run_seg (run_114 w os)) (seg_step (b := 171) (by decide) (by decide) (run_seg (run_146 w os)) (seg_step (b := 196) (by decide) (by decide) (run_seg (run_171 w os)) (seg_step (b := 211) (by decide) (by decide) (run_seg (run_196 w os)) (seg_step (b := 220) (by decide) (by decide) (run_seg (run_211 w os)) (seg_end (top_fin w _))))))))))
 rw [st_end] at k
 exact top_go h0 k
theorem k_in (P : Params) : asK.map (endH P).get? = (KF P).map fun p => some p.2 := by
 unfold KF
 simp only [List.map_map]
 refine List.map_congr_left fun a ha => ?_
 have h := List.all_eq_true.mp (k_live P) a ha
 have e := treeOf_get 1757 _ (Nat.le_of_eq (st_len P)) a
 simp only [liveT] at h
 show (endH P).get? a = some (((treeOf 1757 (objsOf P (oSub P) (topB P 220))).get a).getD default)
 have e2 : (endH P).objs[a]? = (treeOf 1757 (objsOf P (oSub P) (topB P 220))).get a := by rw [e]; exact List.getElem?_toArray
 unfold Heap.get?
 rw [e2]
 revert h
 cases (treeOf 1757 (objsOf P (oSub P) (topB P 220))).get a with
 | none => intro h; cases h
 | some o => obtain ⟨c, d, dt, sl⟩ := o; cases dt <;> first | (intro h; cases h; done) | (intro _; rfl)
theorem top_left : LeftO pw_pq1385_01 q0 lo (fun _ => true) (fun s => asK.map s.heap.get?) (fun w => (KF w.params).map fun p => some p.2) 20000 :=
 LeftO.of_pieces (H₀ := boot_heap) (H₁ := endH) (gs₀ := #[]) (gs₁ := #[]) (d₀ := boot_drawn) (d₁ := boot_drawn) (k₀ := boot_toks) (k₁ := 2662) (m₀ := 11) (ann := some (.ref 6)) (M := 12 + (1 + (2200 + (2200 + (2200 + (2200 + (2200 + (2200 + (2200 + (2200 + (2200 + 2)))))))))))
  (boot_open (by kernel_rfl) (by decide) (fun s => by kernel_rfl)) l6 top_run (by decide) fun w => funext fun os => by
   rw [show openSeen q0 lo (importedModules pw_pq1385_01.main.body) (fun _ => true) true ⟨endH w.params, #[], boot_drawn, 2662, os⟩ = openGood q0 lo by rw [Fast.te4187177175401517315]; exact l1 w os, l2 w, l3 w, l4 w]
   rw [show gensDone ⟨endH w.params, #[], boot_drawn, 2662, os⟩ = true from l5 w os]
   exact congrArg (fun x => (true, openGood q0 lo, x)) (k_in w.params)
theorem k_keys (P : Params) : asK = (KF P).map (·.1) := by
 unfold KF
 simp only [List.map_map]
 exact (List.map_id asK).symm
theorem all_of {α : Type} {l : List α} {p : α → Bool} (h : l.all p = true) : ∀ x ∈ l, p x = true := List.all_eq_true.mp h
theorem map_eq_of {α β : Type} {f g : α → β} : ∀ {l : List α}, l.map f = l.map g → ∀ x ∈ l, f x = g x
 | a :: r, h, x, hx => by
  simp only [List.map_cons, List.cons.injEq] at h
  rcases List.mem_cons.mp hx with rfl | hx
  · exact h.1
  · exact map_eq_of h.2 x hx
theorem KOk.of {K : Frag} (q0 : allB K = true) (q1 : (fB K && mB K) = true) (qf : (fnTab.map fun p => fdOf K (gv K p.2.1)) = fnTab.map fun p => fnS p.2.1 p.2.1 (topStmt p.1) (fdOf K (gv K p.2.1)))
 (qm : (mtTab.map fun p => fdOf K (mt K p.2.2.1 p.2.2.2.1)) = mtTab.map fun p => fnS p.2.2.2.1 p.2.2.2.2.1 (inClass p.1 p.2.1) (fdOf K (mt K p.2.2.1 p.2.2.2.1))) (r1 : K.lookup (gv K "Refusal") = some RefO) (r2 : gv K "Refusal" = 51) : KOk K ∧ lawB K = true := by
 simp only [allB, Bool.and_eq_true] at q0
 obtain ⟨kg, kb, kmf, kc, ka, x, kl⟩ := q0
 obtain ⟨kf, km⟩ := Bool.and_eq_true_iff.mp q1
 refine ⟨⟨fun x hx => ?_, fun p hp => of_decide_eq_true (all_of kb p hp), fun p hp => .of (all_of kf p hp) (map_eq_of qf p hp), fun p hp => .of (all_of km p hp) (map_eq_of qm p hp), fun p hp => ?_, fun C hC => all_of kc C hC, fun p hp => ?_, ?_⟩, kl⟩
 · have := all_of kg x hx; simp only [Bool.and_eq_true, decide_eq_true_eq] at this; exact this
 · have := all_of kmf p hp; simp only [Bool.and_eq_true, decide_eq_true_eq] at this; exact ⟨this.1.1.1, this.1.1.2, this.1.2, this.2⟩
 · have := all_of ka p hp
   simp only [Bool.and_eq_true, decide_eq_true_eq] at this
   obtain ⟨⟨⟨⟨⟨h1, h2⟩, h3⟩, h4⟩, h5⟩, h6⟩ := this
   refine ⟨⟨h1, h2, ?_⟩, ⟨h4, h5, h6, h2⟩⟩
   cases e : findIn K (.ref (gv K p.1)) p.2 with
   | none => rw [e] at h3; cases h3
   | some a => rw [e] at h3; exact ⟨a, rfl, h3⟩
 · simp only [xB, Bool.and_eq_true, decide_eq_true_eq] at x
   obtain ⟨⟨⟨⟨⟨⟨⟨x1, x2⟩, x3⟩, x4⟩, x5⟩, x6⟩, x7⟩, x8⟩ := x
   exact ⟨⟨_, _, _, _, _, _, _, _, _, _, _, _, _, _, _, r1.trans (by rw [r2]; rfl), x1⟩, x2, x3, x4, x5, x6, x7, x8⟩
theorem kok (P : Params) : KOk (KF P) ∧ lawB (KF P) = true := by
 have q0 := k_all P
 have q := k_fns P
 generalize KF P = K at q q0 ⊢
 simp only [Prod.mk.injEq] at q
 exact KOk.of q0 q.1 q.2.1 q.2.2.1 q.2.2.2.1 q.2.2.2.2
theorem filt3 {α : Type} {f : α → Bool} {a b c : α} (ha : f a = false) (hb : f b = false) (hc : f c = false) : R.filterR f [a, b, c] = [] := by
 rw [← R.filterR_eq, List.filter_cons, ha, List.filter_cons, hb, List.filter_cons, hc]; rfl
theorem said : rw_pq1385_01.wellSaid = true := by
 rw [Fast.te9446332074065402090]
 delta Fast.tw9446332074065402090
 repeat' (with_reducible refine look_both ?_ ?_)
 all_goals try (delta Fast.tw17960256430627541270; repeat' (with_reducible refine look_both ?_ ?_))
 all_goals try (delta Fast.tw2436336058641802641; repeat' (with_reducible refine look_both ?_ ?_))
 all_goals try (delta Fast.tw12908688711261696721; repeat' (with_reducible refine look_both ?_ ?_))
 all_goals try (rw [filt3 (f := Fast.tw13343964577679436407 (Fast.tw2368527892694137696 rw_pq1385_01).prog (Fast.tw2368527892694137696 rw_pq1385_01).prog.main.body) (a := ⟨⟨[118, 97, 114, 115]⟩⟩) (b := ⟨⟨[100, 105, 114]⟩⟩) (c := ⟨⟨[108, 111, 99, 97, 108, 115]⟩⟩) ?_ ?_ ?_])
 all_goals decide +kernel
theorem wSs_app {α : Type} {A : TablesWhole.Alg α} (u : ∀ x, A.both A.unit x = x) (a : ∀ x y z, A.both (A.both x y) z = A.both x (A.both y z)) {top : Scope} {cx : TablesWhole.Ctx} {sc : Scope} : ∀ l m, TablesWhole.wSs A top cx sc (l ++ m) = A.both (TablesWhole.wSs A top cx sc l) (TablesWhole.wSs A top cx sc m)
 | [], m => (u _).symm
 | s :: r, m => by
  show A.both (TablesWhole.wS A top cx sc s) (TablesWhole.wSs A top cx sc (r ++ m)) = A.both (A.both (TablesWhole.wS A top cx sc s) (TablesWhole.wSs A top cx sc r)) _
  rw [wSs_app u a r m, a]
noncomputable abbrev wG (l : List PySem.Stmt) : List Str := TablesWhole.wSs TablesWhole.gather pw_pq1385_01.main.scope ⟨pw_pq1385_01.main.scope, [], [], [], none⟩ pw_pq1385_01.main.scope l
noncomputable abbrev wH (l : List PySem.Stmt) : Bool := TablesWhole.wSs TablesWhole.holds pw_pq1385_01.main.scope ⟨pw_pq1385_01.main.scope, [], [], [], none⟩ pw_pq1385_01.main.scope l
theorem wG_0 : wG (seg 0 110) = [] := by delta wG; rw [Fast.te16421684217811934046, Fast.te12652042256554560961]; kernel_rfl
theorem wG_110 : wG (seg 110 220) = [] := by delta wG; rw [Fast.te16421684217811934046, Fast.te12652042256554560961]; kernel_rfl
theorem wH_0 : wH (seg 0 60) = true := by delta wH; rw [Fast.te16421684217811934046]; kernel_rfl
theorem wH_60 : wH (seg 60 120) = true := by delta wH; rw [Fast.te16421684217811934046]; kernel_rfl
theorem wH_120 : wH (seg 120 175) = true := by delta wH; rw [Fast.te16421684217811934046]; kernel_rfl
theorem wH_175 : wH (seg 175 220) = true := by delta wH; rw [Fast.te16421684217811934046]; kernel_rfl
theorem wH_cut {a b c : Nat} (h : a ≤ b) (k : b ≤ c) (n : b ≤ 220) (x : wH (seg a b) = true) (y : wH (seg b c) = true) : wH (seg a c) = true := by
 rw [show seg a c = seg a b ++ seg b c from cut_ _ h k (by rw [bl]; exact n)]
 exact (wSs_app (fun _ => rfl) Bool.and_assoc _ _).trans (Bool.and_eq_true_iff.mpr ⟨x, y⟩)
theorem wG_all : wG pw_pq1385_01.main.body = [] := by
 rw [seg_0, show seg 0 220 = seg 0 110 ++ seg 110 220 from cut_ _ (by decide) (by decide) (by rw [bl]; decide)]
 exact (wSs_app (fun _ => rfl) List.append_assoc _ _).trans (show wG _ ++ wG _ = [] by rw [wG_0, wG_110]; rfl)
theorem wH_all : wH pw_pq1385_01.main.body = true := by
 rw [seg_0]
 exact wH_cut (by decide) (by decide) (by decide) wH_0 (wH_cut (by decide) (by decide) (by decide) wH_60 (wH_cut (by decide) (by decide) (by decide) wH_120 wH_175))
theorem wM_eq (m : Module) : TablesWhole.wModule TablesWhole.holds m = (true && (TablesWhole.noTwice m.scope && (TablesWhole.wSs TablesWhole.holds m.scope ⟨m.scope, [], TablesWhole.wSs TablesWhole.gather m.scope ⟨m.scope, [], [], [], none⟩ m.scope m.body, [], none⟩ m.scope m.body && true))) := rfl
theorem wP_eq (p : Program) : p.tablesWhole = (TablesWhole.wModule TablesWhole.holds p.main && (TablesWhole.holds.all (p.modules.map fun (_, _, m) => TablesWhole.wModule TablesWhole.holds m) && (TablesWhole.holds.all (p.parses.map (TablesWhole.wParse TablesWhole.holds)) && (TablesWhole.holds.all (p.harvested.map (TablesWhole.wParse TablesWhole.holds)) && true)))) := rfl
theorem nT : TablesWhole.noTwice pw_pq1385_01.main.scope = true := by rw [Fast.te8331962902438777018]; kernel_rfl
theorem wM : TablesWhole.wModule TablesWhole.holds pw_pq1385_01.main = true := by
 rw [wM_eq, show TablesWhole.wSs TablesWhole.gather pw_pq1385_01.main.scope ⟨pw_pq1385_01.main.scope, [], [], [], none⟩ pw_pq1385_01.main.scope pw_pq1385_01.main.body = [] from wG_all, show TablesWhole.wSs TablesWhole.holds pw_pq1385_01.main.scope ⟨pw_pq1385_01.main.scope, [], [], [], none⟩ pw_pq1385_01.main.scope pw_pq1385_01.main.body = true from wH_all, nT]; rfl
theorem tabs : pw_pq1385_01.tablesWhole = true := by
 rw [wP_eq, wM, show pw_pq1385_01.modules = [] by kernel_rfl, show pw_pq1385_01.parses = [] by kernel_rfl, show pw_pq1385_01.harvested = [] by kernel_rfl]; rfl
noncomputable def KP (K : Frag) (f : V) : Prop := (∃ a, f = .ref a ∧ keepIn K (.ref a) = true) ∨ (∃ i, f = .bi i) ∨ ∃ i, f = .ty i
structure GV (K : Frag) (x : Str) (v : V) : Prop where
 val : (∃ u, nsIn K mainGlobals x = some (some u) ∧ E u = v) ∨ (nsIn K mainGlobals x = some none ∧ x ≠ "__name__" ∧ ∃ u, bootBuiltins x = some u ∧ E u = v)
 kp : KP K v
structure Cx.Ok (prog : Program) (w : World) (K : Frag) (n : Nat) (c : Cx) : Prop where
 base : Base prog w K c.h₀
 kind : c.env.scope.kind = .function
 glob : c.env.globals = mainGlobals ∧ c.env.builtins = builtinsNs
 nodup : c.lns.Nodup
 loc : ∀ x ∈ c.lns, c.env.kindOf x = some .local ∨ (c.env.kindOf x = some .cell ∧ ∃ a, c.env.cells.lookup x = some a)
 dbg : ∀ x ∈ c.lns, (x == ("__debug__" : Str)) = false
 gls : ∀ p ∈ c.gl, c.env.kindOf p.1 = some .globalImplicit ∧ (p.1 == ("__debug__" : Str)) = false ∧ GV K p.1 p.2
 fresh : c.h₀.get? c.env.locals = none ∧ ∀ x a, c.env.cells.lookup x = some a → c.h₀.get? a = none ∧ a ≠ c.env.locals
 cin : ∀ x a, c.env.cells.lookup x = some a → x ∈ c.lns ∧ c.env.kindOf x = some .cell
 apart : ∀ x y a, c.env.cells.lookup x = some a → c.env.cells.lookup y = some a → x = y
 hd : c.A.handled = none
 dep : c.A.depth + n < 900
 uni : c.A.units + 8 * n < 8000
noncomputable def TE (prog : Program) (w : World) (c : Cx) (ρ : Loc) (σ : Sig) {α : Type} (t : Sem α) (Q : α → Sig → Prop) : Prop :=
 ∀ s, Fm prog w c ρ σ s → wpAny (model prog w) c.A t (fun v s' => ∃ σ', Fm prog w c ρ σ' s' ∧ Q v σ') (fun _ _ => False) s
inductive Out where
 | next | brk | cont | ret (v : V)
noncomputable def Out.of : Flow → Out
 | .next => .next
 | .brk => .brk
 | .cont => .cont
 | .ret v => .ret (E v)
noncomputable def TS (prog : Program) (w : World) (c : Cx) (ρ : Loc) (σ : Sig) (t : Sem Flow) (Q : Out → Loc → Sig → Prop) : Prop :=
 ∀ s, Fm prog w c ρ σ s → wpAny (model prog w) c.A t (fun f s' => ∃ ρ' σ', Fm prog w c ρ' σ' s' ∧ Q (Out.of f) ρ' σ') (fun _ _ => False) s
section
variable {c : Cx} {ρ : Loc} {σ : Sig} {α β : Type}
theorem TE.pure {a : α} {Q : α → Sig → Prop} (h : Q a σ) : TE prog w c ρ σ (pure a) Q := fun s F => wpAny_pure ⟨σ, F, h⟩
theorem TE.mono {t : Sem α} {Q Q' : α → Sig → Prop} (h : TE prog w c ρ σ t Q) (hq : ∀ a σ', Q a σ' → Q' a σ') : TE prog w c ρ σ t Q' :=
 fun s F => wpAny_mono (h s F) (fun _ _ => ex1 fun σ' => an2 fun F' q => ⟨σ', F', hq _ _ q⟩) fun _ _ x => x
theorem TE.of_eq {t t' : Sem α} {Q : α → Sig → Prop} (e : t = t') (h : TE prog w c ρ σ t' Q) : TE prog w c ρ σ t Q := e ▸ h
theorem TE.standAt {p : Pos} {Q : Unit → Sig → Prop} (h : Q () σ) : TE prog w c ρ σ (standAt p) Q := fun s F => wpAny_standAt ⟨σ, F, h⟩
theorem TE.holding {vs : List Value} {t : Sem α} {Q : α → Sig → Prop} (h : TE prog w c ρ σ t Q) : TE prog w c ρ σ (holding vs t) Q := fun s F => wpAny_holding (h s F)
theorem Fm.toks {s : Shared} (F : Fm prog w c ρ σ s) (t : Nat) : Fm prog w c ρ σ { s with toks := t } := ⟨F.names, F.ns, F.cl, F.keep, F.own, F.free, F.gens, F.os⟩
end
noncomputable def EX (prog : Program) (w : World) (c : Cx) (ρ : Loc) (σ : Sig) (e : PySem.Expr) (Q : V → Sig → Prop) : Prop := TE prog w c ρ σ (eval e c.env) fun v σ' => Q (E v) σ'
noncomputable def TST (prog : Program) (w : World) (c : Cx) (ρ : Loc) (σ : Sig) (e : PySem.Expr) (Q : Bool → Sig → Prop) : Prop := TE prog w c ρ σ (isTrue e c.env (eval e c.env)) Q
noncomputable def EXS (prog : Program) (w : World) (c : Cx) (ρ : Loc) (σ : Sig) (es : List PySem.Expr) (Q : List V → Sig → Prop) : Prop :=
 ∀ pos, TE prog w c ρ σ (spliced (backTo pos (starEach es c.env))) fun vs σ' => Q (vs.map E) σ'
noncomputable def BIN (prog : Program) (w : World) (c : Cx) (ρ : Loc) (σ : Sig) (op : Operator) (x y : V) (Q : V → Sig → Prop) : Prop :=
 ∀ a b, E a = x → E b = y → TE prog w c ρ σ (binaryOp op a b) fun v σ' => Q (E v) σ'
noncomputable def CMP (prog : Program) (w : World) (c : Cx) (ρ : Loc) (σ : Sig) (op : CmpOp) (x y : V) (Q : V → Sig → Prop) : Prop :=
 ∀ a b, E a = x → E b = y → TE prog w c ρ σ (compareOp op a b) fun v σ' => Q (E v) σ'
noncomputable def TRU (prog : Program) (w : World) (c : Cx) (ρ : Loc) (σ : Sig) (x : V) (Q : Bool → Sig → Prop) : Prop :=
 ∀ a, E a = x → TE prog w c ρ σ (truthy a) Q
noncomputable def GETA (prog : Program) (w : World) (c : Cx) (ρ : Loc) (σ : Sig) (x : V) (n : Str) (Q : V → Sig → Prop) : Prop :=
 ∀ a, E a = x → TE prog w c ρ σ (getAttr a n true) fun v σ' => Q (E v) σ'
noncomputable def CALL (prog : Program) (w : World) (c : Cx) (ρ : Loc) (σ : Sig) (f : V) (xs : List V) (kw : List (Str × V)) (Q : V → Sig → Prop) : Prop :=
 ∀ g vs kv, E g = f → vs.map E = xs → kv.map (fun p => (p.1, E p.2)) = kw → TE prog w c ρ σ (call g vs kv) fun v σ' => Q (E v) σ'
noncomputable def ST (prog : Program) (w : World) (c : Cx) (ρ : Loc) (σ : Sig) (st : PySem.Stmt) (Q : Out → Loc → Sig → Prop) : Prop := TS prog w c ρ σ (exec st c.env) Q
noncomputable def STS (prog : Program) (w : World) (c : Cx) (ρ : Loc) (σ : Sig) (st : List PySem.Stmt) (Q : Out → Loc → Sig → Prop) : Prop := TS prog w c ρ σ (execs st c.env) Q
inductive HasV : List (Str × Option V) → Str → V → Prop
 | head {x v r} : HasV ((x, some v) :: r) x v
 | tail {p r x v} : HasV r x v → HasV (p :: r) x v
theorem HasV.mem {ρ : Loc} {x : Str} {v : V} (h : HasV ρ x v) : (x, some v) ∈ ρ := by
 induction h with
 | head => exact List.mem_cons_self
 | tail _ ih => exact List.mem_cons_of_mem _ ih
inductive HasG : List (Str × V) → Str → V → Prop
 | head {x v r} : HasG ((x, v) :: r) x v
 | tail {p r x v} : HasG r x v → HasG (p :: r) x v
theorem HasG.mem {ρ : List (Str × V)} {x : Str} {v : V} (h : HasG ρ x v) : (x, v) ∈ ρ := by
 induction h with
 | head => exact List.mem_cons_self
 | tail _ ih => exact List.mem_cons_of_mem _ ih
inductive SetV : Loc → Str → V → Loc → Prop
 | head {x o v r} : SetV ((x, o) :: r) x v ((x, some v) :: r)
 | tail {p r x v r'} : SetV r x v r' → SetV (p :: r) x v (p :: r')
theorem SetV.names {ρ ρ' : Loc} {x : Str} {v : V} (h : SetV ρ x v ρ') : ρ'.map (·.1) = ρ.map (·.1) := by
 induction h with
 | head => rfl
 | tail _ ih => simp [ih]
theorem SetV.has {ρ ρ' : Loc} {x : Str} {v : V} (h : SetV ρ x v ρ') : x ∈ ρ.map (·.1) := by
 induction h with
 | head => simp
 | tail _ ih => simp at ih ⊢; exact .inr ih
theorem SetV.get {ρ ρ' : Loc} {x : Str} {v : V} (h : SetV ρ x v ρ') (nd : (ρ.map (·.1)).Nodup) : ∀ p ∈ ρ', (p.1 = x ∧ p.2 = some v) ∨ (p.1 ≠ x ∧ p ∈ ρ) := by
 induction h with
 | head =>
  intro p hp
  rcases List.mem_cons.mp hp with rfl | hp
  · exact .inl ⟨rfl, rfl⟩
  · refine .inr ⟨fun e => ?_, List.mem_cons_of_mem _ hp⟩
    rw [List.map_cons, List.nodup_cons] at nd
    exact nd.1 (List.mem_map.mpr ⟨p, hp, e⟩)
 | tail h' ih =>
  intro p hp
  rw [List.map_cons, List.nodup_cons] at nd
  rcases List.mem_cons.mp hp with rfl | hp
  · refine .inr ⟨fun e => nd.1 (e ▸ h'.has), List.mem_cons_self⟩
  · rcases ih nd.2 p hp with h1 | ⟨h1, h2⟩
    · exact .inl h1
    · exact .inr ⟨h1, List.mem_cons_of_mem _ h2⟩
section
variable {n : Nat} {c : Cx} {ρ : Loc} {σ : Sig}
theorem X_loc {x : Str} {v : V} {pos : Pos} {Q : V → Sig → Prop} (ok : c.Ok prog w K n) (hv : HasV ρ x v) (h : Q v σ) : EX prog w c ρ σ (.Name x pos) Q := by
 intro s F
 have hm := hv.mem
 have hl : x ∈ c.lns := by rw [← F.names]; exact List.mem_map.mpr ⟨_, hm, rfl⟩
 refine wpAny_Name ?_ (ok.dbg x hl)
 rcases ok.loc x hl with hk | ⟨hk, a, ha⟩
 · obtain ⟨m, hn, hmm⟩ := F.ns
   have := hmm _ hm hk
   cases hx : m x with
   | none => rw [hx] at this; cases this
   | some u =>
    rw [hx] at this
    have e : E u = v := by simpa using this
    exact wpAny_loadName_local ok.kind hk hn hx ⟨σ, F, by show Q (E u) σ; rw [e]; exact h⟩
 · refine (ex2 fun a' u => an3 fun ha' hc hu => ?_) (F.cl _ hm hk)
   cases u with
   | none => cases hu
   | some u =>
    have e : E u = v := by simpa using hu
    exact wpAny_loadName_cell ok.kind hk ha' hc ⟨σ, F, by show Q (E u) σ; rw [e]; exact h⟩
theorem mgOf {h : Heap} {mg : Str → Option Value} {x : Str} {r : Option Value} (X : K.In h) (G : h.Ns mainGlobals mg) (e : nsIn K mainGlobals x = some r) : mg x = r := by
 cases r with
 | some v => exact mg_of X G e
 | none => exact mg_none_of X G e
theorem X_glob {x : Str} {v : V} {pos : Pos} {gl : List (Str × V)} {Q : V → Sig → Prop} (ok : c.Ok prog w K n) (hgl : c.gl = gl) (hv : HasG gl x v) (h : Q v σ) : EX prog w c ρ σ (.Name x pos) Q := by
 intro s F
 subst hgl
 refine (an3 fun hk hd hg => ?_) (ok.gls _ hv.mem)
 obtain ⟨mg, G⟩ := ok.base.g
 obtain ⟨mb, B, hb⟩ := ok.base.b
 have G' : s.heap.Ns c.env.globals mg := by rw [ok.glob.1]; exact G.keeps F.keep
 have B' : s.heap.Ns c.env.builtins mb := by rw [ok.glob.2]; exact B.keeps F.keep
 refine Name_function_global ok.kind hk ?_ hd
 rcases hg.val with ⟨u, e, hu⟩ | ⟨e, hne, u, hbu, hu⟩
 · exact loadGlobal_global G' (mgOf ok.base.inK G e) ⟨σ, F, by show Q (E u) σ; rw [hu]; exact h⟩
 · exact loadGlobal_builtin G' (mgOf ok.base.inK G e) B' ((hb x hne).trans hbu) ⟨σ, F, by show Q (E u) σ; rw [hu]; exact h⟩
theorem X_int {i : Int} {k : Nat} {pos : Pos} {Q : V → Sig → Prop} (h : Q (.int i) σ) : EX prog w c ρ σ (.Constant (.int i) k pos) Q := fun s F => wpAny_Constant_int ⟨σ, F.toks _, h⟩
theorem X_str {x : Str} {k : Nat} {pos : Pos} {Q : V → Sig → Prop} (h : Q (.str x) σ) : EX prog w c ρ σ (.Constant (.str x) k pos) Q := fun s F => wpAny_Constant_str ⟨σ, F.toks _, h⟩
theorem X_bool {b : Bool} {k : Nat} {pos : Pos} {Q : V → Sig → Prop} (h : Q (.bool b) σ) : EX prog w c ρ σ (.Constant (.bool b) k pos) Q := fun s F => wpAny_Constant_bool ⟨σ, F, h⟩
theorem X_none {k : Nat} {pos : Pos} {Q : V → Sig → Prop} (h : Q .none σ) : EX prog w c ρ σ (.Constant .none k pos) Q := fun s F => wpAny_Constant_none ⟨σ, F, h⟩
theorem TE.use {α : Type} {t : Sem α} {Q : α → Sig → Prop} (h : TE prog w c ρ σ t Q) {s : Shared} (F : Fm prog w c ρ σ s) {P : α → Shared → Prop} {EE : Value → Shared → Prop}
 (k : ∀ v s' σ', Fm prog w c ρ σ' s' → Q v σ' → P v s') : wpAny (model prog w) c.A t P EE s :=
 wpAny_mono (h s F) (fun _ _ => ex1 fun _ => an2 fun F' q => k _ _ _ F' q) fun _ _ x => x.elim
theorem X_bin {l r : PySem.Expr} {op : Operator} {pos : Pos} {Q : V → Sig → Prop}
 (h : EX prog w c ρ σ l fun x σ₁ => EX prog w c ρ σ₁ r fun y σ₂ => BIN prog w c ρ σ₂ op x y Q) : EX prog w c ρ σ (.BinOp l op r pos) Q := fun s F =>
 wpAny_BinOp (h.use F fun _ _ _ F₁ h₁ => h₁.use F₁ fun _ _ _ F₂ h₂ => h₂ _ _ rfl rfl _ F₂)
theorem X_cmp {l r : PySem.Expr} {op : CmpOp} {pos : Pos} {Q : V → Sig → Prop}
 (h : EX prog w c ρ σ l fun x σ₁ => EX prog w c ρ σ₁ r fun y σ₂ => CMP prog w c ρ σ₂ op x y Q) (hm : behindInMarks op r = false := by with_unfolding_all rfl) : EX prog w c ρ σ (.Compare l [op] [r] pos) Q := fun s F =>
 wpAny_Compare1 (h.use F fun _ _ _ F₁ h₁ => h₁.use F₁ fun _ _ _ F₂ h₂ => h₂ _ _ rfl rfl _ F₂) hm
theorem T_cmp {l r : PySem.Expr} {op : CmpOp} {pos : Pos} {Q : Bool → Sig → Prop}
 (h : EX prog w c ρ σ l fun x σ₁ => EX prog w c ρ σ₁ r fun y σ₂ => CMP prog w c ρ σ₂ op x y fun z σ₃ => TRU prog w c ρ σ₃ z Q) (hm : behindInMarks op r = false := by with_unfolding_all rfl) : TST prog w c ρ σ (.Compare l [op] [r] pos) Q := fun s F =>
 wpAny_isTrue_Compare1 (h.use F fun _ _ _ F₁ h₁ => h₁.use F₁ fun _ _ _ F₂ h₂ => TE.use (h₂ _ _ rfl rfl) F₂ fun _ _ _ F₃ h₃ => h₃ _ rfl _ F₃) hm
theorem T_not {x : PySem.Expr} {pos : Pos} {Q : Bool → Sig → Prop} (h : TST prog w c ρ σ x fun b => Q (!b)) : TST prog w c ρ σ (.UnaryOp .Not x pos) Q := fun s F =>
 wpAny_isTrue_Not (h s F)
theorem T_val {e : PySem.Expr} {Q : Bool → Sig → Prop} (h : EX prog w c ρ σ e fun x σ₁ => TRU prog w c ρ σ₁ x Q)
 (he : isTrue e c.env (eval e c.env) = (do let v ← eval e c.env; standAt e.pos; holding [v] (truthy v)) := by rfl) : TST prog w c ρ σ e Q := fun s F =>
 wpAny_isTrue_value (h.use F fun _ _ _ F₁ h₁ => h₁ _ rfl _ F₁) he
noncomputable def ALLT (prog : Program) (w : World) (c : Cx) (ρ : Loc) (σ : Sig) (op : BoolOp) (es : List PySem.Expr) (Q : Bool → Sig → Prop) : Prop := TE prog w c ρ σ (allTrue op es c.env) Q
theorem T_bool {op : BoolOp} {es : List PySem.Expr} {pos : Pos} {Q : Bool → Sig → Prop} (h : ALLT prog w c ρ σ op es Q) : TST prog w c ρ σ (.BoolOp op es pos) Q := fun s F => wpAny_isTrue_BoolOp (h s F)
theorem A_and_nil {Q : Bool → Sig → Prop} (h : Q true σ) : ALLT prog w c ρ σ .And [] Q := fun s F => wpAny_allTrue_And_nil ⟨σ, F, h⟩
theorem A_or_nil {Q : Bool → Sig → Prop} (h : Q false σ) : ALLT prog w c ρ σ .Or [] Q := fun s F => wpAny_allTrue_Or_nil ⟨σ, F, h⟩
theorem A_and {e : PySem.Expr} {es : List PySem.Expr} {Q : Bool → Sig → Prop} (h : TST prog w c ρ σ e fun b σ₁ => if b = true then ALLT prog w c ρ σ₁ .And es Q else Q false σ₁) : ALLT prog w c ρ σ .And (e :: es) Q := fun s F =>
 wpAny_allTrue_And_cons (TE.use h F fun b s' σ' F₁ h₁ => by cases b <;> simp only [Bool.false_eq_true, if_false, if_true] at h₁ ⊢; exact ⟨_, F₁, h₁⟩; exact h₁ _ F₁)
theorem A_or {e : PySem.Expr} {es : List PySem.Expr} {Q : Bool → Sig → Prop} (h : TST prog w c ρ σ e fun b σ₁ => if b = true then Q true σ₁ else ALLT prog w c ρ σ₁ .Or es Q) : ALLT prog w c ρ σ .Or (e :: es) Q := fun s F =>
 wpAny_allTrue_Or_cons (TE.use h F fun b s' σ' F₁ h₁ => by cases b <;> simp only [Bool.false_eq_true, if_false, if_true] at h₁ ⊢; exact h₁ _ F₁; exact ⟨_, F₁, h₁⟩)
theorem X_and2 {x y : PySem.Expr} {pos : Pos} {Q : V → Sig → Prop} (h : EX prog w c ρ σ x fun u σ₁ => TRU prog w c ρ σ₁ u fun b σ₂ => if b = true then EX prog w c ρ σ₂ y Q else Q u σ₂) : EX prog w c ρ σ (.BoolOp .And [x, y] pos) Q := fun s F =>
 wpAny_And2 (h.use F fun _ _ _ F₁ h₁ => TE.use (h₁ _ rfl) F₁ fun b _ _ F₂ h₂ => by cases b <;> simp only [Bool.false_eq_true, if_false, if_true] at h₂ ⊢; exact ⟨_, F₂, h₂⟩; exact h₂ _ F₂)
theorem X_or2 {x y : PySem.Expr} {pos : Pos} {Q : V → Sig → Prop} (h : EX prog w c ρ σ x fun u σ₁ => TRU prog w c ρ σ₁ u fun b σ₂ => if b = true then Q u σ₂ else EX prog w c ρ σ₂ y Q) : EX prog w c ρ σ (.BoolOp .Or [x, y] pos) Q := fun s F =>
 wpAny_Or2 (h.use F fun _ _ _ F₁ h₁ => TE.use (h₁ _ rfl) F₁ fun b _ _ F₂ h₂ => by cases b <;> simp only [Bool.false_eq_true, if_false, if_true] at h₂ ⊢; exact h₂ _ F₂; exact ⟨_, F₂, h₂⟩)
theorem X_ife {t a b : PySem.Expr} {pos : Pos} {Q : V → Sig → Prop} (h : TST prog w c ρ σ t fun z σ₁ => if z = true then EX prog w c ρ σ₁ a Q else EX prog w c ρ σ₁ b Q) : EX prog w c ρ σ (.IfExp t a b pos) Q := fun s F =>
 wpAny_IfExp (TE.use h F fun z _ _ F₁ h₁ => by cases z <;> simp only [Bool.false_eq_true, if_false, if_true] at h₁ ⊢ <;> exact h₁ _ F₁)
theorem X_attr {e : PySem.Expr} {a : Str} {pos : Pos} {Q : V → Sig → Prop} (h : EX prog w c ρ σ e fun x σ₁ => GETA prog w c ρ σ₁ x a Q)
 (he : eval (.Attribute e a pos) c.env = (do
  let o ← eval e c.env
  PySem.standAt pos.atName
  let r ← PySem.holding [o] (getAttr o a true)
  letTemporaryGo e o r
  Pure.pure r) := by with_unfolding_all rfl) : EX prog w c ρ σ (.Attribute e a pos) Q := fun s F =>
 Attribute_any_ (h.use F fun _ _ _ F₁ h₁ => h₁ _ rfl _ F₁) he
theorem XS_nil {Q : List V → Sig → Prop} (h : Q [] σ) : EXS prog w c ρ σ [] Q := fun pos s F => spliced_nil ⟨σ, F, h⟩
theorem XS_cons {e : PySem.Expr} {es : List PySem.Expr} {Q : List V → Sig → Prop} (h : EX prog w c ρ σ e fun x σ₁ => EXS prog w c ρ σ₁ es fun xs σ₂ => Q (x :: xs) σ₂)
 (he : starEach (e :: es) c.env = (false, eval e c.env) :: starEach es c.env := by rfl) : EXS prog w c ρ σ (e :: es) Q := fun pos s F => by
 rw [he]
 exact spliced_cons (h.use F fun _ _ _ F₁ h₁ => (h₁ pos).use F₁ fun vs s' σ' F₂ h₂ => ⟨σ', F₂, h₂⟩)
theorem TS.use {t : Sem Flow} {Q : Out → Loc → Sig → Prop} (h : TS prog w c ρ σ t Q) {s : Shared} (F : Fm prog w c ρ σ s) {P : Flow → Shared → Prop} {EE : Value → Shared → Prop}
 (k : ∀ f s' ρ' σ', Fm prog w c ρ' σ' s' → Q (Out.of f) ρ' σ' → P f s') : wpAny (model prog w) c.A t P EE s :=
 wpAny_mono (h s F) (fun _ _ => ex2 fun _ _ => an2 fun F' q => k _ _ _ _ F' q) fun _ _ x => x.elim
theorem S_nil {Q : Out → Loc → Sig → Prop} (h : Q .next ρ σ) : STS prog w c ρ σ [] Q := fun s F => wpAny_execs_nil ⟨ρ, σ, F, h⟩
noncomputable def Then (Q : Out → Loc → Sig → Prop) (k : Loc → Sig → Prop) : Out → Loc → Sig → Prop
 | .next, ρ, σ => k ρ σ
 | f, ρ, σ => Q f ρ σ
theorem S_cons {st : PySem.Stmt} {r : List PySem.Stmt} {Q : Out → Loc → Sig → Prop} (h : ST prog w c ρ σ st (Then Q fun ρ₁ σ₁ => STS prog w c ρ₁ σ₁ r Q)) : STS prog w c ρ σ (st :: r) Q := fun s F =>
 wpAny_execs_cons (TS.use h F fun f s' ρ' σ' F₁ h₁ => by
  cases f with
  | next => exact h₁ _ F₁
  | brk => exact ⟨ρ', σ', F₁, h₁⟩
  | cont => exact ⟨ρ', σ', F₁, h₁⟩
  | ret v => exact ⟨ρ', σ', F₁, h₁⟩)
theorem S_ret {e : PySem.Expr} {pos : Pos} {Q : Out → Loc → Sig → Prop} (h : EX prog w c ρ σ e fun x σ₁ => Q (.ret x) ρ σ₁) : ST prog w c ρ σ (.Return (some e) pos) Q := fun s F =>
 wpAny_Return_some (h.use F fun v s' σ' F₁ h₁ => ⟨ρ, σ', F₁, h₁⟩)
theorem S_ret0 {pos : Pos} {Q : Out → Loc → Sig → Prop} (h : Q (.ret .none) ρ σ) : ST prog w c ρ σ (.Return none pos) Q := fun s F => wpAny_Return_none ⟨ρ, σ, F, h⟩
theorem S_if {t : PySem.Expr} {a b : List PySem.Stmt} {pos : Pos} {Q : Out → Loc → Sig → Prop} (h : TST prog w c ρ σ t fun z σ₁ => if z = true then STS prog w c ρ σ₁ a Q else STS prog w c ρ σ₁ b Q) : ST prog w c ρ σ (.If t a b pos) Q := fun s F =>
 wpAny_If (TE.use h F fun z _ _ F₁ h₁ => by cases z <;> simp only [Bool.false_eq_true, if_false, if_true] at h₁ ⊢ <;> exact h₁ _ F₁)
theorem S_pass {pos : Pos} {Q : Out → Loc → Sig → Prop} (h : Q .next ρ σ) : ST prog w c ρ σ (.Pass pos) Q := fun s F => wpAny_Pass ⟨ρ, σ, F, h⟩
theorem S_cont {pos : Pos} {Q : Out → Loc → Sig → Prop} (h : Q .cont ρ σ) : ST prog w c ρ σ (.Continue pos) Q := fun s F => wpAny_Continue ⟨ρ, σ, F, h⟩
theorem S_expr {e : PySem.Expr} {pos : Pos} {Q : Out → Loc → Sig → Prop} (h : EX prog w c ρ σ e fun _ σ₁ => Q .next ρ σ₁)
 (hi : interactive c.env = false := by rfl) (hs : swapsWith e none pos.line c.env = pure false := by rfl) : ST prog w c ρ σ (.Expr e pos) Q := fun s F =>
 wpAny_Expr_any (h.use F fun v s' σ' F₁ h₁ => ⟨ρ, σ', F₁, h₁⟩) hi hs
end
theorem Rep.get {prog : Program} {w : World} {o : AObj} {a : Addr} {h : Heap} (r : Rep prog w o a h) : ∃ ob, h.get? a = some ob := by
 cases o with
 | list xs => revert r; refine ex2 fun vs n => ?_; rintro ⟨e, _⟩; exact ⟨_, e⟩
 | tup xs => revert r; refine ex2 fun vs n => ?_; rintro ⟨e, _⟩; exact ⟨_, e⟩
 | inst C d => exact ⟨_, r⟩
 | flds fs => revert r; refine ex2 fun es n => ?_; rintro ⟨e, _⟩; exact ⟨_, e⟩
 | vecd k i a' => revert r; refine ex3 fun b es n => ?_; rintro ⟨e, _⟩; exact ⟨_, e⟩
 | dicS l => obtain ⟨f, ⟨o, es, ep, e, _⟩, _⟩ := r; exact ⟨_, e⟩
 | dicI l => obtain ⟨f, ⟨o, es, ep, e, _⟩, _⟩ := r; exact ⟨_, e⟩
 | rng lo hi => revert r; refine ex3 fun t u v e => ?_; exact ⟨_, e⟩
 | raw o => exact ⟨o, r⟩
 | ns m => revert r; refine ex3 fun o es ep => ?_; rintro ⟨e, _⟩; exact ⟨_, e⟩
theorem Rep.same {prog : Program} {w : World} {o : AObj} {a : Addr} {h h' : Heap} (r : Rep prog w o a h) (e : h'.get? a = h.get? a) : Rep prog w o a h' := by
 cases o with
 | list xs => revert r; refine ex2 fun vs n => ?_; rintro ⟨q, r⟩; exact ⟨vs, n, e.trans q, r⟩
 | tup xs => revert r; refine ex2 fun vs n => ?_; rintro ⟨q, r⟩; exact ⟨vs, n, e.trans q, r⟩
 | inst C d => exact e.trans r
 | flds fs => revert r; refine ex2 fun es n => ?_; rintro ⟨q, r⟩; exact ⟨es, n, e.trans q, r⟩
 | vecd k i a' => revert r; refine ex3 fun b es n => ?_; rintro ⟨q, r⟩; exact ⟨b, es, n, e.trans q, r⟩
 | dicS l => obtain ⟨f, ⟨o, es, ep, q, x⟩, r⟩ := r; exact ⟨f, ⟨o, es, ep, e.trans q, x⟩, r⟩
 | dicI l => obtain ⟨f, ⟨o, es, ep, q, x⟩, r⟩ := r; exact ⟨f, ⟨o, es, ep, e.trans q, x⟩, r⟩
 | rng lo hi => revert r; refine ex3 fun t u v q => ?_; exact ⟨t, u, v, e.trans q⟩
 | raw o => exact e.trans r
 | ns m => revert r; refine ex3 fun o es ep => ?_; rintro ⟨q, x⟩; exact ⟨o, es, ep, e.trans q, x⟩
theorem Rep.keeps {prog : Program} {w : World} {o : AObj} {a : Addr} {h h' : Heap} (r : Rep prog w o a h) (k : ∀ b ob, h.get? b = some ob → h'.get? b = some ob) : Rep prog w o a h' := by
 obtain ⟨ob, e⟩ := r.get
 exact r.same ((k a ob e).trans e.symm)
section
variable {n : Nat} {c : Cx} {ρ ρ' : Loc} {σ : Sig} {s : Shared}
theorem Fm.grow (F : Fm prog w c ρ σ s) {h' : Heap} {t : Nat} (k : ∀ b ob, s.heap.get? b = some ob → h'.get? b = some ob) : Fm prog w c ρ σ { s with heap := h', toks := t } where
 names := F.names
 ns := by obtain ⟨m, a, b⟩ := F.ns; exact ⟨m, a.keeps k, b⟩
 cl := fun p hp hk => by obtain ⟨a, v, x, y, z⟩ := F.cl p hp hk; exact ⟨a, v, x, y.keeps k, z⟩
 keep := fun b o e => k _ _ (F.keep b o e)
 own := fun a o e => (F.own a o e).keeps k
 free := F.free
 gens := F.gens
 os := F.os
noncomputable def Sig.set (σ : Sig) (a : Addr) (o : AObj) : Sig := fun b => if b = a then some o else σ b
theorem Ya {σ : Sig} {a : Addr} {o : AObj} : σ.set a o a = some o := if_pos rfl
theorem Yd {σ : Sig} {a b : Addr} {o : AObj} (h : b ≠ a) : σ.set a o b = σ b := if_neg h
theorem Fm.upd (F : Fm prog w c ρ σ s) {h' : Heap} {t : Nat} {a : Addr} {o o' : AObj} (hσ : σ a = some o) (hs : Heap.SameBut a s.heap h') (r : Rep prog w o' a h') : Fm prog w c ρ (σ.set a o') { s with heap := h', toks := t } := by
 refine (an3 fun h0 hL hC => ?_) (F.free a o hσ)
 refine ⟨F.names, ?_, ?_, ?_, ?_, ?_, F.gens, F.os⟩
 · obtain ⟨m, x, b⟩ := F.ns; exact ⟨m, x.sameBut hs (Ne.symm hL), b⟩
 · intro p hp hk; refine (ex2 fun b v => an3 fun x y z => ?_) (F.cl p hp hk); exact ⟨b, v, x, y.sameBut hs (fun e => hC p.1 (e ▸ x)), z⟩
 · exact fun b o e => (hs.2 b (fun q => by rw [q, h0] at e; cases e)).trans (F.keep b o e)
 · intro b ob e
   by_cases q : b = a
   · subst q; rw [Ya] at e; cases e; exact r
   · rw [Yd q] at e; exact (F.own b ob e).same (hs.2 b q)
 · intro b ob e
   by_cases q : b = a
   · subst q; exact ⟨h0, hL, hC⟩
   · rw [Yd q] at e; exact F.free b ob e
theorem Fm.fresh (F : Fm prog w c ρ σ s) (ok : c.Ok prog w K n) {a : Addr} (ha : s.heap.get? a = none) : σ a = none ∧ c.h₀.get? a = none ∧ (a ≠ c.env.locals) := by
 refine ⟨?_, ?_, ?_⟩
 · cases q : σ a with
   | none => rfl
   | some o => obtain ⟨ob, e⟩ := (F.own a o q).get; rw [ha] at e; cases e
 · cases q : c.h₀.get? a with
   | none => rfl
   | some o => have := F.keep a o q; rw [ha] at this; cases this
 · rintro rfl
   obtain ⟨m, ⟨o, es, ep, e, _⟩, _⟩ := F.ns
   rw [ha] at e; cases e
theorem get_size_none (h : Heap) : h.get? h.objs.size = none := by
 cases q : h.get? h.objs.size with
 | none => rfl
 | some o => exact absurd (Heap.lt_size q) (Nat.lt_irrefl _)
theorem Fm.cellNe (F : Fm prog w c ρ σ s) (ok : c.Ok prog w K n) {a : Addr} (ha : s.heap.get? a = none) : ∀ x, c.env.cells.lookup x ≠ some a := by
 intro x hx
 obtain ⟨hl, hk⟩ := ok.cin x a hx
 rw [← F.names] at hl
 obtain ⟨p, hp, rfl⟩ := List.mem_map.mp hl
 refine (ex2 fun b v => an3 fun h1 => ?_) (F.cl p hp hk); rintro ⟨o, h2, _⟩; intro _
 rw [hx] at h1; cases h1
 rw [ha] at h2; cases h2
theorem Fm.alloc (F : Fm prog w c ρ σ s) (ok : c.Ok prog w K n) {o : Obj} {o' : AObj} {t : Nat}
 (hf : o.isFreed = false) (r : Rep prog w o' s.heap.objs.size (s.heap.push o)) : Fm prog w c ρ (σ.set s.heap.objs.size o') { s with heap := s.heap.push o, toks := t } ∧ σ s.heap.objs.size = none := by
 refine (an3 fun h1 h2 h3 => ?_) (F.fresh ok (get_size_none s.heap))
 have G := F.grow (h' := s.heap.push o) (t := t) fun b ob e => Heap.get?_push_of_some _ e
 refine ⟨⟨G.names, G.ns, G.cl, G.keep, ?_, ?_, G.gens, G.os⟩, h1⟩
 · intro b ob e
   by_cases q : b = s.heap.objs.size
   · subst q; rw [Ya] at e; cases e; exact r
   · rw [Yd q] at e; exact G.own b ob e
 · intro b ob e
   by_cases q : b = s.heap.objs.size
   · subst q; exact ⟨h2, h3, F.cellNe ok (get_size_none s.heap)⟩
   · rw [Yd q] at e; exact F.free b ob e
theorem Fm.store (F : Fm prog w c ρ σ s) (ok : c.Ok prog w K n) {x : Str} {v : V} {u : Value} (hs : SetV ρ x v ρ') (hu : E u = v) {Q : Unit → Shared → Prop} {EE : Value → Shared → Prop} {A : Around}
 (k : ∀ s', Fm prog w c ρ' σ s' → Q () s') : wpAny (model prog w) A (storeName c.env x u) Q EE s := by
 have nd : (ρ.map (·.1)).Nodup := by rw [F.names]; exact ok.nodup
 have hl : x ∈ c.lns := by rw [← F.names]; exact hs.has
 have nm : ρ'.map (·.1) = c.lns := hs.names.trans F.names
 obtain ⟨m, hn, hm⟩ := F.ns
 rcases ok.loc x hl with hk | ⟨hk, a, ha⟩
 · refine wpAny_storeName_local hk hn (fun h' hn' sb => k _ ⟨nm, ⟨_, hn', fun p hp hpk => ?_⟩, fun p hp hpk => ?_, fun b o e => ?_, fun b o e => ?_, F.free, F.gens, F.os⟩) (by rw [ok.kind]; rfl)
   · show ((if p.1 = x then some u else m p.1)).map E = p.2
     rcases hs.get nd p hp with ⟨h1, h2⟩ | ⟨h1, h2⟩
     · rw [if_pos h1, h2, Option.map_some, hu]
     · rw [if_neg h1]; exact hm p h2 hpk
   · rcases hs.get nd p hp with ⟨h1, h2⟩ | ⟨h1, h2⟩
     · rw [h1, hk] at hpk; cases hpk
     · refine (ex2 fun b v => an3 fun x1 x2 x3 => ?_) (F.cl p h2 hpk)
       exact ⟨b, v, x1, x2.sameBut sb (ok.fresh.2 _ _ x1).2, x3⟩
   · exact (sb.2 b (fun q => by rw [q, ok.fresh.1] at e; cases e)).trans (F.keep b o e)
   · exact (F.own b o e).same (sb.2 b (F.free b o e).2.1)
 · have hmem : ∃ o, (x, o) ∈ ρ := by
    rw [← F.names] at hl
    obtain ⟨p, hp, rfl⟩ := List.mem_map.mp hl
    exact ⟨p.2, hp⟩
   obtain ⟨o0, hm0⟩ := hmem
   refine (ex2 fun a' v0 => an3 fun ha' hc0 _ => ?_) (F.cl _ hm0 hk)
   obtain ⟨f1, f2⟩ := ok.fresh.2 x a' ha'
   refine wpAny_storeName_cell ok.kind hk ha' hc0 fun h' hc' sb => k _ ⟨nm, ⟨m, hn.sameBut sb (Ne.symm f2), fun p hp hpk => ?_⟩, fun p hp hpk => ?_, fun b o e => ?_, fun b o e => ?_, F.free, F.gens, F.os⟩
   · rcases hs.get nd p hp with ⟨h1, h2⟩ | ⟨h1, h2⟩
     · rw [h1, hk] at hpk; cases hpk
     · exact hm p h2 hpk
   · rcases hs.get nd p hp with ⟨h1, h2⟩ | ⟨h1, h2⟩
     · exact ⟨a', some u, h1 ▸ ha', hc', by rw [h2, Option.map_some, hu]⟩
     · refine (ex2 fun b v => an3 fun x1 x2 x3 => ?_) (F.cl p h2 hpk)
       exact ⟨b, v, x1, x2.sameBut sb (fun q => h1 (ok.apart p.1 x a' (q ▸ x1) ha')), x3⟩
   · exact (sb.2 b (fun q => by rw [q, f1] at e; cases e)).trans (F.keep b o e)
   · exact (F.own b o e).same (sb.2 b (fun q => (F.free b o e).2.2 x (q ▸ ha')))
noncomputable def TGT (prog : Program) (w : World) (c : Cx) (ρ : Loc) (σ : Sig) (t : PySem.Expr) (x : V) (Q : Loc → Sig → Prop) : Prop :=
 ∀ u, E u = x → ∀ s, Fm prog w c ρ σ s → wpAny (model prog w) c.A (assign t c.env u) (fun _ s' => ∃ ρ' σ', Fm prog w c ρ' σ' s' ∧ Q ρ' σ') (fun _ _ => False) s
theorem G_name (ok : c.Ok prog w K n) {x : Str} {pos : Pos} {v : V} {Q : Loc → Sig → Prop} (hs : SetV ρ x v ρ') (h : Q ρ' σ) : TGT prog w c ρ σ (.Name x pos) v Q := fun u hu s F =>
 wpAny_assign_Name (F.store ok hs hu fun s' F' => ⟨ρ', σ, F', h⟩)
theorem S_assign (ok : c.Ok prog w K n) {x : Str} {p' pos : Pos} {e : PySem.Expr} {Q : Out → Loc → Sig → Prop}
 (h : EX prog w c ρ σ e fun v σ₁ => ∃ ρ', SetV ρ x v ρ' ∧ Q .next ρ' σ₁) (hs : swapsWith e (some (.Name x p')) pos.line c.env = pure false := by rfl) : ST prog w c ρ σ (.Assign [.Name x p'] e pos) Q := fun s F =>
 wpAny_Assign_Name (h.use F fun u s₁ σ₁ F₁ => ex1 fun ρ' => an2 fun hv hq => F₁.store ok hv rfl fun s' F' => ⟨ρ', σ₁, F', hq⟩) hs
end
noncomputable def hideP (p : Addr → Bool) (h : Heap) : Heap := ⟨h.objs.mapIdx fun i o => if p i then { o with data := .freed } else o, h.life⟩
theorem hideP_size (p : Addr → Bool) (h : Heap) : (hideP p h).objs.size = h.objs.size := by simp [hideP]
theorem hideP_get (p : Addr → Bool) (h : Heap) (a : Addr) : (hideP p h).get? a = if p a then none else h.get? a := by
 cases q : p a with
 | true =>
  rw [if_pos rfl]
  cases e : (hideP p h).get? a with
  | none => rfl
  | some o =>
   obtain ⟨e1, e2⟩ := Heap.get?_some_iff.mp e
   simp only [hideP, Array.getElem?_mapIdx, Option.map_eq_some_iff] at e1
   obtain ⟨o', _, rfl⟩ := e1
   rw [q] at e2
   simp [Obj.isFreed] at e2
 | false =>
  rw [if_neg Bool.false_ne_true]
  have iff : ∀ o, (hideP p h).get? a = some o ↔ h.get? a = some o := by
   intro o
   rw [Heap.get?_some_iff, Heap.get?_some_iff]
   simp only [hideP, Array.getElem?_mapIdx, Option.map_eq_some_iff, q, Bool.false_eq_true, if_false]
   constructor
   · rintro ⟨⟨o', h1, rfl⟩, h2⟩; exact ⟨h1, h2⟩
   · rintro ⟨h1, h2⟩; exact ⟨⟨o, h1, rfl⟩, h2⟩
  cases e : h.get? a with
  | some o => exact (iff o).mpr e
  | none =>
   cases e' : (hideP p h).get? a with
   | none => rfl
   | some o => rw [(iff o).mp e'] at e; cases e
theorem Base.keeps {prog : Program} {w : World} {K : Frag} {h h' : Heap} (B : Base prog w K h) (k : ∀ b o, h.get? b = some o → h'.get? b = some o) : Base prog w K h' :=
 ⟨B.inK.keeps k, (by obtain ⟨m, x⟩ := B.g; exact ⟨m, x.keeps k⟩), (by obtain ⟨m, x, y⟩ := B.b; exact ⟨m, x.keeps k, y⟩), B.nolimit.keeps k, (by obtain ⟨m, x, y⟩ := B.nodigits; exact ⟨m, x.keeps k, y⟩), (by obtain ⟨o, e⟩ := B.sm; exact ⟨o, k _ _ e⟩)⟩
theorem bindL_not {ko : Str → Option NameKind} {x : Str} : ∀ (bs : List (Str × Value)) (m : Str → Option Value), x ∉ bs.map (·.1) → bindL ko bs m x = m x
 | [], m, _ => rfl
 | (y, v) :: r, m, h => by
  rw [List.map_cons, List.mem_cons, not_or] at h
  unfold bindL
  rw [bindL_not r _ h.2]
  split
  · exact if_neg h.1
  · rfl
theorem bindL_get {ko : Str → Option NameKind} {x : Str} {v : Value} (hk : ko x = some .local) : ∀ (bs : List (Str × Value)) (m : Str → Option Value), (bs.map (·.1)).Nodup → (x, v) ∈ bs → bindL ko bs m x = some v
 | (y, u) :: r, m, nd, h => by
  rw [List.map_cons, List.nodup_cons] at nd
  unfold bindL
  rcases List.mem_cons.mp h with e | h
  · cases e
    rw [bindL_not r _ nd.1, if_pos hk]
    exact if_pos rfl
  · exact bindL_get hk r _ nd.2 h
theorem bindC_not {ko : Str → Option NameKind} {x : Str} : ∀ (bs : List (Str × Value)) (m : Str → Option Value), x ∉ bs.map (·.1) → bindC ko bs m x = m x
 | [], m, _ => rfl
 | (y, v) :: r, m, h => by
  rw [List.map_cons, List.mem_cons, not_or] at h
  unfold bindC
  rw [bindC_not r _ h.2]
  split
  · rfl
  · exact if_neg h.1
theorem bindC_get {ko : Str → Option NameKind} {x : Str} {v : Value} (hk : ko x = some .cell) : ∀ (bs : List (Str × Value)) (m : Str → Option Value), (bs.map (·.1)).Nodup → (x, v) ∈ bs → bindC ko bs m x = some v
 | (y, u) :: r, m, nd, h => by
  rw [List.map_cons, List.nodup_cons] at nd
  unfold bindC
  rcases List.mem_cons.mp h with e | h
  · cases e
    rw [bindC_not r _ nd.1, if_neg (by rw [hk]; decide)]
    exact if_pos rfl
  · exact bindC_get hk r _ nd.2 h
theorem cellsFrom_of : ∀ (names : List (Str × NameKind)) (n : Nat) (acc : List (Str × Addr)) (x : Str) (a : Addr), (x, a) ∈ cellsFrom n names acc → (x, NameKind.cell) ∈ names ∨ (x, a) ∈ acc
 | [], n, acc, x, a, h => .inr h
 | (y, k) :: r, n, acc, x, a, h => by
  unfold cellsFrom at h
  split at h
  · rename_i hk
    rcases cellsFrom_of r _ _ x a h with h | h
    · exact .inl (List.mem_cons_of_mem _ h)
    · rcases List.mem_cons.mp h with e | h
      · cases e; exact .inl (by rw [beq_iff_eq.mp hk]; exact List.mem_cons_self)
      · exact .inr h
  · rcases cellsFrom_of r _ _ x a h with h | h
    · exact .inl (List.mem_cons_of_mem _ h)
    · exact .inr h
noncomputable def scopeOk (sc : Scope) (lns gls : List Str) : Bool :=
 sc.kind == .function && !sc.isGenerator && !sc.isCoroutine && decide lns.Nodup &&
 (lns.all fun x => (sc.names.lookup x == some .local || sc.names.lookup x == some .cell) && x != ("__debug__" : Str)) &&
 (sc.names.all fun p => p.2 != .cell || (lns.contains p.1 && sc.names.lookup p.1 == some .cell)) &&
 (gls.all fun x => sc.names.lookup x == some .globalImplicit && x != ("__debug__" : Str))
section
variable {n : Nat} {c : Cx} {ρ ρ' : Loc} {σ : Sig} {s : Shared}
noncomputable def Cx.into (c : Cx) (σ : Sig) (s : Shared) (env : Env) (lns : List Str) (gl : List (Str × V)) : Cx :=
 { A := c.A.deeper env, env := env, h₀ := hideP (fun a => (σ a).isSome) s.heap, os := c.os, lns := lns, gl := gl }
theorem Fm.shown (F : Fm prog w c ρ σ s) {b : Addr} {o : Obj} (h : σ b = none) (e : s.heap.get? b = some o) : (hideP (fun a => (σ a).isSome) s.heap).get? b = some o := by
 rw [hideP_get, h]; exact e
theorem hidden {σ : Sig} {h : Heap} {b : Addr} {o : Obj} (e : (hideP (fun a => (σ a).isSome) h).get? b = some o) : σ b = none ∧ h.get? b = some o := by
 rw [hideP_get] at e
 cases q : σ b with
 | none => rw [q] at e; exact ⟨rfl, e⟩
 | some x => rw [q] at e; cases e
theorem Fm.old (F : Fm prog w c ρ σ s) {b : Addr} {o : Obj} (e : c.h₀.get? b = some o) : (hideP (fun a => (σ a).isSome) s.heap).get? b = some o := by
 refine F.shown ?_ (F.keep b o e)
 cases q : σ b with
 | none => rfl
 | some x => rw [(F.free b x q).1] at e; cases e
theorem Fm.loc_shown (F : Fm prog w c ρ σ s) : ∃ m, (hideP (fun a => (σ a).isSome) s.heap).Ns c.env.locals m ∧ ∀ p ∈ ρ, c.env.kindOf p.1 = some .local → (m p.1).map E = p.2 := by
 obtain ⟨m, ⟨o, es, ep, e, r⟩, hm⟩ := F.ns
 refine ⟨m, ⟨o, es, ep, F.shown ?_ e, r⟩, hm⟩
 cases q : σ c.env.locals with
 | none => rfl
 | some x => exact absurd rfl (F.free _ x q).2.1
theorem Fm.cell_shown (F : Fm prog w c ρ σ s) {x : Str} {a : Addr} {v : Option Value} (hx : c.env.cells.lookup x = some a) (hc : s.heap.IsCell a v) : (hideP (fun a => (σ a).isSome) s.heap).IsCell a v := by
 obtain ⟨o, e, d⟩ := hc
 refine ⟨o, F.shown ?_ e, d⟩
 cases q : σ a with
 | none => rfl
 | some y => exact absurd hx ((F.free _ y q).2.2 x)
theorem Fm.back (F : Fm prog w c ρ σ s) (ok : c.Ok prog w K n) {s' : Shared} {σ' : Sig} (keep : ∀ b o, (hideP (fun a => (σ a).isSome) s.heap).get? b = some o → s'.heap.get? b = some o)
 (own : ∀ a o, σ' a = some o → Rep prog w o a s'.heap) (free : ∀ a o, σ' a = some o → (hideP (fun a => (σ a).isSome) s.heap).get? a = none) (hg : s'.gens = #[]) (hos : s'.os = c.os) : Fm prog w c ρ σ' s' where
 names := F.names
 ns := by obtain ⟨m, a, b⟩ := F.loc_shown; exact ⟨m, a.keeps keep, b⟩
 cl := fun p hp hk => by obtain ⟨a, v, x, y, z⟩ := F.cl p hp hk; exact ⟨a, v, x, (F.cell_shown x y).keeps keep, z⟩
 keep := fun b o e => keep b o (F.old e)
 own := own
 free := fun a o e => by
  have hn := free a o e
  refine ⟨?_, ?_, ?_⟩
  · cases q : c.h₀.get? a with
    | none => rfl
    | some ob => rw [F.old q] at hn; cases hn
  · rintro rfl
    obtain ⟨m, ⟨ob, es, ep, e', _⟩, _⟩ := F.loc_shown
    rw [e'] at hn; cases hn
  · intro x hx
    obtain ⟨hl, hk⟩ := ok.cin x a hx
    rw [← F.names] at hl
    obtain ⟨p, hp, rfl⟩ := List.mem_map.mp hl
    refine (ex2 fun b v => an3 fun h1 h2 _ => ?_) (F.cl p hp hk)
    rw [hx] at h1; cases h1
    obtain ⟨ob, e', _⟩ := F.cell_shown hx h2
    rw [e'] at hn; cases hn
 gens := hg
 os := hos
noncomputable def retOf : Out → V
 | .ret v => v
 | _ => .none
noncomputable abbrev QE (P : V → Sig → Prop) : Out → Loc → Sig → Prop := fun o _ σ => P (retOf o) σ
noncomputable def bindsRho (bs : List (Str × V)) (rest : List Str) : Loc := bs.map (fun p => (p.1, some p.2)) ++ rest.map (fun x => (x, none))
noncomputable def CODE (prog : Program) (w : World) (c : Cx) (ρ : Loc) (σ : Sig) (f : V) (xs : List V) (kw : List (Str × V)) (Q : V → Sig → Prop) : Prop :=
 ∀ g vs kv, E g = f → vs.map E = xs → kv.map (fun p => (p.1, E p.2)) = kw → ∀ s, Fm prog w c ρ σ s →
  codeAny (model prog w) c.A (.call g ⟨vs, kv⟩) (fun r s' => match r with | .ok (.ret v) => ∃ σ', Fm prog w c ρ σ' s' ∧ Q (E v) σ' | .ok _ => False | .error _ => False) s
theorem Yb {f : V} {xs : List V} {kw : List (Str × V)} {Q : V → Sig → Prop} (h : CODE prog w c ρ σ f xs kw Q) : CALL prog w c ρ σ f xs kw Q :=
 fun g vs kv h1 h2 h3 s F => wpAny_call (h g vs kv h1 h2 h3 s F)
theorem FNC {name qual : Str} {params : Arguments} {body : List PySem.Stmt} {scope : Scope} {dV kV doc pm cdv ct oc : Value} {an od : Option Addr} {osl : Array (Option Value)} {f : Addr} {xs : List V} {kw : List (Str × V)}
 {bs : List (Str × V)} {rest : List Str} {gl : List (Str × V)} {Q : V → Sig → Prop} (ok : c.Ok prog w K (n + 1))
 (ho : K.lookup f = some ⟨oc, od, .func (fnOf name qual params body scope dV kV doc pm an cdv ct), osl⟩) (hcd : codeIn K cdv qual = true)
 (hb : ∀ (s : Shared) vs kv, K.In s.heap → vs.map E = xs → kv.map (fun p => (p.1, E p.2)) = kw → ∃ binds, BindsTo s (fnOf name qual params body scope dV kV doc pm an cdv ct) ⟨vs, kv⟩ binds ∧ binds.map (fun p => (p.1, E p.2)) = bs)
 (hsc : scopeOk scope (bs.map (·.1) ++ rest) (gl.map (·.1)) = true) (hgl : ∀ p ∈ gl, GV K p.1 p.2)
 (h : ∀ c' : Cx, c'.Ok prog w K n → c'.env.scope = scope → c'.lns = bs.map (·.1) ++ rest → c'.gl = gl → STS prog w c' (bindsRho bs rest) σ body fun o _ σ' => Q (retOf o) σ') :
 CODE prog w c ρ σ (.ref f) xs kw Q := by
 intro g vs kv hgv hvs hkv s F
 obtain rfl := E_ref hgv
 simp only [scopeOk, Bool.and_eq_true, Bool.not_eq_true', beq_iff_eq, decide_eq_true_eq, List.all_eq_true, Bool.or_eq_true, bne_iff_ne, ne_eq] at hsc
 obtain ⟨⟨⟨⟨⟨⟨sk, sg⟩, sco⟩, snd⟩, sl⟩, sce⟩, sgl⟩ := hsc
 have X : K.In s.heap := ok.base.inK.keeps F.keep
 obtain ⟨binds, hbt, hbm⟩ := hb s vs kv X hvs hkv
 have hnames : binds.map (·.1) = bs.map (·.1) := by rw [← hbm, List.map_map]; rfl
 have ndb : (binds.map (·.1)).Nodup := by rw [hnames]; exact (List.nodup_append.mp snd).1
 refine codeAny_call_function (fd := fnOf name qual params body scope dV kV doc pm an cdv ct) (body := body) (by have := ok.dep; show c.A.depth < 1000; omega) (X _ _ ho) rfl sco sg rfl (codeRec_of X hcd) (hbt _ _ _ _ ?_)
 have kinds : ∀ x ∈ binds, scope.names.lookup x.1 = some .local ∨ (scope.names.lookup x.1 = some .cell ∧ ((cellsFrom (s.heap.objs.size + 1) scope.names []).lookup x.1).isSome = true) := by
  intro x hx
  have hm : x.1 ∈ bs.map (·.1) ++ rest := List.mem_append_left _ (hnames ▸ List.mem_map_of_mem hx)
  rcases (sl _ hm).1 with q | q
  · exact .inl q
  · exact .inr ⟨q, cellsFrom_some _ _ _ (.inl q)⟩
 refine wpAny_newFunctionEnv_cells sk kinds fun env he s' x => ?_
 subst he
 refine ⟨(ok.base.nolimit.keeps F.keep).keeps x.toInCall.keep, codeAny_func ?_⟩
 refine (ex2 fun h₁ tk => ?_) x.toInCall.same; rintro rfl
 let c' : Cx := c.into σ s (newEnv scope s.heap.objs.size mainGlobals (cellsFrom (s.heap.objs.size + 1) scope.names []) (qual ++ ".<locals>.") (some f) cdv none builtinsNs) (bs.map (·.1) ++ rest) gl
 have hL : c'.env.locals = s.heap.objs.size := rfl
 have hcs : ∀ y a, c'.env.cells.lookup y = some a → s.heap.objs.size < a := fun y a hy => x.above y a (PySem.mem_of_lookup hy)
 have hns : ∀ a, s.heap.objs.size ≤ a → c'.h₀.get? a = none := by
  intro a ha
  cases q : c'.h₀.get? a with
  | none => rfl
  | some o =>
   have e : c'.h₀.objs.size = s.heap.objs.size := hideP_size _ _
   exact absurd (Nat.lt_of_lt_of_le (e ▸ Heap.lt_size q) ha) (Nat.lt_irrefl _)
 have ok' : c'.Ok prog w K n := by
  refine ⟨(ok.base.keeps fun b o e => F.old e), sk, ⟨rfl, rfl⟩, snd, ?_, fun y hy => ?_, fun p hp => ⟨?_, ?_, hgl p hp⟩, ⟨hns _ (Nat.le_of_eq hL.symm), fun y a hy => ⟨hns a (Nat.le_of_lt (hcs y a hy)), by rw [hL]; exact Nat.ne_of_gt (hcs y a hy)⟩⟩, ?_, ?_, ok.hd, ?_, ?_⟩
  · intro y hy
    rcases (sl y hy).1 with q | q
    · exact .inl q
    · obtain ⟨a, ha⟩ := Option.isSome_iff_exists.mp (cellsFrom_some scope.names (s.heap.objs.size + 1) [] (.inl q))
      exact .inr ⟨q, a, ha⟩
  · exact beq_eq_false_iff_ne.mpr (sl y hy).2
  · exact (sgl _ (List.mem_map_of_mem hp)).1
  · exact beq_eq_false_iff_ne.mpr (sgl _ (List.mem_map_of_mem hp)).2
  · intro y a hy
    rcases cellsFrom_of scope.names _ _ _ _ (PySem.mem_of_lookup hy) with q | q
    · rcases sce _ q with z | z
      · exact absurd rfl z
      · exact ⟨List.contains_iff_mem.mp z.1, z.2⟩
    · cases q
  · intro y z a hy hz
    exact name_of_addr x.apart (PySem.mem_of_lookup hy) (PySem.mem_of_lookup hz)
  · have := ok.dep; show c.A.depth + 1 + n < 900; omega
  · have := ok.uni; show c.A.units + 3 + 8 * n < 8000; omega
 have F' : Fm prog w c' (bindsRho bs rest) σ { s with heap := h₁, toks := tk } := by
  refine ⟨by simp [bindsRho, List.map_map, Function.comp_def]; rfl, ⟨_, x.toInCall.ns, fun p hp hk => ?_⟩, fun p hp hk => ?_, fun b o e => x.toInCall.keep b o (hidden e).2, fun a o e => (F.own a o e).keeps x.toInCall.keep, fun a o e => ?_, F.gens, F.os⟩
  · rcases List.mem_append.mp hp with hp | hp
    · obtain ⟨q, hq, rfl⟩ := List.mem_map.mp hp
      rw [← hbm] at hq
      obtain ⟨b, hb', rfl⟩ := List.mem_map.mp hq
      exact congrArg (Option.map E) (bindL_get hk binds _ ndb hb')
    · obtain ⟨y, hy, rfl⟩ := List.mem_map.mp hp
      exact congrArg (Option.map E) (bindL_not binds _ (by rw [hnames]; exact fun q => (List.nodup_append.mp snd).2.2 y q y hy rfl))
  · have kc : ∃ a, c'.env.cells.lookup p.1 = some a := Option.isSome_iff_exists.mp (cellsFrom_some scope.names (s.heap.objs.size + 1) [] (.inl hk))
    obtain ⟨a, ha⟩ := kc
    refine ⟨a, _, ha, x.cell _ _ ha, ?_⟩
    rcases List.mem_append.mp hp with hp | hp
    · obtain ⟨q, hq, rfl⟩ := List.mem_map.mp hp
      rw [← hbm] at hq
      obtain ⟨b, hb', rfl⟩ := List.mem_map.mp hq
      exact congrArg (Option.map E) (bindC_get hk binds _ ndb hb')
    · obtain ⟨y, hy, rfl⟩ := List.mem_map.mp hp
      exact congrArg (Option.map E) (bindC_not binds _ (by rw [hnames]; exact fun q => (List.nodup_append.mp snd).2.2 y q y hy rfl))
  · have hl : a < s.heap.objs.size := by obtain ⟨ob, e'⟩ := (F.own a o e).get; exact Heap.lt_size e'
    refine ⟨?_, by rw [hL]; exact Nat.ne_of_lt hl, fun y hy => absurd (hcs y a hy) (Nat.not_lt.mpr (Nat.le_of_lt hl))⟩
    show (hideP _ _).get? a = none
    rw [hideP_get, e]; rfl
 refine wpAny_mono (h c' ok' rfl rfl rfl _ F') (fun fl s₂ h₂ => ?_) fun _ _ z => z.elim
 revert h₂; refine ex2 fun ρ₂ σ₂ => ?_; rintro ⟨F₂, hq⟩
 refine ⟨σ₂, F.back ok F₂.keep F₂.own (fun a o e => (F₂.free a o e).1) F₂.gens F₂.os, ?_⟩
 cases fl <;> exact hq
end
inductive GetF : List (Str × V) → Str → V → Prop
 | head {x v r} : GetF ((x, v) :: r) x v
 | tail {p r x v} : (p.1 == x) = false → GetF r x v → GetF (p :: r) x v
inductive NoF : List (Str × V) → Str → Prop
 | nil {x} : NoF [] x
 | cons {p r x} : (p.1 == x) = false → NoF r x → NoF (p :: r) x
inductive SetF : List (Str × V) → Str → V → List (Str × V) → Prop
 | nil {x v} : SetF [] x v [(x, v)]
 | head {x o v r} : SetF ((x, o) :: r) x v ((x, v) :: r)
 | tail {p r x v r'} : (p.1 == x) = false → SetF r x v r' → SetF (p :: r) x v (p :: r')
noncomputable def noF (fs : List (Str × V)) (x : Str) : Bool := fs.all fun p => (p.1 == x) == false
theorem SetF.app {fs fs' : List (Str × V)} {x : Str} {v : V} (h : noF fs x = true) (e : fs ++ [(x, v)] = fs') : SetF fs x v fs' := by
 subst e
 induction fs with
 | nil => exact .nil
 | cons p r ih =>
  simp only [noF, List.all_cons, Bool.and_eq_true, beq_iff_eq] at h
  exact .tail h.1 (ih h.2)
theorem FE.noRef {es : List DictEntry} {fs : List (Str × V)} (h : FE es fs) : es.any (·.refKey) = false := by
 induction h with
 | nil => rfl
 | cons _ _ ih => rw [List.any_cons, ih]; rfl
theorem FE.find {es : List DictEntry} {fs : List (Str × V)} {x : Str} {v : V} (h : FE es fs) (g : GetF fs x v) : ∃ e, es.find? (·.key.isStr x) = some e ∧ E e.val = v := by
 induction h generalizing x v with
 | nil => cases g
 | cons hv _ ih =>
  cases g with
  | head => exact ⟨_, List.find?_cons_of_pos (by simp [Value.isStr]), hv⟩
  | tail hn g' =>
   obtain ⟨e, h1, h2⟩ := ih g'
   refine ⟨e, ?_, h2⟩
   rw [List.find?_cons_of_neg]
   · exact h1
   · show ¬ (_ == x) = true
     rw [Bool.not_eq_true]; exact hn
theorem FE.find_none {es : List DictEntry} {fs : List (Str × V)} {x : Str} (h : FE es fs) (g : NoF fs x) : es.find? (·.key.isStr x) = none := by
 induction h generalizing x with
 | nil => rfl
 | cons hv _ ih =>
  cases g with
  | cons hn g' =>
   rw [List.find?_cons_of_neg]
   · exact ih g'
   · show ¬ (_ == x) = true
     rw [Bool.not_eq_true]; exact hn
theorem FE.getL {es : List DictEntry} {fs : List (Str × V)} {x : Str} {v : V} (h : FE es fs) (g : GetF fs x v) : ∃ u, PySem.W.getL x es = some (some u) ∧ E u = v := by
 obtain ⟨e, h1, h2⟩ := h.find g
 exact ⟨e.val, by unfold PySem.W.getL; rw [h1], h2⟩
theorem FE.getL_none {es : List DictEntry} {fs : List (Str × V)} {x : Str} (h : FE es fs) (g : NoF fs x) : PySem.W.getL x es = some none := by
 unfold PySem.W.getL; rw [h.find_none g, h.noRef]; rfl
theorem FE.put {es : List DictEntry} {fs fs' : List (Str × V)} {x : Str} {v : V} {hsh : Int} {t : Tok} {u : Value} (h : FE es fs) (hu : E u = v) (g : SetF fs x v fs') : FE (putL x hsh (.str x t) u es) fs' := by
 induction h generalizing fs' x v with
 | nil => cases g; exact .cons hu .nil
 | @cons _ y _ _ _ _ _ hv hr ih =>
  cases g with
  | head =>
   unfold putL
   rw [if_pos (by simp [Value.isStr])]
   exact .cons hu hr
  | tail hn g' =>
   unfold putL
   rw [if_neg (by show ¬ (y == x) = true; rw [Bool.not_eq_true]; exact hn)]
   exact .cons hv (ih hu g')
theorem putL_len {x : Str} {hsh : Int} {k u : Value} : ∀ es : List DictEntry, (putL x hsh k u es).length ≤ es.length + 1
 | [] => Nat.le_refl _
 | e :: r => by
  unfold putL
  split
  · simp
  · have := putL_len (x := x) (hsh := hsh) (k := k) (u := u) r; simp only [List.length_cons]; omega
theorem FE.len {es : List DictEntry} {fs : List (Str × V)} (h : FE es fs) : es.length = fs.length := by
 induction h with
 | nil => rfl
 | cons _ _ ih => simp [ih]
noncomputable def notBi : V → Bool
 | .bi _ => false
 | .odd => false
 | _ => true
theorem handed_of {u : Value} {v : V} (h : E u = v) (n : notBi v = true) : handedIn u = true := by
 subst h; cases u <;> first | rfl | cases n
section
variable {n : Nat} {c : Cx} {ρ ρ' : Loc} {σ : Sig} {s : Shared}
theorem Fm.inst (F : Fm prog w c ρ σ s) {x C d : Addr} {fs : List (Str × V)} (hx : σ x = some (.inst C d)) (hd : σ d = some (.flds fs)) :
 ∃ es k, FE es fs ∧ s.heap.get? d = some (dictOf es k) ∧ PySem.W.InstAt s.heap x (instObj C d) C (some (dictOf es k)) := by
 have r1 : s.heap.get? x = some (instObj C d) := F.own x _ hx
 refine (ex2 fun es k => ?_) (F.own d _ hd); rintro ⟨r2, fe⟩
 exact ⟨es, k, fe, r2, ⟨r1, rfl, rfl, r2⟩⟩
theorem A_get (ok : c.Ok prog w K n) {x C d : Addr} {fs : List (Str × V)} {nm : Str} {v : V} {Q : V → Sig → Prop} (hx : σ x = some (.inst C d)) (hd : σ d = some (.flds fs)) (ha : AttrOk K C nm) (hg : GetF fs nm v) (hn : notBi v = true)
 (h : Q v σ) : GETA prog w c ρ σ (.ref x) nm Q := by
 intro a hav s F
 obtain rfl := E_ref hav
 refine (ex2 fun es k => an3 fun fe _ I => ?_) (F.inst hx hd)
 obtain ⟨u, hu, hv⟩ := fe.getL hg
 obtain ⟨at', h1, h2⟩ := ha.attr
 refine get_value (ok.base.inK.keeps F.keep) I (plainGet_of ha.plain).1 (findObj_own ha.dict h1 h2 hu) (handed_of hv hn) ⟨σ, F.toks _, ?_⟩
 show Q (E u) σ; rw [hv]; exact h
noncomputable def SETA (prog : Program) (w : World) (c : Cx) (ρ : Loc) (σ : Sig) (x : V) (nm : Str) (v : V) (Q : Sig → Prop) : Prop :=
 ∀ a u, E a = x → E u = v → TE prog w c ρ σ (setAttr a nm u) fun _ σ' => Q σ'
theorem A_set (ok : c.Ok prog w K n) {x C d : Addr} {fs fs' : List (Str × V)} {nm : Str} {v : V} {Q : Sig → Prop} (hx : σ x = some (.inst C d)) (hd : σ d = some (.flds fs)) (ha : StoreOk K C nm) (hg : SetF fs nm v fs') (hl : fs.length < 900)
 (h : Q (σ.set d (.flds fs'))) : SETA prog w c ρ σ (.ref x) nm v Q := by
 intro a u hav huv s F
 obtain rfl := E_ref hav
 refine (ex2 fun es k => an3 fun fe D I => ?_) (F.inst hx hd)
 have X := ok.base.inK.keeps F.keep
 refine set_plain X I ha.sa ?_
 refine osa_open (s := { s with toks := s.toks + 1 }) X I ha.over ha.taker fun b => ?_
 obtain ⟨cd, hc, hd'⟩ := any_some ha.dict
 refine wpAny_bind (wpAny_pure (wpAny_bind (wpAny_bind (wpAny_loadPart I.at_ (wpAny_bind (Looks.here (s := { s with toks := s.toks + 1 }) (looks_clsIn X hc) ?_))))))
 rw [hd']
 refine wpAny_pure (a := some d) (wpAny_bind (wpAny_pure (wpAny_bind ?_)))
 unfold nsSet
 refine wpAny_bind (wpAny_bind (wpAny_askSetting (wpAny_pure (wpAny_bind (wpAny_mkText (wpAny_bind (wpAny_loadPart D ?_)))))))
 show wpAny _ _ (if aRefKeyMayBeTheName nm es.toArray then _ else _) _ _ _
 have c0 : aRefKeyMayBeTheName nm es.toArray = false := by
  rw [aRefKeyMayBeTheName_at, List.any_toArray, List.any_toArray, fe.noRef, Bool.and_false]
 rw [c0, if_neg Bool.false_ne_true]
 have hput := putName_dict nm (PyData.keyHash w.params nm) (.str nm (s.toks + 1)) u es k
 have U := Heap.get?_update_self (h := s.heap) (Obj.putName nm (PyData.keyHash w.params nm) (.str nm (s.toks + 1)) u) D (by rw [hput]; rfl)
 rw [hput] at U
 refine wpAny_updatePart D ?_
 refine wpAny_bind (wpAny_lookBehind U (by
  show Data.pastItsLine (.dict _ _) = none
  exact pastItsLine_dict (by rw [List.size_toArray, sizeLine_eq]; have := putL_len (x := nm) (hsh := PyData.keyHash w.params nm) (k := .str nm (s.toks + 1)) (u := u) es; have := fe.len; omega)) ?_)
 exact wpAny_pure ⟨_, F.upd (o' := .flds fs') hd (Heap.SameBut.update ..) ⟨_, _, U, fe.put huv hg⟩, h⟩
end
theorem KP.keeps {K : Frag} {f : V} {M : Model} (k : KP K f) {g : Value} (hg : E g = f) (h : Heap) (X : K.In h) : ∃ k, (k = Keeper.frame ∨ k = Keeper.machine ∨ k = Keeper.boundFrame) ∧ Looks M h (keeperOf g) k := by
 rcases k with ⟨a, rfl, hk⟩ | ⟨i, rfl⟩ | ⟨i, rfl⟩
 · obtain rfl := E_ref hg; exact keeps_K hk h X
 · obtain rfl := E_bi hg; exact ⟨.machine, .inr (.inl rfl), Looks.of_pure rfl⟩
 · obtain rfl := E_ty hg; exact ⟨.machine, .inr (.inl rfl), Looks.of_pure rfl⟩
section
variable {n : Nat} {c : Cx} {ρ ρ' : Loc} {σ : Sig} {s : Shared}
theorem evalArgs_of {A : Around} {EE : Value → Shared → Prop} {f : Value} {Q : Args → Shared → Prop} : ∀ {trees : List (Bool × Sem Value)}, trees.any (·.1) = false → wpAny (model prog w) A (spliced trees) (fun vs s' => Q ⟨vs, []⟩ s') EE s → wpAny (model prog w) A (evalArgs f true trees []) Q EE s
 | [], _, h => by
  unfold evalArgs
  show wpAny _ A (spliced [] >>= _) Q EE s
  refine wpAny_bind (wpAny_mono h (fun vs s' h' => ?_) fun _ _ x => x)
  refine wpAny_bind (wpAny_pure ?_)
  refine wpAny_holding ?_
  exact wpAny_bind (wpAny_pure (wpAny_bind (wpAny_pure (wpAny_pure h'))))
 | (false, x) :: r, _, h => evalArgs_plain h
 | (true, x) :: r, hp, _ => by cases hp
theorem callWith_rule (ok : c.Ok prog w K n) {pos : Pos} {f : V} {g : Value} {first : List Value} {es : List PySem.Expr} {kws : List (Option Str × Sem Value)} {Q : V → Sig → Prop} (hg : E g = f) (hk : KP K f)
 (F : Fm prog w c ρ σ s) (h : EXS prog w c ρ σ es fun xs σ₁ => CALL prog w c ρ σ₁ f (first.map E ++ xs) [] Q) (hp : (backTo pos (starEach es c.env)).any (·.1) = false) :
 wpAny (model prog w) c.A (callWith pos g first (backTo pos (starEach es c.env)) []) (fun v s' => ∃ σ', Fm prog w c ρ σ' s' ∧ Q (E v) σ') (fun _ _ => False) s := by
 refine callWith_of (P := K.In) (by rw [hp]; rfl) (fun hh X => hk.keeps hg hh X) ?_
 refine evalArgs_of hp ((h pos).use F fun vs s₁ σ₁ F₁ hc => ⟨ok.base.inK.keeps F₁.keep, ?_⟩)
 exact hc g (first ++ vs) [] hg (by rw [List.map_append]) rfl s₁ F₁
theorem X_call (ok : c.Ok prog w K n) {x : Str} {np pos : Pos} {es : List PySem.Expr} {Q : V → Sig → Prop}
 (h : EX prog w c ρ σ (.Name x np) fun f σ₁ => KP K f ∧ EXS prog w c ρ σ₁ es fun xs σ₂ => CALL prog w c ρ σ₂ f xs [] Q)
 (hp : (backTo pos (starEach es c.env)).any (·.1) = false := by rfl) : EX prog w c ρ σ (.Call (.Name x np) es [] pos) Q := fun s F =>
 wpAny_Call_ofName (h.use F fun g s₁ σ₁ F₁ => an2 fun hk h₁ => callWith_rule ok (first := []) (kws := []) rfl hk F₁ h₁ hp)
theorem X_callG (ok : c.Ok prog w K n) {x : Str} {np pos : Pos} {es : List PySem.Expr} {f : V} {gl : List (Str × V)} {Q : V → Sig → Prop} (hgl : c.gl = gl) (hv : HasG gl x f)
 (h : EXS prog w c ρ σ es fun xs σ₂ => CALL prog w c ρ σ₂ f xs [] Q)
 (hp : (backTo pos (starEach es c.env)).any (·.1) = false := by rfl) : EX prog w c ρ σ (.Call (.Name x np) es [] pos) Q :=
 X_call ok (X_glob ok hgl hv ⟨(ok.gls _ (by rw [hgl]; exact hv.mem)).2.2.kp, h⟩) hp
noncomputable def METH (prog : Program) (w : World) (K : Frag) (c : Cx) (ρ : Loc) (σ : Sig) (x : V) (nm : Str) (f : V) (first : List V) : Prop :=
 KP K f ∧ ∀ a, E a = x → ∀ (P : Value × List Value → Shared → Prop) EE s pl, Fm prog w c ρ σ s → (∀ g fs t, E g = f → fs.map E = first → P (g, fs) { s with toks := t }) → wpAny (model prog w) c.A (getMethod a nm pl) P EE s
theorem X_meth (ok : c.Ok prog w K n) {o : PySem.Expr} {nm : Str} {apos pos : Pos} {es : List PySem.Expr} {Q : V → Sig → Prop}
 (h : EX prog w c ρ σ o fun x σ₁ => ∃ f first, METH prog w K c ρ σ₁ x nm f [first] ∧ EXS prog w c ρ σ₁ es fun xs σ₂ => CALL prog w c ρ σ₂ f (first :: xs) [] Q)
 (hbase : attributeBase o nm c.env (eval o c.env) = eval o c.env := by rfl)
 (hp : (backTo pos (starEach es c.env)).any (·.1) = false := by rfl)
 (hfew : methodCallForm (es.length + ([] : List Keyword).length) (backTo pos (starEach es c.env)) (backToKw pos (keywordEach [] c.env)) = true := by rfl)
 (hline : (apos.endLine == pos.line) = true := by rfl) : EX prog w c ρ σ (.Call (.Attribute o nm apos) es [] pos) Q := fun s F => by
 rw [arm_eval_Call, hbase]
 refine wpAny_bind (h.use F fun a s₁ σ₁ F₁ => ex2 fun f first => an2 fun hm h₁ => wpAny_bind (wpAny_standAt ?_))
 have hpos : methodCallPos true o c.env apos pos = Pure.pure pos := by unfold methodCallPos; simp [hline]
 unfold methodCall
 rw [hfew]
 refine wpAny_bind (wpAny_holding (hm.2 a rfl _ _ s₁ _ F₁ fun g fs t hg hfs => ?_))
 refine wpAny_bind (wpAny_of_eq hpos ?_)
 exact callWith_rule ok (kws := []) hg hm.1 (F₁.toks t) (by rw [hfs]; exact h₁) hp
theorem M_inst (ok : c.Ok prog w K n) {x C d f : Addr} {fs : List (Str × V)} {nm : Str} (hx : σ x = some (.inst C d)) (hd : σ d = some (.flds fs)) (hno : NoF fs nm) (hg : plainGet K C nm = true)
 (hf : findIn K (.ref C) nm = some (some (.ref f))) (ht : isFn K (.ref f) = true) (hk : keepIn K (.ref f) = true) : METH prog w K c ρ σ (.ref x) nm (.ref f) [.ref x] := by
 refine ⟨.inl ⟨f, rfl, hk⟩, fun a ha P EE s pl F k => ?_⟩
 obtain rfl := E_ref ha
 refine (ex2 fun es kk => an3 fun fe _ I => ?_) (F.inst hx hd)
 refine method_fn (ok.base.inK.keeps F.keep) I (plainGet_of hg).1 (plainGet_of hg).2 hf (beq_iff_eq.mp ht) ?_ (k _ _ s.toks rfl rfl)
 show (lookIn nm (dictOf es kk)).map _ = _
 rw [lookIn_dict, fe.getL_none hno]; rfl
theorem C_make (ok : c.Ok prog w K (n + 1)) {C fI : Addr} {xs : List V} {Q : V → Sig → Prop} (hm : makesIn K C = true) (hi : findIn K (.ref C) "__init__" = some (some (.ref fI))) (hf : isFn K (.ref fI) = true)
 (h : ∀ x d (c' : Cx), σ x = none → σ d = none → x ≠ d → c'.Ok prog w K n → CODE prog w c' ρ ((σ.set d (.flds [])).set x (.inst C d)) (.ref fI) (.ref x :: xs) [] fun v σ' => v = .none ∧ Q (.ref x) σ') : CALL prog w c ρ σ (.ref C) xs [] Q := by
 intro g vs kv hg hvs hkv s F
 obtain rfl := E_ref hg
 obtain rfl : kv = [] := by cases kv with | nil => rfl | cons => cases hkv
 have X := ok.base.inK.keeps F.keep
 refine wpAny_call ?_
 obtain ⟨hh, gg, dd, tt, os⟩ := s
 refine make_core (makes_of X hm) (looks_findIn X hi) (fun self => bind_fn X self (beq_iff_eq.mp hf)) (.inl rfl) ?_
 obtain ⟨F1, n1⟩ := F.alloc (o := emptyDict) (o' := .flds []) (t := tt) ok rfl ⟨[], 0, Heap.get?_push_size _ rfl, .nil⟩
 obtain ⟨F2, n2⟩ := F1.alloc (o := instObj C hh.objs.size) (o' := .inst C hh.objs.size) (t := tt) ok rfl (Heap.get?_push_size _ rfl)
 dsimp only at F1 n1 F2 n2
 rw [Heap.size_push] at F2 n2
 have nx : σ (hh.objs.size + 1) = none := by rw [Yd (Nat.succ_ne_self _)] at n2; exact n2
 let c' : Cx := { c with A := c.A.under (.builtin "type.__call__" ⟨.ref C :: vs, []⟩) }
 have ok' : c'.Ok prog w K n := ⟨ok.base, ok.kind, ok.glob, ok.nodup, ok.loc, ok.dbg, ok.gls, ok.fresh, ok.cin, ok.apart, ok.hd, by have := ok.dep; show c.A.depth + 1 + n < 900; omega, by have := ok.uni; show c.A.units + 1 + 8 * n < 8000; omega⟩
 have F3 : Fm prog w c' ρ _ _ := ⟨F2.names, F2.ns, F2.cl, F2.keep, F2.own, F2.free, F2.gens, F2.os⟩
 have z := h (hh.objs.size + 1) hh.objs.size c' nx n1 (Nat.succ_ne_self _) ok' (.ref fI) (.ref (hh.objs.size + 1) :: vs) [] rfl (by rw [List.map_cons, hvs]; rfl) rfl _ F3
 refine codeAny_mono z fun r s' hr => ?_
 cases r with
 | error e => exact hr
 | ok f =>
  cases f with
  | ret v =>
   revert hr; refine ex1 fun σ' => an3 fun F' hv hq => ?_
   exact ⟨E_none hv, σ', ⟨F'.names, F'.ns, F'.cl, F'.keep, F'.own, F'.free, F'.gens, F'.os⟩, hq⟩
  | next => exact hr
  | brk => exact hr
  | cont => exact hr
end
noncomputable def under (L : Nat) (h : Heap) : Heap := ⟨h.objs.extract 0 L, h.life⟩
theorem under_get (L : Nat) (h : Heap) (a : Nat) : (under L h).get? a = if a < L then h.get? a else none := by
 have iff : ∀ o, (under L h).get? a = some o ↔ (a < L ∧ h.get? a = some o) := by
  intro o
  rw [Heap.get?_some_iff, Heap.get?_some_iff]
  simp only [under, Array.getElem?_extract, Nat.zero_add, Nat.sub_zero]
  constructor
  · rintro ⟨h1, h2⟩
    split at h1
    · rename_i hl; exact ⟨by omega, h1, h2⟩
    · cases h1
  · refine an3 fun hl h1 h2 => ?_
    have hs : a < h.objs.size := (Array.getElem?_eq_some_iff.mp h1).1
    rw [if_pos (by omega)]
    exact ⟨h1, h2⟩
 by_cases hl : a < L
 · rw [if_pos hl]
   cases e : h.get? a with
   | some o => exact (iff o).mpr ⟨hl, e⟩
   | none =>
    cases e' : (under L h).get? a with
    | none => rfl
    | some o => rw [((iff o).mp e').2] at e; cases e
 · rw [if_neg hl]
   cases e' : (under L h).get? a with
   | none => rfl
   | some o => exact absurd ((iff o).mp e').1 hl
theorem under_size (L : Nat) (h : Heap) : (under L h).objs.size ≤ L := by simp [under]; omega
noncomputable def above (L : Nat) (h : Heap) : List (Addr × Obj) := (List.range h.objs.size).filterMap fun i => if L < i then (h.get? i).map fun o => ((i : Addr), o) else none
theorem mem_above {L : Nat} {h : Heap} {p : Addr × Obj} : p ∈ above L h ↔ L < p.1 ∧ h.get? p.1 = some p.2 := by
 unfold above
 rw [List.mem_filterMap]
 constructor
 · rintro ⟨i, hi, e⟩
   split at e
   · obtain ⟨o, ho, rfl⟩ := Option.map_eq_some_iff.mp e
     exact ⟨by assumption, ho⟩
   · cases e
 · rintro ⟨hl, e⟩
   refine ⟨p.1, List.mem_range.mpr (Heap.lt_size e), ?_⟩
   rw [if_pos hl, e]; rfl
section
variable {n : Nat} {c : Cx} {ρ ρ' : Loc} {σ : Sig} {s : Shared}
theorem Fm.grown (F : Fm prog w c ρ σ s) (ok : c.Ok prog w K n) {h' : Heap} {t : Nat} (hn : ∃ m, s.heap.Ns c.env.locals m ∧ h'.Ns c.env.locals m) (k : ∀ b ob, b ≠ c.env.locals → s.heap.get? b = some ob → h'.get? b = some ob) : Fm prog w c ρ σ { s with heap := h', toks := t } where
 names := F.names
 ns := by
  obtain ⟨m, a, b⟩ := F.ns
  obtain ⟨m', a', b'⟩ := hn
  have e : m = m' := by
   revert a; refine ex3 fun o es ep => an4 fun h1 h2 _ h3 => ?_
   revert a'; refine ex3 fun o' es' ep' => an4 fun h1' h2' _ h3' => ?_
   rw [h1] at h1'; cases h1'
   rw [h2] at h2'; cases h2'
   funext x; rw [← h3 x, ← h3' x]
  exact ⟨m, e ▸ b', b⟩
 cl := fun p hp hk => by
  refine (ex2 fun a v => an3 fun x => ?_) (F.cl p hp hk); rintro ⟨o, y1, y2⟩; intro z
  exact ⟨a, v, x, ⟨o, k _ _ (ok.fresh.2 _ _ x).2 y1, y2⟩, z⟩
 keep := fun b o e => k _ _ (fun q => by rw [q, ok.fresh.1] at e; cases e) (F.keep b o e)
 own := fun a o e => by
  obtain ⟨ob, q⟩ := (F.own a o e).get
  exact (F.own a o e).same ((k _ _ (F.free a o e).2.1 q).trans q.symm)
 free := F.free
 gens := F.gens
 os := F.os
theorem Fm.allocAt (F : Fm prog w c ρ σ s) (ok : c.Ok prog w K n) {h' : Heap} {t : Nat} {a : Addr} {o' : AObj} (ha : s.heap.get? a = none) (F' : Fm prog w c ρ σ { s with heap := h', toks := t }) (r : Rep prog w o' a h') :
 Fm prog w c ρ (σ.set a o') { s with heap := h', toks := t } ∧ σ a = none := by
 refine (an3 fun h1 h2 h3 => ?_) (F.fresh ok ha)
 refine ⟨⟨F'.names, F'.ns, F'.cl, F'.keep, ?_, ?_, F'.gens, F'.os⟩, h1⟩
 · intro b ob e
   by_cases q : b = a
   · subst q; rw [Ya] at e; cases e; exact r
   · rw [Yd q] at e; exact F'.own b ob e
 · intro b ob e
   by_cases q : b = a
   · subst q; exact ⟨h2, h3, F.cellNe ok ha⟩
   · rw [Yd q] at e; exact F.free b ob e
theorem Fm.bridge (F : Fm prog w c ρ σ s) (ok : c.Ok prog w K n) : ∃ h₀ m news, Fr h₀ c.env.locals s.heap m ∧ News h₀ c.env.locals s.heap news ∧
 (∀ h' t, Fr h₀ c.env.locals h' m → (∀ p ∈ news, h'.get? p.1 = some p.2) → Fm prog w c ρ σ { s with heap := h', toks := t } ∧ ∀ b ob, b ≠ c.env.locals → s.heap.get? b = some ob → h'.get? b = some ob) := by
 obtain ⟨m, hm, _⟩ := F.ns
 refine ⟨under c.env.locals s.heap, m, above c.env.locals s.heap, ⟨hm, fun b o e => ?_, under_size _ _⟩, fun p hp => ?_, fun h' t Fr' N' => ?_⟩
 · rw [under_get] at e; split at e
   · exact e
   · cases e
 · obtain ⟨h1, h2⟩ := mem_above.mp hp
   refine ⟨h2, Nat.ne_of_gt h1, ?_⟩
   rw [under_get, if_neg (Nat.not_lt.mpr (Nat.le_of_lt h1))]
 · have k : ∀ b ob, b ≠ c.env.locals → s.heap.get? b = some ob → h'.get? b = some ob := by
    intro b ob hb e
    rcases Nat.lt_or_gt_of_ne hb with q | q
    · exact Fr'.keep b ob (by rw [under_get, if_pos q]; exact e)
    · exact N' (b, ob) (mem_above.mpr ⟨q, e⟩)
   exact ⟨F.grown ok ⟨m, hm, Fr'.ns⟩ k, k⟩
theorem B_add {i j : Int} {Q : V → Sig → Prop} (h : Q (.int (i + j)) σ) : BIN prog w c ρ σ .Add (.int i) (.int j) Q := by
 intro a b ha hb s F
 obtain ⟨t, rfl⟩ := E_int ha; obtain ⟨u, rfl⟩ := E_int hb
 exact add_int ⟨σ, F.toks _, h⟩
theorem B_sub {i j : Int} {Q : V → Sig → Prop} (h : Q (.int (i - j)) σ) : BIN prog w c ρ σ .Sub (.int i) (.int j) Q := by
 intro a b ha hb s F
 obtain ⟨t, rfl⟩ := E_int ha; obtain ⟨u, rfl⟩ := E_int hb
 exact sub_int ⟨σ, F.toks _, h⟩
theorem B_mul {i j : Int} {Q : V → Sig → Prop} (hm : IntMulOk i j) (h : Q (.int (i * j)) σ) : BIN prog w c ρ σ .Mult (.int i) (.int j) Q := by
 intro a b ha hb s F
 obtain ⟨t, rfl⟩ := E_int ha; obtain ⟨u, rfl⟩ := E_int hb
 exact mul_int ⟨σ, F.toks _, h⟩ hm
theorem B_mod {i j : Int} {Q : V → Sig → Prop} (hj : j ≠ 0) (h : Q (.int (i.fmod j)) σ) : BIN prog w c ρ σ .Mod (.int i) (.int j) Q := by
 intro a b ha hb s F
 obtain ⟨t, rfl⟩ := E_int ha; obtain ⟨u, rfl⟩ := E_int hb
 exact mod_int' hj ⟨σ, F.toks _, h⟩
theorem B_div {i j : Int} {Q : V → Sig → Prop} (hj : j ≠ 0) (hp : Builtin.divisionGoesByPylong i j = false) (h : Q (.int (i.fdiv j)) σ) : BIN prog w c ρ σ .FloorDiv (.int i) (.int j) Q := by
 intro a b ha hb s F
 obtain ⟨t, rfl⟩ := E_int ha; obtain ⟨u, rfl⟩ := E_int hb
 exact floordiv_int hj ⟨σ, F.toks _, h⟩ (.inl hp)
theorem B_pow {i j : Int} {Q : V → Sig → Prop} (hj : 0 ≤ j) (hsz : (Builtin.Int.intBits i : Int) * j ≤ 2 ^ 27) (h : Q (.int (i ^ j.toNat)) σ) : BIN prog w c ρ σ .Pow (.int i) (.int j) Q := by
 intro a b ha hb s F
 obtain ⟨t, rfl⟩ := E_int ha; obtain ⟨u, rfl⟩ := E_int hb
 exact pow_int hj hsz ⟨σ, F.toks _, h⟩
noncomputable def INP (prog : Program) (w : World) (c : Cx) (ρ : Loc) (σ : Sig) (op : Operator) (x y : V) (Q : V → Sig → Prop) : Prop :=
 ∀ a b, E a = x → E b = y → TE prog w c ρ σ (inplaceOp op a b) fun v σ' => Q (E v) σ'
theorem I_add {i j : Int} {Q : V → Sig → Prop} (h : Q (.int (i + j)) σ) : INP prog w c ρ σ .Add (.int i) (.int j) Q := by
 intro a b ha hb s F
 obtain ⟨t, rfl⟩ := E_int ha; obtain ⟨u, rfl⟩ := E_int hb
 exact iadd_int ⟨σ, F.toks _, h⟩
theorem C_lt {i j : Int} {Q : V → Sig → Prop} (h : Q (.bool (decide (i < j))) σ) : CMP prog w c ρ σ .Lt (.int i) (.int j) Q := by
 intro a b ha hb s F
 obtain ⟨t, rfl⟩ := E_int ha; obtain ⟨u, rfl⟩ := E_int hb
 exact lt_int ⟨σ, F, h⟩
theorem C_le {i j : Int} {Q : V → Sig → Prop} (h : Q (.bool (decide (i ≤ j))) σ) : CMP prog w c ρ σ .LtE (.int i) (.int j) Q := by
 intro a b ha hb s F
 obtain ⟨t, rfl⟩ := E_int ha; obtain ⟨u, rfl⟩ := E_int hb
 exact le_int ⟨σ, F, h⟩
theorem C_gt {i j : Int} {Q : V → Sig → Prop} (h : Q (.bool (decide (i > j))) σ) : CMP prog w c ρ σ .Gt (.int i) (.int j) Q := by
 intro a b ha hb s F
 obtain ⟨t, rfl⟩ := E_int ha; obtain ⟨u, rfl⟩ := E_int hb
 exact gt_int ⟨σ, F, h⟩
theorem C_ge {i j : Int} {Q : V → Sig → Prop} (h : Q (.bool (decide (i ≥ j))) σ) : CMP prog w c ρ σ .GtE (.int i) (.int j) Q := by
 intro a b ha hb s F
 obtain ⟨t, rfl⟩ := E_int ha; obtain ⟨u, rfl⟩ := E_int hb
 exact ge_int ⟨σ, F, h⟩
theorem C_eqi {i j : Int} {Q : V → Sig → Prop} (h : Q (.bool (decide (i = j))) σ) : CMP prog w c ρ σ .Eq (.int i) (.int j) Q := by
 intro a b ha hb s F
 obtain ⟨t, rfl⟩ := E_int ha; obtain ⟨u, rfl⟩ := E_int hb
 exact eq_int ⟨σ, F, h⟩
theorem C_nei {i j : Int} {Q : V → Sig → Prop} (h : Q (.bool (decide (i ≠ j))) σ) : CMP prog w c ρ σ .NotEq (.int i) (.int j) Q := by
 intro a b ha hb s F
 obtain ⟨t, rfl⟩ := E_int ha; obtain ⟨u, rfl⟩ := E_int hb
 refine ne_int ⟨σ, F, ?_⟩
 have e : (i != j) = decide (i ≠ j) := by by_cases q : i = j <;> simp [q]
 show Q (.bool (i != j)) σ
 rw [e]; exact h
theorem str_beq (x y : Str) : (x == y) = decide (x = y) := by
 by_cases q : x = y
 · subst q; simp
 · simp [q]
theorem C_eqs {x y : Str} {Q : V → Sig → Prop} (h : Q (.bool (decide (x = y))) σ) : CMP prog w c ρ σ .Eq (.str x) (.str y) Q := by
 intro a b ha hb s F
 obtain ⟨t, rfl⟩ := E_str ha; obtain ⟨u, rfl⟩ := E_str hb
 refine PyProof.Rows.eq_str ⟨σ, F, ?_⟩
 show Q (.bool (x == y)) σ
 rw [str_beq]; exact h
theorem C_nes {x y : Str} {Q : V → Sig → Prop} (h : Q (.bool (decide (x ≠ y))) σ) : CMP prog w c ρ σ .NotEq (.str x) (.str y) Q := by
 intro a b ha hb s F
 obtain ⟨t, rfl⟩ := E_str ha; obtain ⟨u, rfl⟩ := E_str hb
 refine PyProof.Rows.ne_str ⟨σ, F, ?_⟩
 show Q (.bool (!(x == y))) σ
 rw [str_beq, show (!decide (x = y)) = decide (x ≠ y) by by_cases q : x = y <;> simp [q]]; exact h
theorem C_is {x : V} {Q : V → Sig → Prop} (hx : notBi x = true) (h : Q (.bool (decide (x = .none))) σ) : CMP prog w c ρ σ .Is x .none Q := by
 intro a b ha hb s F
 obtain rfl := E_none hb
 subst ha
 cases a <;> first | cases hx; done | exact wpAny_is_plain rfl ⟨σ, F, h⟩
theorem C_isnot {x : V} {Q : V → Sig → Prop} (hx : notBi x = true) (h : Q (.bool (decide (x ≠ .none))) σ) : CMP prog w c ρ σ .IsNot x .none Q := by
 intro a b ha hb s F
 obtain rfl := E_none hb
 subst ha
 cases a <;> first | cases hx; done | exact wpAny_isNot_plain rfl ⟨σ, F, h⟩
theorem U_bool {b : Bool} {Q : Bool → Sig → Prop} (h : Q b σ) : TRU prog w c ρ σ (.bool b) Q := by
 intro a ha s F; obtain rfl := E_bool ha; exact wpAny_truthy_bool ⟨σ, F, h⟩
theorem U_none {Q : Bool → Sig → Prop} (h : Q false σ) : TRU prog w c ρ σ .none Q := by
 intro a ha s F; obtain rfl := E_none ha; exact truthy_none ⟨σ, F, h⟩
end
noncomputable def IceP (c : Cx) (σ : Sig) (a : Addr) : Prop := σ a ≠ none ∨ a = c.env.locals ∨ ∃ x, c.env.cells.lookup x = some a
open Classical in
noncomputable def Cx.ice (c : Cx) (σ : Sig) (h : Heap) : Cx := { c with h₀ := hideP (fun a => decide (IceP c σ a)) h }
structure Sim (c c' : Cx) : Prop where
 eq : c' = { c with h₀ := c'.h₀ }
 sub : ∀ b o, c.h₀.get? b = some o → c'.h₀.get? b = some o
theorem ice_get {c : Cx} {σ : Sig} {h : Heap} {b : Addr} {o : Obj} : (c.ice σ h).h₀.get? b = some o ↔ (h.get? b = some o ∧ σ b = none ∧ b ≠ c.env.locals ∧ ∀ x, c.env.cells.lookup x ≠ some b) := by
 show (hideP _ h).get? b = some o ↔ _
 rw [hideP_get]
 by_cases q : IceP c σ b
 · simp only [q, decide_true, if_true]
   constructor
   · intro e; cases e
   · refine an4 fun _ h1 h2 h3 => ?_
     rcases q with q | q | ⟨x, q⟩
     · exact absurd h1 q
     · exact absurd q h2
     · exact absurd q (h3 x)
 · simp only [q, decide_false, Bool.false_eq_true, if_false]
   constructor
   · intro e
     refine ⟨e, ?_, fun e' => q (.inr (.inl e')), fun x e' => q (.inr (.inr ⟨x, e'⟩))⟩
     cases z : σ b with
     | none => rfl
     | some o' => exact absurd (.inl (by rw [z]; simp)) q
   · exact fun z => z.1
theorem ice_none {c : Cx} {σ : Sig} {h : Heap} {b : Addr} (q : IceP c σ b) : (c.ice σ h).h₀.get? b = none := by
 show (hideP _ h).get? b = none
 rw [hideP_get, if_pos (by simpa using q)]
section
variable {n : Nat} {c c' : Cx} {ρ ρ' : Loc} {σ σ' τ : Sig} {s s' : Shared}
theorem Sim.refl : Sim c c := ⟨rfl, fun _ _ e => e⟩
theorem Sim.env (h : Sim c c') : c'.env = c.env := by rw [h.eq]
theorem Sim.A (h : Sim c c') : c'.A = c.A := by rw [h.eq]
theorem Sim.lns (h : Sim c c') : c'.lns = c.lns := by rw [h.eq]
theorem Sim.gl (h : Sim c c') : c'.gl = c.gl := by rw [h.eq]
theorem Sim.os (h : Sim c c') : c'.os = c.os := by rw [h.eq]
theorem Fm.sub_ice (F : Fm prog w c ρ σ s) (ok : c.Ok prog w K n) (le : ∀ b o, τ b = some o → σ b = some o) : Sim c (c.ice τ s.heap) := by
 refine ⟨rfl, fun b o e => ice_get.mpr ⟨F.keep b o e, ?_, ?_, ?_⟩⟩
 · cases q : τ b with
   | none => rfl
   | some x => rw [(F.free b x (le b x q)).1] at e; cases e
 · rintro rfl; rw [ok.fresh.1] at e; cases e
 · intro x hx; rw [(ok.fresh.2 x b hx).1] at e; cases e
theorem Cx.Ok.ice (ok : c.Ok prog w K n) (F : Fm prog w c ρ σ s) : (c.ice σ s.heap).Ok prog w K n where
 base := ok.base.keeps (F.sub_ice ok fun _ _ e => e).sub
 kind := ok.kind
 glob := ok.glob
 nodup := ok.nodup
 loc := ok.loc
 dbg := ok.dbg
 gls := ok.gls
 fresh := ⟨ice_none (.inr (.inl rfl)), fun x a h => ⟨ice_none (.inr (.inr ⟨x, h⟩)), (ok.fresh.2 x a h).2⟩⟩
 cin := ok.cin
 apart := ok.apart
 hd := ok.hd
 dep := ok.dep
 uni := ok.uni
theorem Fm.drop (F : Fm prog w c ρ σ s) (le : ∀ b o, τ b = some o → σ b = some o) : Fm prog w c ρ τ s where
 names := F.names
 ns := F.ns
 cl := F.cl
 keep := F.keep
 own := fun a o e => F.own a o (le a o e)
 free := fun a o e => F.free a o (le a o e)
 gens := F.gens
 os := F.os
theorem Fm.ice (F : Fm prog w c ρ σ s) : Fm prog w (c.ice σ s.heap) ρ σ s where
 names := F.names
 ns := F.ns
 cl := F.cl
 keep := fun b o e => (ice_get.mp e).1
 own := F.own
 free := fun a o e => ⟨ice_none (.inl (by rw [e]; simp)), (F.free a o e).2⟩
 gens := F.gens
 os := F.os
theorem Fm.melt (F : Fm prog w c' ρ σ s) (h : Sim c c') : Fm prog w c ρ σ s where
 names := by rw [F.names, h.lns]
 ns := by rw [← h.env]; exact F.ns
 cl := by rw [← h.env]; exact F.cl
 keep := fun b o e => F.keep b o (h.sub b o e)
 own := F.own
 free := fun a o e => by
  obtain ⟨h1, h2⟩ := F.free a o e
  rw [h.env] at h2
  refine ⟨?_, h2⟩
  cases q : c.h₀.get? a with
  | none => rfl
  | some x => rw [h.sub a x q] at h1; cases h1
 gens := F.gens
 os := by rw [F.os, h.os]
theorem Fm.iced (F : Fm prog w c' ρ σ s) {a : Addr} {o : Obj} (h : c'.h₀.get? a = some o) : σ a = none ∧ s.heap.get? a = some o := by
 refine ⟨?_, F.keep a o h⟩
 cases q : σ a with
 | none => rfl
 | some x => rw [(F.free a x q).1] at h; cases h
theorem Fm.lay (F : Fm prog w c ρ (τ.set a o) s) (ok : c.Ok prog w K n) (hτ : τ a = none) : Fm prog w c ρ τ s ∧ (∃ ob, (c.ice τ s.heap).h₀.get? a = some ob ∧ s.heap.get? a = some ob) ∧ Rep prog w o a s.heap ∧ c.h₀.get? a = none ∧ a ≠ c.env.locals ∧ ∀ x, c.env.cells.lookup x ≠ some a := by
 have r := F.own a o Ya
 obtain ⟨ob, e⟩ := r.get
 have f := F.free a o Ya
 refine ⟨F.drop fun b x hb => ?_, ⟨ob, ice_get.mpr ⟨e, hτ, f.2⟩, e⟩, r, f⟩
 rw [Yd]
 · exact hb
 · rintro rfl; rw [hτ] at hb; cases hb
theorem Fm.take {a : Addr} {o : AObj} (F : Fm prog w c ρ τ s) (r : Rep prog w o a s.heap) (f : c.h₀.get? a = none ∧ a ≠ c.env.locals ∧ ∀ x, c.env.cells.lookup x ≠ some a) : Fm prog w c ρ (τ.set a o) s where
 names := F.names
 ns := F.ns
 cl := F.cl
 keep := F.keep
 own := fun b x e => by
  by_cases q : b = a
  · subst q; rw [Ya] at e; cases e; exact r
  · rw [Yd q] at e; exact F.own b x e
 free := fun b x e => by
  by_cases q : b = a
  · subst q; exact f
  · rw [Yd q] at e; exact F.free b x e
 gens := F.gens
 os := F.os
theorem TE.frame {α : Type} {t : Sem α} {Q Q' : α → Sig → Prop} {a : Addr} {o : AObj} (ok : c.Ok prog w K n) (hτ : τ a = none)
 (h : ∀ c', Sim c c' → c'.Ok prog w K n → TE prog w c' ρ τ t Q') (k : ∀ v τ', Q' v τ' → τ' a = none → Q v (τ'.set a o)) : TE prog w c ρ (τ.set a o) t Q := by
 intro s F
 refine (an4 fun F0 => ?_) (F.lay ok hτ); rintro ⟨ob, e1, e2⟩; intro r f
 have S := F0.sub_ice ok fun _ _ e => e
 refine wpAny_mono (h _ S (ok.ice F0) s F0.ice) (fun v s' h' => ?_) fun _ _ x => x
 obtain ⟨τ', F', hq⟩ := h'
 obtain ⟨z, e3⟩ := F'.iced e1
 exact ⟨_, (F'.melt S).take (r.same (e3.trans e2.symm)) f, k v τ' hq z⟩
theorem CALL.frame {f : V} {xs : List V} {kw : List (Str × V)} {Q Q' : V → Sig → Prop} {a : Addr} {o : AObj} (ok : c.Ok prog w K n) (hτ : τ a = none)
 (h : ∀ c', Sim c c' → c'.Ok prog w K n → CALL prog w c' ρ τ f xs kw Q') (k : ∀ v τ', Q' v τ' → τ' a = none → Q v (τ'.set a o)) : CALL prog w c ρ (τ.set a o) f xs kw Q :=
 fun g vs kv h1 h2 h3 => TE.frame ok hτ (fun c' S ok' => h c' S ok' g vs kv h1 h2 h3) fun v τ' hq z => k _ τ' hq z
theorem CALL.mono {f : V} {xs : List V} {kw : List (Str × V)} {Q Q' : V → Sig → Prop} (h : CALL prog w c ρ σ f xs kw Q') (k : ∀ v σ', Q' v σ' → Q v σ') : CALL prog w c ρ σ f xs kw Q :=
 fun g vs kv h1 h2 h3 => TE.mono (h g vs kv h1 h2 h3) fun v σ' hq => k _ σ' hq
end
inductive SK where
 | list (l : Addr) | tup (l : Addr) | rng (lo hi : Int)
noncomputable def spanZ (lo hi : Int) : List V := (List.range (hi - lo).toNat).map fun i => V.int (lo + (i : Nat))
noncomputable def Src (σ : Sig) : SK → List V → Prop
 | .list l, xs => σ l = some (.list xs)
 | .tup l, xs => σ l = some (.tup xs)
 | .rng lo hi, xs => xs = spanZ lo hi
noncomputable def SrcOf (σ : Sig) (x : V) : SK → List V → Prop
 | .list l, xs => x = .ref l ∧ σ l = some (.list xs)
 | .tup l, xs => x = .ref l ∧ σ l = some (.tup xs)
 | .rng lo hi, xs => xs = spanZ lo hi ∧ (∃ l, x = .ref l ∧ σ l = some (.rng lo hi)) ∧ -1000000 ≤ lo ∧ lo ≤ 1000000 ∧ -1000000 ≤ hi ∧ hi ≤ 1000000
noncomputable def Itr : SK → Nat → Addr → Nat → Heap → Prop
 | .list l, _, I, i, h => h.IsListIter I l i
 | .tup l, _, I, i, h => h.IsTupleIter I l i
 | .rng lo _, n, I, i, h => IsRangeIter h I (lo + (i : Nat) * 1) ((n : Int) - (i : Nat)) 1
theorem SrcOf.src {σ : Sig} {x : V} {k : SK} {xs : List V} (h : SrcOf σ x k xs) : Src σ k xs := by
 cases k with
 | list l => exact h.2
 | tup l => exact h.2
 | rng lo hi => exact h.1
theorem Itr.get {k : SK} {n : Nat} {I : Addr} {i : Nat} {h : Heap} (x : Itr k n I i h) : ∃ o, h.get? I = some o := by
 cases k with
 | list l => obtain ⟨o, e, _⟩ := x; exact ⟨o, e⟩
 | tup l => obtain ⟨o, e, _⟩ := x; exact ⟨o, e⟩
 | rng lo hi => exact ⟨_, x⟩
theorem Itr.same {k : SK} {n : Nat} {I : Addr} {i : Nat} {h h' : Heap} (x : Itr k n I i h) (e : h'.get? I = h.get? I) : Itr k n I i h' := by
 cases k with
 | list l => obtain ⟨o, e', r⟩ := x; exact ⟨o, e.trans e', r⟩
 | tup l => obtain ⟨o, e', r⟩ := x; exact ⟨o, e.trans e', r⟩
 | rng lo hi => exact e.trans x
theorem span_len {lo hi : Int} : (spanZ lo hi).length = (hi - lo).toNat := by simp [spanZ]
theorem span_get {lo hi : Int} {i : Nat} (h : i < (hi - lo).toNat) : (spanZ lo hi)[i]? = some (.int (lo + (i : Nat))) := by simp [spanZ, h]
theorem span_size {lo hi : Int} : Builtin.Range.rangeSize lo hi 1 = ((hi - lo).toNat : Nat) := by
 unfold Builtin.Range.rangeSize
 rw [if_pos (by decide)]
 by_cases h : lo < hi
 · rw [if_pos h]; omega
 · rw [if_neg h]; omega
theorem span_small {lo hi : Int} (h1 : -1000000 ≤ lo) (h2 : lo ≤ 1000000) (h3 : -1000000 ≤ hi) (h4 : hi ≤ 1000000) : Builtin.Range.small lo hi 1 = true := by
 have f : ∀ i : Int, -4000000 ≤ i → i ≤ 4000000 → Builtin.Range.rangeFitsLong i = true := by
  intro i a b
  unfold Builtin.Range.rangeFitsLong
  simp only [Bool.and_eq_true, decide_eq_true_eq]
  constructor
  · exact Int.le_trans (by decide) a
  · exact Int.lt_of_le_of_lt b (by decide)
 unfold Builtin.Range.small
 simp only [span_size, Bool.and_eq_true, Bool.or_eq_true]
 exact ⟨⟨⟨⟨f _ (by omega) (by omega), f _ (by omega) (by omega)⟩, f _ (by omega) (by omega)⟩, f _ (by omega) (by omega)⟩, .inr (by rw [if_pos (by decide)]; exact f _ (by omega) (by omega))⟩
section
variable {n : Nat} {c c' : Cx} {ρ ρ' : Loc} {σ σ' τ : Sig} {s s' : Shared}
noncomputable def Free (c : Cx) (σ : Sig) (I : Addr) : Prop := σ I = none ∧ c.h₀.get? I = none ∧ I ≠ c.env.locals ∧ ∀ x, c.env.cells.lookup x ≠ some I
theorem Fm.free_new (F : Fm prog w c ρ σ s) (ok : c.Ok prog w K n) {a : Addr} (ha : s.heap.get? a = none) : Free c σ a :=
 by obtain ⟨h1, h2, h3⟩ := F.fresh ok ha; exact ⟨h1, h2, h3, F.cellNe ok ha⟩
theorem Fm.but (F : Fm prog w c ρ σ s) {h' : Heap} {t : Nat} {a : Addr} (fr : Free c σ a) (hk : ∀ b o, b ≠ a → s.heap.get? b = some o → h'.get? b = some o) : Fm prog w c ρ σ { s with heap := h', toks := t } where
 names := F.names
 ns := by obtain ⟨m, x, b⟩ := F.ns; exact ⟨m, x.at' fun o e => hk _ o (Ne.symm fr.2.2.1) e, b⟩
 cl := fun p hp hpk => by obtain ⟨b, v, x, ⟨o, y, d⟩, z⟩ := F.cl p hp hpk; exact ⟨b, v, x, ⟨o, hk _ _ (fun e => fr.2.2.2 p.1 (e ▸ x)) y, d⟩, z⟩
 keep := fun b o e => hk _ _ (fun q => by rw [q, fr.2.1] at e; cases e) (F.keep b o e)
 own := fun b o e => by
  obtain ⟨ob, q⟩ := (F.own b o e).get
  exact (F.own b o e).same ((hk _ _ (fun z => by rw [z, fr.1] at e; cases e) q).trans q.symm)
 free := F.free
 gens := F.gens
 os := F.os
theorem itr_start (ok : c.Ok prog w K n) (F : Fm prog w c ρ σ s) {v : Value} {k : SK} {xs : List V} (h : SrcOf σ (E v) k xs) {Q : Value → Shared → Prop} {EE : Value → Shared → Prop}
 (hQ : ∀ I s', Fm prog w c ρ σ s' → Free c σ I → Itr k xs.length I 0 s'.heap → Q (.ref I) s') : wpAny (model prog w) c.A (pyIter v) Q EE s := by
 have fr := F.free_new ok (get_size_none s.heap)
 have up : ∀ (o : Obj) b ob, s.heap.get? b = some ob → (s.heap.push o).get? b = some ob := fun o b ob e => Heap.get?_push_of_some _ e
 cases k with
 | list l =>
  obtain ⟨e1, e2⟩ := h
  obtain rfl := E_ref e1
  refine (ex2 fun vs m => ?_) (F.own l _ e2); rintro ⟨e3, e4⟩
  refine wpAny_pyIter_list (items := vs) ⟨_, e3, rfl, m, rfl⟩ (hQ _ _ (F.grow (t := s.toks) (up _)) fr ⟨_, Heap.get?_push_size _ rfl, rfl, rfl⟩)
 | tup l =>
  obtain ⟨e1, e2⟩ := h
  obtain rfl := E_ref e1
  refine (ex2 fun vs m => ?_) (F.own l _ e2); rintro ⟨e3, e4⟩
  refine wpAny_pyIter_tuple (items := vs) ⟨_, e3, rfl, m, rfl⟩ (hQ _ _ (F.grow (t := s.toks) (up _)) fr ⟨_, Heap.get?_push_size _ rfl, rfl, rfl⟩)
 | rng lo hi =>
  revert h; refine an6 ?_; rintro rfl ⟨l, e1, e2⟩; intro b1 b2 b3 b4
  obtain rfl := E_ref e1
  refine (ex3 fun t u z e3 => ?_) (F.own l _ e2)
  refine wpAny_pyIter_range e3 (span_small b1 b2 b3 b4) (hQ _ _ (F.grow (t := s.toks) (up _)) fr ?_)
  show (Heap.push _ _).get? _ = _
  rw [Heap.get?_push_size _ rfl, span_size, span_len]
  simp
theorem itr_next (ok : c.Ok prog w K n) (F : Fm prog w c ρ σ s) {k : SK} {xs : List V} {I : Addr} {i : Nat} {x : V} (fr : Free c σ I) (h : Src σ k xs) (it : Itr k xs.length I i s.heap) (hx : xs[i]? = some x) {Q : Option Value → Shared → Prop} {EE : Value → Shared → Prop}
 (hQ : ∀ v s', E v = x → Fm prog w c ρ σ s' → Itr k xs.length I (i + 1) s'.heap → Q (some v) s') : wpAny (model prog w) c.A (pyNext (.ref I)) Q EE s := by
 cases k with
 | list l =>
  refine (ex2 fun vs m => ?_) (F.own l _ h); rintro ⟨e3, e4⟩
  subst e4
  rw [List.getElem?_map, Option.map_eq_some_iff] at hx
  obtain ⟨v, hv, rfl⟩ := hx
  refine wpAny_pyNext_list_item it (items := vs) ⟨_, e3, rfl, m, rfl⟩ (by simpa using hv) fun h' it' hs => ?_
  exact hQ v _ rfl (F.but (t := s.toks) fr fun b o hb e => hs.extBut b o hb e) it'
 | tup l =>
  refine (ex2 fun vs m => ?_) (F.own l _ h); rintro ⟨e3, e4⟩
  subst e4
  rw [List.getElem?_map, Option.map_eq_some_iff] at hx
  obtain ⟨v, hv, rfl⟩ := hx
  refine wpAny_pyNext_tuple_item it (items := vs) ⟨_, e3, rfl, m, rfl⟩ (by simpa using hv) fun h' it' hs => ?_
  exact hQ v _ rfl (F.but (t := s.toks) fr fun b o hb e => hs.extBut b o hb e) it'
 | rng lo hi =>
  obtain rfl : xs = spanZ lo hi := h
  have hi' : i < (hi - lo).toNat := by
   rcases Nat.lt_or_ge i (hi - lo).toNat with q | q
   · exact q
   · rw [List.getElem?_eq_none (by rw [span_len]; exact q)] at hx; cases hx
  rw [span_get hi'] at hx
  cases hx
  refine (Walks.range ok.hd I lo 1 (spanZ lo hi).length).item i s Q EE (by rw [span_len]; exact hi') it fun v h' tk hv it' hs => ?_
  obtain ⟨t, rfl⟩ := hv
  exact hQ _ _ (by rw [Int.mul_one]; rfl) (F.but fr fun b o hb e => hs b o (by simpa using hb) e) it'
theorem itr_done (ok : c.Ok prog w K n) (F : Fm prog w c ρ σ s) {k : SK} {xs : List V} {I : Addr} (fr : Free c σ I) (h : Src σ k xs) (it : Itr k xs.length I xs.length s.heap) {Q : Option Value → Shared → Prop} {EE : Value → Shared → Prop}
 (hQ : ∀ s', Fm prog w c ρ σ s' → Q none s') : wpAny (model prog w) c.A (pyNext (.ref I)) Q EE s := by
 cases k with
 | list l =>
  refine (ex2 fun vs m => ?_) (F.own l _ h); rintro ⟨e3, e4⟩
  subst e4
  refine wpAny_pyNext_list_end ok.hd it (items := vs) ⟨_, e3, rfl, m, rfl⟩ (by simp) fun h' hs => hQ _ (F.but (t := s.toks) fr fun b o hb e => hs b o hb e)
 | tup l =>
  refine (ex2 fun vs m => ?_) (F.own l _ h); rintro ⟨e3, e4⟩
  subst e4
  refine wpAny_pyNext_tuple_end ok.hd it (items := vs) ⟨_, e3, rfl, m, rfl⟩ (by simp) fun h' hs => hQ _ (F.but (t := s.toks) fr fun b o hb e => hs b o hb e)
 | rng lo hi =>
  refine (Walks.range ok.hd I lo 1 xs.length).done s Q EE it fun h' tk hs => hQ _ (F.but fr fun b o hb e => hs b o (by simpa using hb) e)
theorem itr_owned {k : SK} {m : Nat} {I : Addr} {i : Nat} {A : Around} (it : Itr k m I i s.heap) {target : PySem.Expr} {v : Value} {Q : Unit → Shared → Prop} {EE : Value → Shared → Prop} (hQ : Q () s) :
 wpAny (model prog w) A (letOwnedTupleGo target (.ref I) v) Q EE s := by
 have key : ∀ a : Addr, wpAny (model prog w) A (do
  let o ← load I
  match o.cls, o.data with
  | .type n, .fields vs =>
   if ["enumerate", "zip", "dict_itemiterator", "dict_reverseitemiterator", "odict_iterator", "itertools.zip_longest", "itertools.pairwise"].contains n && vs[0]? == some (rawInt a) then
    rule "for.unpacks-the-owned-tuple"
    updateField I 0 .none
  | _, _ => pure ()) Q EE s := by
  intro a
  cases k with
  | list l =>
   revert it; refine ex1 fun o => an3 fun e hc hd => ?_
   refine wpAny_bind (wpAny_loadPart e ?_)
   rw [hc, hd]
   exact wpAny_pure hQ
  | tup l =>
   revert it; refine ex1 fun o => an3 fun e hc hd => ?_
   refine wpAny_bind (wpAny_loadPart e ?_)
   rw [hc, hd]
   exact wpAny_pure hQ
  | rng lo hi =>
   refine wpAny_bind (wpAny_loadPart it ?_)
   exact wpAny_pure hQ
 cases target with
 | Tuple => cases v <;> first | exact key _ | exact wpAny_pure hQ
 | List => cases v <;> first | exact key _ | exact wpAny_pure hQ
 | _ => exact wpAny_pure hQ
noncomputable def LoopQ (P : Loc → Sig → Prop) (Q : Out → Loc → Sig → Prop) : Out → Loc → Sig → Prop
 | .next, ρ, σ => P ρ σ
 | .cont, ρ, σ => P ρ σ
 | .brk, ρ, σ => Q .next ρ σ
 | .ret v, ρ, σ => Q (.ret v) ρ σ
structure ForInv (prog : Program) (w : World) (K : Frag) (n : Nat) (c : Cx) (target : PySem.Expr) (body : List PySem.Stmt) (Q : Out → Loc → Sig → Prop) (k : SK) (xs : List V) (J : Nat → Loc → Sig → Prop) : Prop where
 src : ∀ i ρ σ, J i ρ σ → Src σ k xs
 turn : ∀ c' i x ρ σ, Sim c c' → c'.Ok prog w K n → xs[i]? = some x → J i ρ σ → TGT prog w c' ρ σ target x fun ρ₁ σ₁ => STS prog w c' ρ₁ σ₁ body (LoopQ (J (i + 1)) Q)
 done : ∀ ρ σ, J xs.length ρ σ → Q .next ρ σ
theorem S_for (ok : c.Ok prog w K n) {target iter : PySem.Expr} {body : List PySem.Stmt} {pos : Pos} {Q : Out → Loc → Sig → Prop}
 (h : EX prog w c ρ σ iter fun x σ₁ => ∃ k xs J, SrcOf σ₁ x k xs ∧ J 0 ρ σ₁ ∧ ForInv prog w K n c target body Q k xs J)
 (hs : ∀ x, foldedSetIterable iter c.env x = pure x := by intro _; rfl) : ST prog w c ρ σ (.For target iter body [] pos) Q := by
 intro s F
 refine wpAny_For (h.use F fun v s₁ σ₁ F₁ h₁ => ?_) hs
 revert h₁; refine ex3 fun k xs J => an3 fun hsrc h0 inv => ?_
 refine itr_start ok F₁ hsrc fun I s₂ F₂ fr it => ?_
 refine codeAny_forLoop_any (fun m s' => ∃ i ρ' σ', m + i = xs.length ∧ J i ρ' σ' ∧ Fm prog w c ρ' σ' s' ∧ Free c σ' I ∧ Itr k xs.length I i s'.heap) ?_ xs.length ⟨0, ρ, σ₁, rfl, h0, F₂, fr, it⟩
 refine fun m s' => ex3 fun i ρ' σ' => an5 fun hm hJ F' fr' it' => ?_
 rcases Nat.eq_zero_or_pos m with rfl | hpos
 · rw [Nat.zero_add] at hm
   subst hm
   refine itr_done ok F' fr' (inv.src _ _ _ hJ) it' fun s₃ F₃ => wpAny_execs_nil ⟨ρ', σ', F₃, inv.done _ _ hJ⟩
 · have hi : i < xs.length := by omega
   have hx : xs[i]? = some xs[i] := List.getElem?_eq_getElem hi
   refine itr_next ok F' fr' (inv.src _ _ _ hJ) it' hx fun v s₃ hv F₃ it₃ => itr_owned it₃ ?_
   have S := F₃.sub_ice ok fun _ _ e => e
   have T := inv.turn _ i _ ρ' σ' S (ok.ice F₃) hx hJ v hv s₃ F₃.ice
   rw [S.env] at T
   refine wpAny_mono T (fun _ s₄ => ex2 fun ρ₄ σ₄ => an2 fun F₄ h₄ => ?_) fun _ _ x => x.elim
   have T' := h₄ s₄ F₄
   rw [S.env] at T'
   refine wpAny_mono T' (fun f s₅ => ex2 fun ρ₅ σ₅ => an2 fun F₅ h₅ => ?_) fun _ _ x => x.elim
   obtain ⟨ob, hob⟩ := it₃.get
   have hice : (c.ice σ' s₃.heap).h₀.get? I = some ob := ice_get.mpr ⟨hob, fr'.1, fr'.2.2⟩
   obtain ⟨z1, z2⟩ := F₅.iced hice
   have F₆ := F₅.melt S
   have nx : J (i + 1) ρ₅ σ₅ → ∃ m', m' < m ∧ ∃ i ρ' σ', m' + i = xs.length ∧ J i ρ' σ' ∧ Fm prog w c ρ' σ' s₅ ∧ Free c σ' I ∧ Itr k xs.length I i s₅.heap := fun hJ' =>
    ⟨m - 1, by omega, i + 1, ρ₅, σ₅, by omega, hJ', F₆, ⟨z1, fr'.2⟩, it₃.same (z2.trans hob.symm)⟩
   cases f with
   | next => exact nx h₅
   | cont => exact nx h₅
   | brk => exact ⟨ρ₅, σ₅, F₆, h₅⟩
   | ret v => exact ⟨ρ₅, σ₅, F₆, h₅⟩
theorem S_while {test : PySem.Expr} {body : List PySem.Stmt} {pos : Pos} {Q : Out → Loc → Sig → Prop} (J : Nat → Loc → Sig → Prop) (m : Nat) (h0 : J m ρ σ)
 (turn : ∀ m ρ σ, J m ρ σ → TST prog w c ρ σ test fun b σ₁ => if b = true then STS prog w c ρ σ₁ body (LoopQ (fun ρ₂ σ₂ => ∃ m', m' < m ∧ J m' ρ₂ σ₂) Q) else Q .next ρ σ₁) : ST prog w c ρ σ (.While test body [] pos) Q := by
 intro s F
 refine wpAny_While (codeAny_whileLoop (fun m s' => ∃ ρ' σ', J m ρ' σ' ∧ Fm prog w c ρ' σ' s') ?_ m ⟨ρ, σ, h0, F⟩)
 refine fun m s' => ex2 fun ρ' σ' => ?_; rintro ⟨hJ, F'⟩
 refine TE.use (turn m ρ' σ' hJ) F' fun b s₂ σ₂ F₂ h₂ => ?_
 cases b with
 | false =>
  simp only [Bool.false_eq_true, if_false] at h₂ ⊢
  exact wpAny_execs_nil ⟨_, _, F₂, h₂⟩
 | true =>
  simp only [if_true] at h₂ ⊢
  refine TS.use h₂ F₂ fun f s₃ ρ₃ σ₃ F₃ h₃ => ?_
  have nx : (∃ m', m' < m ∧ J m' ρ₃ σ₃) → ∃ m', m' < m ∧ ∃ ρ' σ', J m' ρ' σ' ∧ Fm prog w c ρ' σ' s₃ := ex1 fun m' => an2 fun a b => ⟨m', a, _, _, b, F₃⟩
  cases f with
  | next => exact nx h₃
  | cont => exact nx h₃
  | brk => exact ⟨_, _, F₃, h₃⟩
  | ret v => exact ⟨_, _, F₃, h₃⟩
end
noncomputable def closFrom (env : Env) : List (Str × NameKind) → List (Str × Addr) → List (Str × Addr)
 | [], acc => acc
 | (x, k) :: r, acc => if k == .free then closFrom env r ((x, (env.cells.lookup x).getD 0) :: acc) else closFrom env r acc
theorem closFrom_of {env : Env} {x : Str} {a : Addr} : ∀ {names : List (Str × NameKind)} {acc}, (x, a) ∈ closFrom env names acc → ((x, NameKind.free) ∈ names ∧ a = (env.cells.lookup x).getD 0) ∨ (x, a) ∈ acc
 | [], acc, h => .inr h
 | (y, k) :: r, acc, h => by
  unfold closFrom at h
  split at h
  · rename_i hk
    rcases closFrom_of h with h | h
    · exact .inl ⟨List.mem_cons_of_mem _ h.1, h.2⟩
    · rcases List.mem_cons.mp h with e | h
      · cases e; exact .inl ⟨by rw [beq_iff_eq.mp hk]; exact List.mem_cons_self, rfl⟩
      · exact .inr h
  · rcases closFrom_of h with h | h
    · exact .inl ⟨List.mem_cons_of_mem _ h.1, h.2⟩
    · exact .inr h
theorem closFrom_keeps {env : Env} {x : Str} {a : Addr} : ∀ {names : List (Str × NameKind)} {acc}, (x, a) ∈ acc → (x, a) ∈ closFrom env names acc
 | [], acc, h => h
 | (y, k) :: r, acc, h => by
  unfold closFrom
  split
  · exact closFrom_keeps (List.mem_cons_of_mem _ h)
  · exact closFrom_keeps h
theorem closFrom_has {env : Env} {x : Str} : ∀ {names : List (Str × NameKind)} {acc}, (x, NameKind.free) ∈ names → (x, (env.cells.lookup x).getD 0) ∈ closFrom env names acc
 | (y, k) :: r, acc, h => by
  unfold closFrom
  rcases List.mem_cons.mp h with e | h
  · cases e
    rw [if_pos (by rfl)]
    exact closFrom_keeps List.mem_cons_self
  · split
    · exact closFrom_has h
    · exact closFrom_has h
theorem closureFor_of {env : Env} (f : Str × NameKind → List (Str × Addr) → Sem (ForInStep (List (Str × Addr))))
 (hf : ∀ x k cs, f (x, k) cs = if k == .free then (do let a ← cellOf env x; pure (.yield ((x, a) :: cs))) else pure (.yield cs)) :
 ∀ (names : List (Str × NameKind)) (acc : List (Str × Addr)), (∀ x, (x, NameKind.free) ∈ names → (env.cells.lookup x).isSome = true) → forIn names acc f = (pure (closFrom env names acc) : Sem _)
 | [], acc, _ => rfl
 | (x, k) :: r, acc, h => by
  rw [List.forIn_cons, hf]
  have hr := fun y hy => h y (List.mem_cons_of_mem _ hy)
  unfold closFrom
  cases hk : k == NameKind.free with
  | true =>
   obtain ⟨a, ha⟩ := Option.isSome_iff_exists.mp (h x (by rw [← beq_iff_eq.mp hk]; exact List.mem_cons_self))
   have e : cellOf env x = pure a := by unfold cellOf; rw [ha]
   simp only [if_true, e, ha]
   exact closureFor_of f hf r _ hr
  | false =>
   simp only [Bool.false_eq_true, if_false]
   exact closureFor_of f hf r _ hr
theorem closureFor_eq {env : Env} {scope : Scope} (h : ∀ x, (x, NameKind.free) ∈ scope.names → (env.cells.lookup x).isSome = true) : closureFor scope env = pure (closFrom env scope.names []) := by
 simp only [closureFor]
 rw [closureFor_of _ (fun x k cs => by cases hkc : k == NameKind.free <;> simp [hkc]) _ _ h]
 rfl
theorem pushCells_of {x : Str} {a : Addr} : ∀ {names : List (Str × NameKind)} {h : Heap} {acc}, (x, a) ∈ cellsFrom h.objs.size names acc → (x, a) ∈ acc ∨ ((pushCells h names).IsCell a none ∧ h.objs.size ≤ a ∧ (x, NameKind.cell) ∈ names)
 | [], h, acc, m => .inl m
 | (y, k) :: r, h, acc, m => by
  unfold cellsFrom at m
  unfold pushCells
  split at m
  · rename_i hk
    rw [if_pos hk]
    have z := pushCells_of (h := h.push { cls := .type "cell", data := .cell none }) (names := r) (acc := (y, h.objs.size) :: acc) (by rw [Heap.size_push]; exact m)
    rw [Heap.size_push] at z
    rcases z with z | ⟨z1, z2, z3⟩
    · rcases List.mem_cons.mp z with e | z
      · cases e
        refine .inr ⟨?_, Nat.le_refl _, by rw [beq_iff_eq.mp hk]; exact List.mem_cons_self⟩
        exact ⟨_, pushCells_keeps _ _ _ _ (Heap.get?_push_size _ rfl), rfl⟩
      · exact .inl z
    · exact .inr ⟨z1, by omega, List.mem_cons_of_mem _ z3⟩
  · rename_i hk
    rw [if_neg hk]
    rcases pushCells_of m with z | ⟨z1, z2, z3⟩
    · exact .inl z
    · exact .inr ⟨z1, z2, List.mem_cons_of_mem _ z3⟩
theorem wpAny_compEnv {M : Model} {A : Around} {EE : Value → Shared → Prop} {s : Shared} {scope : Scope} {globals : Addr} {cl : List (Str × Addr)} {qual : Str} {around : Env} {Q : Env → Shared → Prop}
 (h : ∀ h', h'.Ns s.heap.objs.size (fun _ => none) → (∀ b o, s.heap.get? b = some o → h'.get? b = some o) →
  (∀ x a, (x, a) ∈ cellsFrom (s.heap.objs.size + 1) scope.names cl → (x, a) ∈ cl ∨ (h'.IsCell a none ∧ s.heap.objs.size < a ∧ (x, NameKind.cell) ∈ scope.names)) →
  Q { scope, locals := s.heap.objs.size, globals, cells := cellsFrom (s.heap.objs.size + 1) scope.names cl, qual, func := none, code := around.code, frame := around.frame, builtins := around.builtins } { s with heap := h' }) :
 wpAny M A (newFunctionEnv scope globals cl [] qual none .none (some around)) Q EE s := by
 simp only [newFunctionEnv, Option.isSome_some, if_true]
 refine wpAny_bind (wpAny_alloc ?_)
 refine wpAny_bind (wpAny_layCells _ (fun name kind cells => by cases hkc : kind == NameKind.cell <;> simp [hkc]) _ _ _ _ ?_)
 refine wpAny_bind (wpAny_pure (wpAny_pure ?_))
 have sz : (s.heap.push { cls := .type "dict", data := .dict #[] } : Heap).objs.size = s.heap.objs.size + 1 := Heap.size_push ..
 dsimp only
 rw [sz]
 refine h _ ((Heap.Ns.new s.heap (.type "dict")).keeps (pushCells_keeps _ _)) (fun b o e => pushCells_keeps _ _ b o (Heap.get?_push_of_some _ e)) fun x a m => ?_
 rw [← sz] at m
 rcases pushCells_of m with z | ⟨z1, z2, z3⟩
 · exact .inl z
 · rw [sz] at z2; exact .inr ⟨z1, z2, z3⟩
noncomputable def compOk (sc : Scope) (iter : Str) (cap gls : List Str) : Bool :=
 sc.kind == .function && decide (iter :: cap).Nodup && (sc.names.lookup iter == some .local || sc.names.lookup iter == some .cell) && (iter :: cap).all (fun x => x != ("__debug__" : Str)) &&
 (sc.names.all fun p => p.2 != .local || sc.names.lookup p.1 == some .local) &&
 (sc.names.all fun p => p.2 != .cell || (p.1 == iter && sc.names.lookup p.1 == some .cell)) &&
 (sc.names.all fun p => p.2 != .free || (cap.contains p.1 && sc.names.lookup p.1 == some .free)) &&
 (cap.all fun x => sc.names.lookup x == some .free) &&
 (gls.all fun x => sc.names.lookup x == some .globalImplicit && x != ("__debug__" : Str))
theorem relabel_lookup {env : Env} {x : Str} {k : NameKind} : ∀ {names : List (Str × NameKind)}, names.lookup x = some k →
 (names.map fun (n, k) => if (k == NameKind.free && env.scope.kind == .function && env.kindOf n == some .cell) then (n, NameKind.cell) else (n, k)).lookup x = some (if (k == NameKind.free && env.scope.kind == .function && env.kindOf x == some .cell) then NameKind.cell else k)
 | [], h => by simp at h
 | (n, k') :: r, h => by
  rw [List.map_cons]
  dsimp only
  rw [List.lookup_cons] at h
  cases hx : x == n with
  | true =>
   rw [hx] at h
   obtain rfl : k' = k := by simpa using h
   obtain rfl := beq_iff_eq.mp hx
   by_cases hc : (k' == NameKind.free && env.scope.kind == .function && env.kindOf x == some .cell) = true
   · rw [if_pos hc, if_pos hc, List.lookup_cons]; simp
   · rw [if_neg hc, if_neg hc, List.lookup_cons]; simp
  | false =>
   rw [hx] at h
   have ih := relabel_lookup (env := env) (names := r) h
   by_cases hc : (k' == NameKind.free && env.scope.kind == .function && env.kindOf n == some .cell) = true
   · rw [if_pos hc, List.lookup_cons, hx]; exact ih
   · rw [if_neg hc, List.lookup_cons, hx]; exact ih
section
variable {n : Nat} {c c' : Cx} {ρ ρ' : Loc} {σ σ' τ : Sig} {s s' : Shared}
noncomputable def IFS (prog : Program) (w : World) (c : Cx) (ρ : Loc) (σ : Sig) (ifs : List PySem.Expr) (Q : Bool → Sig → Prop) : Prop :=
 TE prog w c ρ σ (forIn ifs true fun t r => if r = true then do let ok ← isTrue t c.env (eval t c.env); pure (ForInStep.yield ok) else pure (ForInStep.yield r)) Q
theorem Yt {Q : Bool → Sig → Prop} (h : Q true σ) : IFS prog w c ρ σ [] Q := fun s F => wpAny_pure ⟨σ, F, h⟩
theorem IFS_one {t : PySem.Expr} {Q : Bool → Sig → Prop} (h : TST prog w c ρ σ t Q) : IFS prog w c ρ σ [t] Q := fun s F => wpAny_tests_one (h s F)
noncomputable def capRho (cap : List (Str × V)) : Loc := cap.map fun p => (p.1, some p.2)
structure CompInv (prog : Program) (w : World) (K : Frag) (n : Nat) (sc : Scope) (iter : Str) (cap : List (Str × V)) (gl : List (Str × V)) (ifs : List PySem.Expr) (elt : PySem.Expr) (k : SK) (xs : List V) (J : Nat → List V → Sig → Prop) : Prop where
 src : ∀ i ys σ, J i ys σ → Src σ k xs
 turn : ∀ (c' : Cx) i x ys σ, c'.Ok prog w K n → c'.gl = gl → (∀ y ∈ cap.map (·.1), c'.env.kindOf y = some .cell) → c'.env.kindOf iter = sc.names.lookup iter → xs[i]? = some x → J i ys σ →
  IFS prog w c' ((iter, some x) :: capRho cap) σ ifs fun b σ₁ => if b = true then EX prog w c' ((iter, some x) :: capRho cap) σ₁ elt (fun y σ₂ => J (i + 1) (ys ++ [y]) σ₂) else J (i + 1) ys σ₁
theorem itr_self {k : SK} {m : Nat} {I : Addr} {i : Nat} {A : Around} (it : Itr k m I i s.heap) {Q : Value → Shared → Prop} {EE : Value → Shared → Prop} (hQ : Q (.ref I) s) : wpAny (model prog w) A (pyIter (.ref I)) Q EE s := by
 cases k with
 | list l => exact wpAny_pyIter_listiter it hQ
 | tup l => exact wpAny_pyIter_tupleiter it hQ
 | rng lo hi => exact wpAny_pyIter_rangeiter it hQ
theorem lookup_of_mem {α : Type} {x : Str} {a : α} : ∀ {l : List (Str × α)}, (x, a) ∈ l → ∃ b, l.lookup x = some b
 | (y, b) :: r, h => by
  rw [List.lookup_cons]
  cases q : x == y with
  | true => exact ⟨b, rfl⟩
  | false =>
   rcases List.mem_cons.mp h with e | h
   · cases e; simp at q
   · exact lookup_of_mem h
theorem cellsFrom_keeps {p : Str × Addr} : ∀ {names : List (Str × NameKind)} {m : Nat} {acc}, p ∈ acc → p ∈ cellsFrom m names acc
 | [], m, acc, h => h
 | (y, k) :: r, m, acc, h => by
  unfold cellsFrom
  split
  · exact cellsFrom_keeps (List.mem_cons_of_mem _ h)
  · exact cellsFrom_keeps h
theorem cellsFrom_has {x : Str} : ∀ {names : List (Str × NameKind)} {m : Nat} {acc}, (x, NameKind.cell) ∈ names → ∃ a, (x, a) ∈ cellsFrom m names acc
 | (y, k) :: r, m, acc, h => by
  unfold cellsFrom
  rcases List.mem_cons.mp h with e | h
  · cases e
    rw [if_pos (by rfl)]
    exact ⟨m, cellsFrom_keeps List.mem_cons_self⟩
  · split
    · exact cellsFrom_has h
    · exact cellsFrom_has h
theorem Fm.sub_ice' (F : Fm prog w c ρ σ s) (ok : c.Ok prog w K n) (le : ∀ b, τ b ≠ none → c.h₀.get? b = none) : Sim c (c.ice τ s.heap) := by
 refine ⟨rfl, fun b o e => ice_get.mpr ⟨F.keep b o e, ?_, ?_, ?_⟩⟩
 · cases q : τ b with
   | none => rfl
   | some x => rw [le b (by rw [q]; simp)] at e; cases e
 · rintro rfl; rw [ok.fresh.1] at e; cases e
 · intro x hx; rw [(ok.fresh.2 x b hx).1] at e; cases e
theorem Cx.Ok.ice' (ok : c.Ok prog w K n) (S : Sim c (c.ice τ s.heap)) : (c.ice τ s.heap).Ok prog w K n where
 base := ok.base.keeps S.sub
 kind := ok.kind
 glob := ok.glob
 nodup := ok.nodup
 loc := ok.loc
 dbg := ok.dbg
 gls := ok.gls
 fresh := ⟨ice_none (.inr (.inl rfl)), fun x a h => ⟨ice_none (.inr (.inr ⟨x, h⟩)), (ok.fresh.2 x a h).2⟩⟩
 cin := ok.cin
 apart := ok.apart
 hd := ok.hd
 dep := ok.dep
 uni := ok.uni
theorem Fm.ice' (F : Fm prog w c ρ σ s) (le : ∀ b, σ b ≠ none → τ b ≠ none) : Fm prog w (c.ice τ s.heap) ρ σ s where
 names := F.names
 ns := F.ns
 cl := F.cl
 keep := fun b o e => (ice_get.mp e).1
 own := F.own
 free := fun a o e => ⟨ice_none (.inl (le a (by rw [e]; simp))), (F.free a o e).2⟩
 gens := F.gens
 os := F.os
theorem Sig.set_some {σ : Sig} {a b : Addr} {o : AObj} (h : σ b ≠ none) : σ.set a o b ≠ none := by
 by_cases q : b = a
 · subst q; rw [Ya]; simp
 · rw [Yd q]; exact h
theorem comp_block (ok : c.Ok prog w K n) (F : Fm prog w c ρ σ s) {elt iterE : PySem.Expr} {x : Str} {px : Pos} {ifs : List PySem.Expr} {scope : Scope} {pos : Pos} {v : Value} {cap gl' : List (Str × V)} {k : SK} {xs : List V} {J : Nat → List V → Sig → Prop}
 {EE : Value → Shared → Prop} {RR : Value → Addr → Result → Shared → Prop}
 (hsc : compOk scope x (cap.map (·.1)) (gl'.map (·.1)) = true) (hcap : ∀ p ∈ cap, (p.1, some p.2) ∈ ρ ∧ c.env.kindOf p.1 = some .cell) (hgl : ∀ p ∈ gl', GV K p.1 p.2)
 (hsrc : SrcOf σ (E v) k xs) (h0 : J 0 [] σ) (inv : CompInv prog w K n scope x cap gl' ifs elt k xs J) (hlen : xs.length ≤ sizeLine)
 (hRR : ∀ D C ys σ' s' m, Fm prog w c ρ σ' s' → J xs.length ys σ' → Rep prog w (.list ys) D s'.heap → Free c σ' D → s'.heap.Ns C m → Free c σ' C → C ≠ D → RR (.ref D) C (.ok .next) s') :
 wpAny (model prog w) c.A (pyIter v) (fun it s₂ => wpAny (model prog w) c.A (newList []) (fun acc s₃ => wpAny (model prog w) c.A (newFunctionEnv scope c.env.globals (closFrom c.env scope.names []) [] c.env.qual none .none (some c.env)) (fun cenv s₄ =>
  codeAny (model prog w) c.A (.compStart (.ListComp elt [⟨.Name x px, iterE, ifs, 0⟩] scope pos) 0 it acc { cenv with scope := relabel scope c.env }) (RR acc cenv.locals) s₄) EE s₃) EE s₂) EE s := by
 simp only [compOk, Bool.and_eq_true, beq_iff_eq, decide_eq_true_eq, List.all_eq_true, Bool.or_eq_true, bne_iff_ne, ne_eq] at hsc
 obtain ⟨⟨⟨⟨⟨⟨⟨⟨sk, snd⟩, sx⟩, sdb⟩, slo⟩, sce⟩, sfr⟩, sca⟩, sgl⟩ := hsc
 refine itr_start ok F hsrc fun I s₂ F₂ frI it₂ => ?_
 refine wpAny_newObj_type ?_
 refine wpAny_compEnv fun h₄ hns hup hcells => ?_
 dsimp only at hns hup hcells ⊢
 have hxcap : x ∉ cap.map (·.1) := (List.nodup_cons.mp snd).1
 have frD : Free c σ s₂.heap.objs.size := F₂.free_new ok (get_size_none _)
 have F₃ := F₂.grow (h' := s₂.heap.push { cls := .type "list", dict := none, data := .seq ([] : List Value).toArray }) (t := s₂.toks) fun b ob e => Heap.get?_push_of_some _ e
 have frL := F₃.free_new ok (get_size_none _)
 have hupp : ∀ b ob, s₂.heap.get? b = some ob → h₄.get? b = some ob := fun b ob e => hup b ob (Heap.get?_push_of_some _ e)
 have hD : h₄.get? s₂.heap.objs.size = some { cls := .type "list", dict := none, data := .seq ([] : List Value).toArray } := hup _ _ (Heap.get?_push_size _ rfl)
 dsimp only at frL
 rw [Heap.size_push] at hns hcells frL ⊢
 have F₄ : Fm prog w c ρ σ { s₂ with heap := h₄ } := F₂.grow (t := s₂.toks) hupp
 clear hup F₃
 generalize hDd : s₂.heap.objs.size = D at *
 generalize hcs : cellsFrom (D + 1 + 1) scope.names (closFrom c.env scope.names []) = cells at *
 have ltD : ∀ b ob, s₂.heap.get? b = some ob → b < D := fun b ob e => hDd ▸ Heap.lt_size e
 have capLoc : ∀ y, y ∈ cap.map (·.1) → ∃ u, (y, some u) ∈ ρ ∧ c.env.kindOf y = some .cell ∧ (y, u) ∈ cap ∧ ∃ a ob, c.env.cells.lookup y = some a ∧ s₂.heap.get? a = some ob := by
  intro y hy
  obtain ⟨p, hp, rfl⟩ := List.mem_map.mp hy
  obtain ⟨h1, h2⟩ := hcap p hp
  refine (ex2 fun a z => an3 fun h3 => ?_) (F₂.cl _ h1 h2); rintro ⟨ob, h4, _⟩; intro _
  exact ⟨p.2, h1, h2, hp, a, ob, h3, h4⟩
 have inc : ∀ y a, cells.lookup y = some a → (y ∈ cap.map (·.1) ∧ c.env.cells.lookup y = some a) ∨ (y = x ∧ scope.names.lookup x = some .cell ∧ h₄.IsCell a none ∧ D + 1 < a) := by
  intro y a hy
  rcases hcells y a (PySem.mem_of_lookup hy) with m | ⟨m1, m2, m3⟩
  · rcases closFrom_of m with ⟨m1, m2⟩ | m
    · rcases sfr _ m1 with z | ⟨z1, z2⟩
      · exact absurd rfl z
      · have z3 := List.contains_iff_mem.mp z1
        refine (ex1 fun _ => an4 fun _ _ _ => ex2 fun a' _ => ?_) (capLoc y z3); rintro ⟨h3, _⟩
        refine .inl ⟨z3, ?_⟩
        rw [m2, h3]; rfl
    · cases m
  · rcases sce _ m3 with z | ⟨z1, z2⟩
    · exact absurd rfl z
    · dsimp only at z1 z2
      subst z1
      exact .inr ⟨rfl, z2, m1, m2⟩
 have has : ∀ y, y ∈ cap.map (·.1) → ∃ a, cells.lookup y = some a ∧ c.env.cells.lookup y = some a := by
  intro y hy
  have e1 := sca y hy
  have m : (y, (c.env.cells.lookup y).getD 0) ∈ cells := hcs ▸ cellsFrom_keeps (closFrom_has (PySem.mem_of_lookup e1))
  obtain ⟨a, ha⟩ := lookup_of_mem m
  rcases inc y a ha with ⟨_, z⟩ | ⟨z, _⟩
  · exact ⟨a, ha, z⟩
  · exact absurd (z ▸ hy) hxcap
 let cenv : Env := { scope := relabel scope c.env, locals := D + 1, globals := c.env.globals, cells := cells, qual := c.env.qual, func := none, code := c.env.code, frame := c.env.frame, builtins := c.env.builtins }
 let c₀ : Cx := { A := c.A, env := cenv, h₀ := c.h₀, os := c.os, lns := x :: cap.map (·.1), gl := gl' }
 let c₁ : Cx := c₀.ice ((σ.set D (.list [])).set I (.list [])) h₄
 have kcap : ∀ y, y ∈ cap.map (·.1) → cenv.kindOf y = some .cell := by
  intro y hy
  refine (ex1 fun _ => an3 fun _ h2 _ => ?_) (capLoc y hy)
  refine (relabel_lookup (env := c.env) (sca y hy)).trans ?_
  rw [h2, ok.kind]; rfl
 have kx : cenv.kindOf x = scope.names.lookup x := by
  rcases sx with e | e
  · exact (relabel_lookup (env := c.env) e).trans (by rw [e]; rfl)
  · exact (relabel_lookup (env := c.env) e).trans (by rw [e]; rfl)
 have nI : I < D := by obtain ⟨ob, e⟩ := it₂.get; exact ltD _ _ e
 have frz : ∀ b ob, s₂.heap.get? b = some ob → σ b = none → b ≠ I → (∀ y, c.env.cells.lookup y = some b → y ∉ cap.map (·.1)) → c₁.h₀.get? b = some ob := by
  intro b ob e hσ hI hc
  have lt := ltD _ _ e
  refine ice_get.mpr ⟨hupp _ _ e, ?_, Nat.ne_of_lt (Nat.lt_succ_of_lt lt), fun y hy => ?_⟩
  · rw [Yd hI, Yd (Nat.ne_of_lt lt)]; exact hσ
  · rcases inc y b hy with ⟨z1, z2⟩ | ⟨_, _, _, z⟩
    · exact hc y z2 z1
    · exact absurd (Nat.lt_trans lt (Nat.lt_of_succ_lt z)) (Nat.lt_irrefl _)
 have base₁ : ∀ b ob, c.h₀.get? b = some ob → c₁.h₀.get? b = some ob := by
  intro b ob e
  refine frz b ob (F₂.keep b ob e) ?_ ?_ ?_
  · cases q : σ b with
    | none => rfl
    | some z => rw [(F₂.free b z q).1] at e; cases e
  · rintro rfl; rw [frI.2.1] at e; cases e
  · intro y hy; rw [(ok.fresh.2 y b hy).1] at e; cases e
 have ok₁ : c₁.Ok prog w K n := by
  refine ⟨ok.base.keeps base₁, sk, ok.glob, snd, fun y hy => ?_, fun y hy => beq_eq_false_iff_ne.mpr (sdb y hy), fun p hp => ⟨?_, ?_, hgl p hp⟩, ⟨ice_none (.inr (.inl rfl)), fun y a hy => ⟨ice_none (.inr (.inr ⟨y, hy⟩)), ?_⟩⟩, fun y a hy => ?_, fun y z a hy hz => ?_, ok.hd, ok.dep, ok.uni⟩
  · rcases List.mem_cons.mp hy with rfl | hy
    · rcases sx with e | e
      · exact .inl (kx.trans e)
      · obtain ⟨a, ha⟩ := cellsFrom_has (m := D + 1 + 1) (acc := closFrom c.env scope.names []) (PySem.mem_of_lookup e)
        rw [hcs] at ha
        obtain ⟨b, hb⟩ := lookup_of_mem ha
        exact .inr ⟨kx.trans e, b, hb⟩
    · obtain ⟨a, ha, _⟩ := has y hy
      exact .inr ⟨kcap y hy, a, ha⟩
  · have e := sgl p.1 (List.mem_map_of_mem hp)
    exact (relabel_lookup (env := c.env) e.1).trans (by rfl)
  · exact beq_eq_false_iff_ne.mpr (sgl p.1 (List.mem_map_of_mem hp)).2
  · rcases inc y a hy with ⟨_, z⟩ | ⟨_, _, _, z⟩
    · rintro rfl; exact frL.2.2.2 y z
    · exact Nat.ne_of_gt z
  · rcases inc y a hy with ⟨z1, z2⟩ | ⟨z1, z2, _⟩
    · exact ⟨List.mem_cons_of_mem _ z1, kcap y z1⟩
    · subst z1; exact ⟨List.mem_cons_self, kx.trans z2⟩
  · have capLt : ∀ y a, y ∈ cap.map (·.1) → c.env.cells.lookup y = some a → a < D := by
     intro y a hy ha
     refine (ex1 fun _ => an4 fun _ _ _ => ex2 fun a' ob => ?_) (capLoc y hy); rintro ⟨h3, h4⟩
     rw [ha] at h3; cases h3
     exact ltD _ _ h4
    rcases inc y a hy with ⟨y1, y2⟩ | ⟨y1, _, _, y4⟩ <;> rcases inc z a hz with ⟨z1, z2⟩ | ⟨z1, _, _, z4⟩
    · exact ok.apart y z a y2 z2
    · exact absurd (Nat.lt_trans (capLt y a y1 y2) (Nat.lt_of_succ_lt z4)) (Nat.lt_irrefl _)
    · exact absurd (Nat.lt_trans (capLt z a z1 z2) (Nat.lt_of_succ_lt y4)) (Nat.lt_irrefl _)
    · rw [y1, z1]
 have ltσ : ∀ a o, σ a = some o → a < D := by
  intro a o e
  obtain ⟨ob, q⟩ := (F₂.own a o e).get
  exact ltD _ _ q
 have G : Fm prog w c₁ ((x, none) :: capRho cap) σ { s₂ with heap := h₄ } := by
  refine ⟨by simp [capRho, List.map_map, Function.comp_def]; rfl, ⟨_, hns, fun p hp hk => ?_⟩, fun p hp hk => ?_, fun b o e => (ice_get.mp e).1, F₄.own, fun a o e => ⟨ice_none (.inl ?_), ?_, fun y hy => ?_⟩, F₄.gens, F₄.os⟩
  · rcases List.mem_cons.mp hp with rfl | hp
    · rfl
    · obtain ⟨q, hq, rfl⟩ := List.mem_map.mp hp
      have := kcap q.1 (List.mem_map_of_mem hq)
      have hk' : cenv.kindOf q.1 = some .local := hk
      rw [this] at hk'; cases hk'
  · rcases List.mem_cons.mp hp with rfl | hp
    · have hk' : scope.names.lookup x = some .cell := kx.symm.trans hk
      obtain ⟨a, ha⟩ := cellsFrom_has (m := D + 1 + 1) (acc := closFrom c.env scope.names []) (PySem.mem_of_lookup hk')
      rw [hcs] at ha
      obtain ⟨b, hb⟩ := lookup_of_mem ha
      rcases inc x b hb with ⟨z, _⟩ | ⟨_, _, z, _⟩
      · exact absurd z hxcap
      · exact ⟨b, none, hb, z, rfl⟩
    · obtain ⟨q, hq, rfl⟩ := List.mem_map.mp hp
      obtain ⟨a, h1, h2⟩ := has q.1 (List.mem_map_of_mem hq)
      obtain ⟨h3, h4⟩ := hcap q hq
      refine (ex2 fun a' z => an3 fun h5 h6 h7 => ?_) (F₄.cl _ h3 h4)
      dsimp only at h5
      rw [h2] at h5; cases h5
      exact ⟨a, z, h1, h6, h7⟩
  · exact Sig.set_some (Sig.set_some (by rw [e]; simp))
  · exact Nat.ne_of_lt (Nat.lt_succ_of_lt (ltσ a o e))
  · rcases inc y a hy with ⟨_, z⟩ | ⟨_, _, _, z⟩
    · exact (F₂.free a o e).2.2 y z
    · exact absurd (Nat.lt_trans (ltσ a o e) (Nat.lt_of_succ_lt z)) (Nat.lt_irrefl _)
 have back : ∀ {o σ' s'}, Fm prog w c₁ ((x, o) :: capRho cap) σ' s' → Fm prog w c ρ σ' s' := by
  intro o σ' s' F'
  have locz : ∃ ob, s₂.heap.get? c.env.locals = some ob ∧ c₁.h₀.get? c.env.locals = some ob := by
   obtain ⟨m, ⟨ob, es, ep, e, _⟩, _⟩ := F₂.ns
   refine ⟨ob, e, frz _ _ e ?_ (Ne.symm frI.2.2.1) fun y hy => absurd rfl (ok.fresh.2 y _ hy).2⟩
   cases q : σ c.env.locals with
   | none => rfl
   | some z => exact absurd rfl (F₂.free _ z q).2.1
  have cellz : ∀ y a, c.env.cells.lookup y = some a → y ∉ cap.map (·.1) → ∃ ob, s₂.heap.get? a = some ob ∧ c₁.h₀.get? a = some ob := by
   intro y a hy hn
   obtain ⟨hl, hk⟩ := ok.cin y a hy
   rw [← F₂.names] at hl
   obtain ⟨p, hp, rfl⟩ := List.mem_map.mp hl
   refine (ex2 fun a' z => an3 fun h1 => ?_) (F₂.cl p hp hk); rintro ⟨ob, h2, _⟩; intro _
   rw [hy] at h1; cases h1
   refine ⟨ob, h2, frz _ _ h2 ?_ ?_ ?_⟩
   · cases q : σ a with
     | none => rfl
     | some z => exact absurd hy ((F₂.free _ z q).2.2 _)
   · rintro rfl; exact frI.2.2.2 _ hy
   · intro z hz hm; exact hn (ok.apart z p.1 a hz hy ▸ hm)
  refine ⟨F.names, ?_, ?_, fun b ob e => F'.keep b ob (base₁ b ob e), F'.own, fun a ob e => ⟨?_, ?_, fun y hy => ?_⟩, F'.gens, F'.os⟩
  · obtain ⟨ob, e1, e2⟩ := locz
    obtain ⟨m, hn, hm⟩ := F₂.ns
    exact ⟨m, hn.at' fun o' e => by rw [e1] at e; cases e; exact F'.keep _ _ e2, hm⟩
  · intro p hp hk
    by_cases hm : p.1 ∈ cap.map (·.1)
    · obtain ⟨a, h1, h2⟩ := has p.1 hm
      refine (ex1 fun u => an4 fun h3 _ h5 _ => ?_) (capLoc p.1 hm)
      have hmem : (p.1, some u) ∈ (x, o) :: capRho cap := List.mem_cons_of_mem _ (List.mem_map.mpr ⟨(p.1, u), h5, rfl⟩)
      refine (ex2 fun a' z => an3 fun h6 h7 h8 => ?_) (F'.cl _ hmem (kcap p.1 hm))
      have h6' : cells.lookup p.1 = some a' := h6
      rw [h1] at h6'; cases h6'
      refine ⟨a, z, h2, h7, h8.trans ?_⟩
      refine (ex2 fun a2 z2 => an3 fun q1 q2 q3 => ?_) (F₂.cl p hp hk)
      refine (ex2 fun a3 z3 => an3 fun r1 r2 r3 => ?_) (F₂.cl _ h3 hk)
      dsimp only at r1 r3
      rw [q1] at r1; cases r1
      obtain ⟨o1, x1, x2⟩ := q2
      obtain ⟨o2, y1, y2⟩ := r2
      rw [x1] at y1; cases y1
      rw [x2] at y2; cases y2
      rw [← r3]; exact q3
    · refine (ex2 fun a z => an3 fun h1 => ?_) (F₂.cl p hp hk); rintro ⟨ob, h2, h3⟩; intro h4
      obtain ⟨ob', e1, e2⟩ := cellz p.1 a h1 hm
      rw [h2] at e1; cases e1
      exact ⟨a, z, h1, ⟨ob, F'.keep _ _ e2, h3⟩, h4⟩
  · have := (F'.free a ob e).1
    cases q : c.h₀.get? a with
    | none => rfl
    | some z => rw [base₁ a z q] at this; cases this
  · rintro rfl
    obtain ⟨z, _, e2⟩ := locz
    have := (F'.free _ ob e).1
    rw [e2] at this; cases this
  · by_cases hm : y ∈ cap.map (·.1)
    · obtain ⟨a', h1, h2⟩ := has y hm
      rw [hy] at h2; cases h2
      exact (F'.free a ob e).2.2 y h1
    · obtain ⟨z, _, e2⟩ := cellz y a hy hm
      have := (F'.free _ ob e).1
      rw [e2] at this; cases this
 have it₄ : Itr k xs.length I 0 h₄ := by obtain ⟨ob, e⟩ := it₂.get; exact it₂.same ((hupp _ _ e).trans e.symm)
 have fI₁ : Free c₁ σ I := by
  refine ⟨frI.1, ice_none (.inl (by rw [Ya]; simp)), Nat.ne_of_lt (Nat.lt_succ_of_lt nI), fun y hy => ?_⟩
  rcases inc y I hy with ⟨_, z⟩ | ⟨_, _, _, z⟩
  · exact frI.2.2.2 y z
  · exact absurd (Nat.lt_trans nI (Nat.lt_of_succ_lt z)) (Nat.lt_irrefl _)
 have fD₁ : Free c₁ σ D := by
  refine ⟨frD.1, ice_none (.inl (Sig.set_some (by rw [Ya]; simp))), Nat.ne_of_lt (Nat.lt_succ_self _), fun y hy => ?_⟩
  rcases inc y D hy with ⟨_, z⟩ | ⟨_, _, _, z⟩
  · exact frD.2.2.2 y z
  · exact absurd (Nat.lt_of_succ_lt z) (Nat.lt_irrefl _)
 have hloop : codeAny (model prog w) c.A (.compLoop (.ListComp elt [⟨.Name x px, iterE, ifs, 0⟩] scope pos) 0 (.ref I) (.ref D) cenv) (RR (.ref D) (D + 1)) { s₂ with heap := h₄ } := by
  refine codeAny_compLoop_tests (fun m s' => ∃ i ys o σ', m + i = xs.length ∧ J i ys σ' ∧ Fm prog w c₁ ((x, o) :: capRho cap) σ' s' ∧ Free c₁ σ' I ∧ Free c₁ σ' D ∧ Itr k xs.length I i s'.heap ∧ Rep prog w (.list ys) D s'.heap ∧ ys.length ≤ i) ?_ xs.length
   ⟨0, [], none, σ, rfl, h0, G, fI₁, fD₁, it₄, ⟨#[], _, hD, rfl⟩, Nat.le_refl _⟩ (fun v => by rfl)
  refine fun m s' => ex4 fun i ys o σ' => an8 fun hm hJ F' fI fD it rD hys => ?_
  have nID : I ≠ D := Nat.ne_of_lt nI
  -- the walk's step, with D kept
  have S₂ : Sim c₁ (c₁.ice (σ'.set I (.list [])) s'.heap) := F'.sub_ice' ok₁ fun b hb => by
   by_cases q : b = I
   · subst q; exact fI.2.1
   · rw [Yd q] at hb
     cases z : σ' b with
     | none => exact absurd z hb
     | some ob => exact (F'.free b ob z).1
  have F'' : Fm prog w (c₁.ice (σ'.set I (.list [])) s'.heap) ((x, o) :: capRho cap) σ' s' := F'.ice' fun b hb => Sig.set_some hb
  have ok₂ := ok₁.ice' S₂
  have fI₂ : Free (c₁.ice (σ'.set I (.list [])) s'.heap) σ' I := ⟨fI.1, ice_none (.inl (by rw [Ya]; simp)), fI.2.2⟩
  obtain ⟨obD, eD⟩ := rD.get
  have iD₂ : (c₁.ice (σ'.set I (.list [])) s'.heap).h₀.get? D = some obD := ice_get.mpr ⟨eD, by rw [Yd (Ne.symm nID)]; exact fD.1, fD.2.2⟩
  rcases Nat.eq_zero_or_pos m with rfl | hpos
  · rw [Nat.zero_add] at hm
    subst hm
    refine itr_done ok₂ F'' fI₂ (inv.src _ _ _ hJ) it fun s₃ F₃ => ?_
    have F₃' := F₃.melt S₂
    have Fb := back F₃'
    have rD' := rD.same ((F₃.iced iD₂).2.trans eD.symm)
    obtain ⟨m, hn, _⟩ := F₃'.ns
    refine hRR D (D + 1) ys σ' s₃ m Fb hJ rD' ⟨fD.1, frD.2⟩ hn ⟨?_, frL.2⟩ (Nat.succ_ne_self _)
    cases q : σ' (D + 1) with
    | none => rfl
    | some z => exact absurd rfl (F₃'.free _ z q).2.1
  · have hi : i < xs.length := by omega
    have hx : xs[i]? = some xs[i] := List.getElem?_eq_getElem hi
    refine itr_next ok₂ F'' fI₂ (inv.src _ _ _ hJ) it hx fun v s₃ hv F₃ it₃ => ?_
    have F₃' := F₃.melt S₂
    have eD₃ : s₃.heap.get? D = some obD := (F₃.iced iD₂).2
    obtain ⟨obI, eI₃⟩ := it₃.get
    have S₃ := F₃'.sub_ice ok₁ fun _ _ e => e
    have ok₃ := ok₁.ice F₃'
    have iD₃ : (c₁.ice σ' s₃.heap).h₀.get? D = some obD := ice_get.mpr ⟨eD₃, fD.1, fD.2.2⟩
    have iI₃ : (c₁.ice σ' s₃.heap).h₀.get? I = some obI := ice_get.mpr ⟨eI₃, fI.1, fI.2.2⟩
    refine wpAny_assign_Name (F₃'.ice.store ok₃ (ρ' := (x, some xs[i]) :: capRho cap) .head hv fun s₄ F₄ => ?_)
    refine TE.use (inv.turn (c₁.ice σ' s₃.heap) i xs[i] ys σ' ok₃ rfl kcap kx hx hJ) F₄ fun b s₅ σ₁ F₅ h₅ => ?_
    cases b with
    | false =>
     simp only [Bool.false_eq_true, if_false] at h₅ ⊢
     obtain ⟨z1, z2⟩ := F₅.iced iD₃
     obtain ⟨z3, z4⟩ := F₅.iced iI₃
     exact ⟨m - 1, by omega, i + 1, ys, _, σ₁, by omega, h₅, F₅.melt S₃, ⟨z3, fI.2⟩, ⟨z1, fD.2⟩, it₃.same (z4.trans eI₃.symm), rD.same (z2.trans eD.symm), by omega⟩
    | true =>
     simp only [if_true] at h₅ ⊢
     refine TE.use h₅ F₅ fun y s₆ σ₂ F₆ h₆ => ?_
     obtain ⟨z1, z2⟩ := F₆.iced iD₃
     obtain ⟨z3, z4⟩ := F₆.iced iI₃
     refine (ex2 fun vs nn => ?_) (rD.same (h' := s₆.heap) (z2.trans eD.symm)); rintro ⟨e1, e2⟩
     have hvs : vs.size ≤ sizeLine := by
      have : vs.size = ys.length := by rw [← e2]; simp
      omega
     refine wpAny_list_append_plain ⟨nn, e1⟩ (fun h₇ hl₇ hs₇ => ?_) hvs
     have F₆' := F₆.melt S₃
     have F₇ := F₆'.but (t := s₆.toks) (h' := h₇) ⟨z1, fD.2⟩ fun b ob hb e => hs₇.extBut b ob hb e
     obtain ⟨n7, e7⟩ := hl₇
     refine ⟨m - 1, by omega, i + 1, ys ++ [E y], _, σ₂, by omega, h₆, F₇, ⟨z3, fI.2⟩, ⟨z1, fD.2⟩, it₃.same ((hs₇.extBut I obI nID z4).trans eI₃.symm), ⟨_, n7, e7, ?_⟩, by simp; omega⟩
     rw [Array.toList_push, List.map_append, e2]; rfl
 exact codeAny_compStart_list hloop (itr_self it₄ hloop)
end
section
variable {n : Nat} {c c' : Cx} {ρ ρ' : Loc} {σ σ' τ : Sig} {s s' : Shared}
structure CompAt (K : Frag) (c : Cx) (ρ : Loc) (scope : Scope) (x : Str) (cap gl : List (Str × V)) : Prop where
 sc : compOk scope x (cap.map (·.1)) (gl.map (·.1)) = true
 hcap : ∀ p ∈ cap, (p.1, some p.2) ∈ ρ ∧ c.env.kindOf p.1 = some .cell
 hgl : ∀ p ∈ gl, GV K p.1 p.2
theorem CompAt.clos {scope : Scope} {x : Str} {cap gl : List (Str × V)} (h : CompAt K c ρ scope x cap gl) (ok : c.Ok prog w K n) (nm : ρ.map (·.1) = c.lns) : closureFor scope c.env = pure (closFrom c.env scope.names []) ∧ scope.kind = .function ∧ ∀ y ∈ scope.names, y.2 = .local → scope.names.lookup y.1 = some .local := by
 have hsc := h.sc
 simp only [compOk, Bool.and_eq_true, beq_iff_eq, decide_eq_true_eq, List.all_eq_true, Bool.or_eq_true, bne_iff_ne, ne_eq] at hsc
 obtain ⟨⟨⟨⟨⟨⟨⟨⟨sk, snd⟩, sx⟩, sdb⟩, slo⟩, sce⟩, sfr⟩, sca⟩, sgl⟩ := hsc
 refine ⟨closureFor_eq fun y hy => ?_, sk, fun y hy hl => ?_⟩
 · rcases sfr _ hy with z | ⟨z1, _⟩
   · exact absurd rfl z
   · obtain ⟨p, hp, hpe⟩ := List.mem_map.mp (List.contains_iff_mem.mp z1)
     dsimp only at hpe
     subst hpe
     obtain ⟨h1, h2⟩ := h.hcap p hp
     have hl : p.1 ∈ c.lns := by rw [← nm]; exact List.mem_map.mpr ⟨_, h1, rfl⟩
     rcases ok.loc _ hl with q | ⟨_, a, ha⟩
     · rw [h2] at q; cases q
     · rw [ha]; rfl
 · rcases slo y hy with z | z
   · exact absurd hl z
   · exact z
theorem X_comp (ok : c.Ok prog w K n) {elt iter : PySem.Expr} {x : Str} {px pos : Pos} {ifs : List PySem.Expr} {scope : Scope} {Q : V → Sig → Prop} (cap gl : List (Str × V)) (at' : CompAt K c ρ scope x cap gl)
 (h : EX prog w c ρ σ iter fun v σ₁ => ∃ k xs J, SrcOf σ₁ v k xs ∧ xs.length ≤ sizeLine ∧ J 0 [] σ₁ ∧ CompInv prog w K n scope x cap gl ifs elt k xs J ∧ ∀ D ys σ₂, J xs.length ys σ₂ → σ₂ D = none → Q (.ref D) (σ₂.set D (.list ys)))
 (hs : ∀ x, foldedSetIterable iter c.env x = pure x := by intro _; rfl) : EX prog w c ρ σ (.ListComp elt [⟨.Name x px, iter, ifs, 0⟩] scope pos) Q := by
 intro s F
 refine (an3 fun h1 h2 h3 => ?_) (at'.clos ok F.names)
 rw [eval_ListComp]
 refine wpAny_comprehension_free (use := none) rfl hs h1 h2 h3 (h.use F fun v s₁ σ₁ F₁ h₁ => ?_)
 revert h₁; refine ex3 fun k xs J => an5 fun hsrc hlen h0 inv hq => ?_
 refine comp_block ok F₁ at'.sc at'.hcap at'.hgl hsrc h0 inv hlen (RR := fun acc C => compPost (model prog w) c.A _ none _ acc C) fun D C ys σ' s' m F' hJ rD fD hn fC hCD => ?_
 refine ⟨m, hn, fun h' hs' => ?_⟩
 have F₂ := F'.but (t := s'.toks) fC fun b ob hb e => hs'.extBut b ob hb e
 obtain ⟨ob, e⟩ := rD.get
 exact ⟨_, F₂.take (rD.same ((hs'.extBut D ob (Ne.symm hCD) e).trans e.symm)) fD.2, hq D ys σ' hJ fD.1⟩
theorem S_assign_comp (ok : c.Ok prog w K n) {elt iter : PySem.Expr} {x y : Str} {px py pos spos : Pos} {ifs : List PySem.Expr} {scope : Scope} {Q : Out → Loc → Sig → Prop} (cap gl : List (Str × V)) (at' : CompAt K c ρ scope x cap gl)
 (h : EX prog w c ρ σ iter fun v σ₁ => ∃ k xs J, SrcOf σ₁ v k xs ∧ xs.length ≤ sizeLine ∧ J 0 [] σ₁ ∧ CompInv prog w K n scope x cap gl ifs elt k xs J ∧ ∀ D ys σ₂, J xs.length ys σ₂ → σ₂ D = none → ∃ ρ', SetV ρ y (.ref D) ρ' ∧ Q .next ρ' (σ₂.set D (.list ys)))
 (hsw : swapsWith (.ListComp elt [⟨.Name x px, iter, ifs, 0⟩] scope pos) (some (.Name y py)) spos.line c.env = pure true)
 (hs : ∀ x, foldedSetIterable iter c.env x = pure x := by intro _; rfl) : ST prog w c ρ σ (.Assign [.Name y py] (.ListComp elt [⟨.Name x px, iter, ifs, 0⟩] scope pos) spos) Q := by
 intro s F
 refine (an3 fun h1 h2 h3 => ?_) (at'.clos ok F.names)
 rw [exec_Assign_Name_used _ _ _ _ hsw]
 refine wpAny_bind (wpAny_standAt (wpAny_bind ?_))
 show wpAny _ _ (do let _ ← comprehension (.ListComp elt [⟨.Name x px, iter, ifs, 0⟩] scope pos) scope c.env _ (newList []) false (eval iter c.env) (some (assign (.Name y py) c.env))) _ _ s
 refine wpAny_bind (wpAny_mono (wpAny_comprehension_free (use := some (assign (.Name y py) c.env)) (Q := fun _ s' => ∃ ρ' σ', Fm prog w c ρ' σ' s' ∧ Q .next ρ' σ') (E := fun _ _ => False) rfl hs h1 h2 h3 (h.use F fun v s₁ σ₁ F₁ h₁ => ?_)) (fun _ s' hq => wpAny_pure (wpAny_pure hq)) fun _ _ e => e)
 revert h₁; refine ex3 fun k xs J => an5 fun hsrc hlen h0 inv hq => ?_
 refine comp_block ok F₁ at'.sc at'.hcap at'.hgl hsrc h0 inv hlen (RR := fun acc C => compPost (model prog w) c.A _ (some (assign (.Name y py) c.env)) _ acc C) fun D C ys σ' s' m F' hJ rD fD hn fC hCD => ?_
 obtain ⟨ρ', hset, hq⟩ := hq D ys σ' hJ fD.1
 show wpAny _ _ (assign (.Name y py) c.env (.ref D)) _ _ _
 have FD := F'.take rD fD.2
 have S := FD.sub_ice ok fun _ _ e => e
 revert hn; refine ex3 fun ob es ep => ?_; rintro ⟨e, r⟩
 have iC : (c.ice (σ'.set D (.list ys)) s'.heap).h₀.get? C = some ob := ice_get.mpr ⟨e, by rw [Yd hCD]; exact fC.1, fC.2.2⟩
 refine wpAny_assign_Name (FD.ice.store (ok.ice FD) hset rfl fun s₂ F₂ => ?_)
 obtain ⟨z1, z2⟩ := F₂.iced iC
 refine ⟨m, ⟨ob, es, ep, z2, r⟩, fun h' hs' => ⟨ρ', _, (F₂.melt S).but (t := s₂.toks) ⟨z1, fC.2⟩ fun b o hb e => hs'.extBut b o hb e, hq⟩⟩
end
noncomputable def dlook {α : Type} [DecidableEq α] (l : List (α × V)) (k : α) : Option V := (l.find? fun p => decide (p.1 = k)).map (·.2)
noncomputable def dput {α : Type} [DecidableEq α] (l : List (α × V)) (k : α) (v : V) : List (α × V) :=
 if l.any (fun p => decide (p.1 = k)) then l.map (fun p => if p.1 = k then (p.1, v) else p) else l ++ [(k, v)]
theorem dlook_nil {α : Type} [DecidableEq α] (k : α) : dlook ([] : List (α × V)) k = none := rfl
theorem dlook_cons {α : Type} [DecidableEq α] (p : α × V) (r : List (α × V)) (x : α) : dlook (p :: r) x = if p.1 = x then some p.2 else dlook r x := by
 unfold dlook
 rw [List.find?_cons]
 by_cases h : p.1 = x
 · rw [if_pos h, decide_eq_true h]; rfl
 · rw [if_neg h, decide_eq_false h]
theorem dlook_some {α : Type} [DecidableEq α] (l : List (α × V)) (k : α) (v : V) : dlook (l.map fun p => if p.1 = k then (p.1, v) else p) k = if l.any (fun p => decide (p.1 = k)) then some v else none := by
 induction l with
 | nil => rfl
 | cons p r ih =>
  rw [List.map_cons, dlook_cons, List.any_cons, ih]
  by_cases h : p.1 = k
  · rw [if_pos h, if_pos h, decide_eq_true h]; rfl
  · rw [if_neg h, if_neg h, decide_eq_false h]; rfl
theorem dlook_other {α : Type} [DecidableEq α] (l : List (α × V)) (k : α) (v : V) {x : α} (hx : x ≠ k) : dlook (l.map fun p => if p.1 = k then (p.1, v) else p) x = dlook l x := by
 induction l with
 | nil => rfl
 | cons p r ih =>
  rw [List.map_cons, dlook_cons, dlook_cons, ih]
  by_cases h : p.1 = k
  · rw [if_pos h, if_neg fun e => hx (e.symm.trans h), if_neg fun e => hx (e.symm.trans h)]
  · rw [if_neg h]
theorem dlook_app {α : Type} [DecidableEq α] (l : List (α × V)) (k : α) (v : V) (x : α) (hn : l.any (fun p => decide (p.1 = k)) = false) : dlook (l ++ [(k, v)]) x = if x = k then some v else dlook l x := by
 induction l with
 | nil =>
  rw [List.nil_append, dlook_cons]
  by_cases h : x = k
  · rw [if_pos h, if_pos h.symm]
  · rw [if_neg h, if_neg (Ne.symm h)]
 | cons p r ih =>
  rw [List.any_cons, Bool.or_eq_false_iff] at hn
  rw [List.cons_append, dlook_cons, dlook_cons, ih hn.2]
  by_cases h : p.1 = x
  · rw [if_pos h, if_pos h, if_neg fun e => of_decide_eq_false hn.1 (h.trans e)]
  · rw [if_neg h, if_neg h]
theorem dlook_put {α : Type} [DecidableEq α] (l : List (α × V)) (k : α) (v : V) (x : α) : dlook (dput l k v) x = if x = k then some v else dlook l x := by
 unfold dput
 by_cases h : (l.any fun p => decide (p.1 = k)) = true
 · rw [if_pos h]
   by_cases hx : x = k
   · rw [if_pos hx, hx, dlook_some, if_pos h]
   · rw [if_neg hx, dlook_other l k v hx]
 · rw [if_neg h, dlook_app l k v x (Bool.eq_false_iff.mpr h)]
theorem dput_len {α : Type} [DecidableEq α] (l : List (α × V)) (k : α) (v : V) : (dput l k v).length ≤ l.length + 1 := by
 unfold dput
 split <;> simp
theorem stored_map {α : Type} [DecidableEq α] (kvs : List (α × Value)) (k : α) (v : Value) : (stored kvs k v).map (fun p => (p.1, E p.2)) = dput (kvs.map fun p => (p.1, E p.2)) k (E v) := by
 unfold stored dput
 rw [List.any_map]
 show List.map _ (if (kvs.any fun kv => decide (kv.1 = k)) = true then _ else _) = if (kvs.any fun kv => decide (kv.1 = k)) = true then _ else _
 split
 · rw [List.map_map, List.map_map]
   refine List.map_congr_left fun p _ => ?_
   simp only [Function.comp]
   split <;> rfl
 · simp
theorem merged_nodup {K : Type} [DecidableEq K] : ∀ (more acc : List (K × Value)), ((acc ++ more).map (·.1)).Nodup → merged acc more = acc ++ more
 | [], acc, _ => by simp [merged]
 | p :: r, acc, h => by
  have e : stored acc p.1 p.2 = acc ++ [p] := by
   unfold stored
   rw [if_neg]
   simp only [List.any_eq_true, decide_eq_true_eq, not_exists, not_and]
   intro q hq e
   rw [List.map_append, List.map_cons] at h
   exact (List.nodup_append.mp h).2.2 q.1 (List.mem_map_of_mem hq) p.1 List.mem_cons_self e
  show merged (stored acc p.1 p.2) r = _
  rw [e, merged_nodup r (acc ++ [p]) (by simpa using h)]
  simp
theorem valueAt_map {α : Type} [DecidableEq α] (kvs : List (α × Value)) (k : α) : (valueAt kvs k).map E = dlook (kvs.map fun p => (p.1, E p.2)) k := by
 unfold valueAt dlook
 rw [List.find?_map, Option.map_map, Option.map_map]
 rfl
theorem Yk {n : Nat} (h : n ≤ 100000) : n ≤ sizeLine := by rw [sizeLine_eq]; omega
section
variable {n : Nat} {c c' : Cx} {ρ ρ' : Loc} {σ σ' τ : Sig} {s s' : Shared}
theorem X_list (ok : c.Ok prog w K n) {es : List PySem.Expr} {pos : Pos} {Q : V → Sig → Prop} (h : EXS prog w c ρ σ es fun xs σ₁ => xs.length ≤ 100000 ∧ ∀ a, σ₁ a = none → Q (.ref a) (σ₁.set a (.list xs))) : EX prog w c ρ σ (.List es pos) Q := by
 intro s F
 rw [arm_eval_List]
 refine wpAny_bind (wpAny_standAt (wpAny_bind ((h pos).use F fun vs s₁ σ₁ F₁ h₁ => ?_)))
 have hl : vs.toArray.size ≤ sizeLine := Yk (by have := h₁.1; rw [List.length_map] at this; simpa using this)
 obtain ⟨F₂, hn⟩ := F₁.alloc (o := { cls := .type "list", dict := none, data := .seq vs.toArray }) (o' := .list (vs.map E)) (t := s₁.toks) ok rfl ⟨_, _, Heap.get?_push_size _ rfl, by simp⟩
 exact wpAny_newObj_type ⟨_, F₂, h₁.2 _ hn⟩ hl
theorem X_tuple (ok : c.Ok prog w K n) {es : List PySem.Expr} {cx : Nat} {pos : Pos} {Q : V → Sig → Prop} (h : EXS prog w c ρ σ es fun xs σ₁ => xs.length ≤ 100000 ∧ ∀ a, σ₁ a = none → Q (.ref a) (σ₁.set a (.tup xs))) : EX prog w c ρ σ (.Tuple es cx pos) Q := by
 intro s F
 rw [arm_eval_Tuple]
 refine wpAny_bind (wpAny_standAt (wpAny_bind ((h pos).use F fun vs s₁ σ₁ F₁ h₁ => ?_)))
 have hl : vs.toArray.size ≤ sizeLine := Yk (by have := h₁.1; rw [List.length_map] at this; simpa using this)
 obtain ⟨F₂, hn⟩ := F₁.alloc (o := { cls := .type "tuple", dict := none, data := .seq vs.toArray }) (o' := .tup (vs.map E)) (t := s₁.toks) ok rfl ⟨_, _, Heap.get?_push_size _ rfl, by simp⟩
 exact wpAny_newObj_type ⟨_, F₂, h₁.2 _ hn⟩ hl
theorem X_dict0 (ok : c.Ok prog w K n) {pos : Pos} {Q : V → Sig → Prop} (o' : AObj) (ho : o' = .dicS [] ∨ o' = .dicI []) (h : ∀ a, σ a = none → Q (.ref a) (σ.set a o')) : EX prog w c ρ σ (.Dict [] [] pos) Q := by
 intro s F
 have r : Rep prog w o' s.heap.objs.size (s.heap.push { cls := .type "dict", data := .dict #[] }) := by
  rcases ho with rfl | rfl
  · exact ⟨[], Heap.DictOf.new s.heap, rfl⟩
  · exact ⟨[], Heap.DictOf.new s.heap, rfl⟩
 obtain ⟨F₂, hn⟩ := F.alloc (o' := o') (t := s.toks) ok rfl r
 exact wpAny_Dict_empty ⟨_, F₂, h _ hn⟩
noncomputable def EVS (prog : Program) (w : World) (c : Cx) (ρ : Loc) : List PySem.Expr → Sig → (List V → Sig → Prop) → Prop
 | [], σ, Q => Q [] σ
 | e :: es, σ, Q => EX prog w c ρ σ e fun x σ₁ => EVS prog w c ρ es σ₁ fun xs σ₂ => Q (x :: xs) σ₂
noncomputable def constKey (p : Str × Nat × Pos) : PySem.Expr := .Constant (.str p.1) p.2.1 p.2.2
theorem evp {pos : Pos} {EE : Value → Shared → Prop} : ∀ (ks : List (Str × Nat × Pos)) (es : List PySem.Expr) (σ : Sig) (s : Shared) (Q : List V → Sig → Prop) (P : List (Value × Value) → Shared → Prop), ks.length = es.length → Fm prog w c ρ σ s → EVS prog w c ρ es σ Q →
 (∀ vs s' σ' xs, Fm prog w c ρ σ' s' → Q xs σ' → vs.length = ks.length → xs.length = ks.length → (∀ kvs : List (Str × Value), kvs = (ks.map (·.1)).zip (vs.map (·.2)) → Carries (strKind prog w) vs kvs ∧ kvs.map (fun p => (p.1, E p.2)) = (ks.map (·.1)).zip xs) → P vs s') →
 wpAny (model prog w) c.A (evalPairs ((ks.zip es).map fun p => (eval (constKey p.1) c.env, do let x ← eval p.2 c.env; standAt pos; pure x))) P EE s := by
 intro ks
 induction ks with
 | nil =>
  intro es σ s Q P hl F h k
  cases es with
  | nil => exact evalPairs_nil (k [] s σ [] F h rfl rfl fun kvs e => by subst e; exact ⟨trivial, rfl⟩)
  | cons _ _ => cases hl
 | cons kk ks ih =>
  intro es σ s Q P hl F h k
  cases es with
  | nil => cases hl
  | cons e es =>
   refine evalPairs_cons ?_
   refine wpAny_Constant_str ?_
   refine wpAny_bind (TE.use h (F.toks _) fun v s₁ σ₁ F₁ h₁ => wpAny_bind (wpAny_standAt (wpAny_pure ?_)))
   refine ih es σ₁ s₁ _ _ (by simpa using hl) F₁ h₁ fun vs s₂ σ₂ xs F₂ hq hv hx hk => ?_
   refine k _ s₂ σ₂ (E v :: xs) F₂ hq (by simp [hv]) (by simp [hx]) fun kvs e => ?_
   obtain ⟨h1, h2⟩ := hk _ rfl
   subst e
   refine ⟨⟨strKind_is prog w kk.1 _, rfl, h1⟩, ?_⟩
   simp only [List.map_cons, List.zip_cons_cons]
   exact congrArg _ h2
theorem Yg {σ : Sig} {a : Addr} {o : AObj} (h : σ a = none) {b : Addr} {x : AObj} (e : σ b = some x) : σ.set a o b = some x := by
 rw [Yd]
 · exact e
 · rintro rfl; rw [h] at e; cases e
theorem X_dict (ok : c.Ok prog w K n) {keys : List (Option PySem.Expr)} {values : List PySem.Expr} {pos : Pos} {Q : V → Sig → Prop} (ks : List (Str × Nat × Pos)) (hk : keys = ks.map fun p => some (constKey p)) (hl : ks.length = values.length) (h0 : ks ≠ []) (h15 : ks.length ≤ 15) (nd : (ks.map (·.1)).Nodup)
 (h : ∀ c', Sim c c' → c'.Ok prog w K n → EVS prog w c' ρ values σ fun xs σ₁ => ∀ a, σ₁ a = none → Q (.ref a) (σ₁.set a (.dicS ((ks.map (·.1)).zip xs))))
 (hshape : (evalEachOpt keys c.env).zip ((evalEach values c.env).map fun v => do let x ← v; standAt pos; pure x) = ((ks.zip values).map fun p => (eval (constKey p.1) c.env, do let x ← eval p.2 c.env; standAt pos; pure x)).map fun p => (some p.1, p.2)) : EX prog w c ρ σ (.Dict keys values pos) Q := by
 intro s F
 refine wpAny_Dict_pairs (knd := strKind prog w) hshape ?_ (by simp [hl] at h15 ⊢; omega) ?_
 · intro e
   have e' := congrArg List.length e
   simp only [List.length_map, List.length_zip, List.length_nil] at e'
   have : ks.length ≠ 0 := fun z => h0 (List.length_eq_zero_iff.mp z)
   omega
 · have fr := F.free_new ok (get_size_none s.heap)
   have G := F.grow (h' := s.heap.push { cls := .type "dict", data := .dict #[] }) (t := s.toks) fun b ob e => Heap.get?_push_of_some _ e
   have S := G.sub_ice ok fun _ _ e => e
   have iD : (c.ice σ (s.heap.push { cls := .type "dict", data := .dict #[] })).h₀.get? s.heap.objs.size = some { cls := .type "dict", data := .dict #[] } := ice_get.mpr ⟨Heap.get?_push_size _ rfl, fr.1, fr.2.2⟩
   have z := evp (pos := pos) (EE := fun _ _ => False) (P := fun vs s₁ => ∃ kvs, Carries (strKind prog w) vs kvs ∧ s₁.heap.DictOf (strKind prog w) s.heap.objs.size [] ∧
    ∀ h', h'.DictOf (strKind prog w) s.heap.objs.size (merged [] kvs) → Heap.SameBut s.heap.objs.size s₁.heap h' → ∃ σ', Fm prog w c ρ σ' { s₁ with heap := h', toks := s₁.toks + vs.length } ∧ Q (.ref s.heap.objs.size) σ') ks values σ _ _ hl G.ice (h _ S (ok.ice G))
   refine z ?_
   intro vs s₁ σ₁ xs F₁ hq hv hx hk'
   obtain ⟨h1, h2⟩ := hk' _ rfl
   obtain ⟨z1, z2⟩ := F₁.iced iD
   refine ⟨_, h1, ⟨_, #[], 0, z2, ⟨rfl, rfl, rfl⟩, rfl, fun _ he => by simp at he, .nil, by simp⟩, fun h' hd hs => ?_⟩
   have ndk : (((ks.map (·.1)).zip (vs.map (·.2))).map (·.1)).Nodup := by
    rw [List.map_fst_zip (by simp [hv])]; exact nd
   rw [merged_nodup _ _ (by simpa using ndk)] at hd
   have F₂ := (F₁.melt S).but (t := s₁.toks + vs.length) ⟨z1, fr.2⟩ fun b o hb e => hs.extBut b o hb e
   exact ⟨_, F₂.take (o := .dicS ((ks.map (·.1)).zip xs)) ⟨_, hd, by simpa using h2⟩ fr.2, hq _ z1⟩
end
section
variable {n : Nat} {c c' : Cx} {ρ ρ' : Loc} {σ σ' τ : Sig} {s s' : Shared}
noncomputable def SUBT (prog : Program) (w : World) (c : Cx) (ρ : Loc) (σ : Sig) (value slice : PySem.Expr) (x i : V) (Q : V → Sig → Prop) : Prop :=
 ∀ a b, E a = x → E b = i → TE prog w c ρ σ (subscriptTail value slice a b) fun v σ' => Q (E v) σ'
theorem X_sub {value slice : PySem.Expr} {pos : Pos} {Q : V → Sig → Prop} (h : EX prog w c ρ σ value fun x σ₁ => EX prog w c ρ σ₁ slice fun i σ₂ => SUBT prog w c ρ σ₂ value slice x i Q) : EX prog w c ρ σ (.Subscript value slice pos) Q := fun s F =>
 Subscript_ (h.use F fun a _ _ F₁ h₁ => h₁.use F₁ fun b _ _ F₂ h₂ => h₂ a b rfl rfl _ F₂)
theorem subTail {A : Around} {EE : Value → Shared → Prop} {value slice : PySem.Expr} {o i : Value} {T id : String} {Q : Value → Shared → Prop} (hT : s.TypeIs o T)
 (hl : typeLookup (.type T) "__getitem__" = pure (some (.builtin id))) (h : wpAny (model prog w) A (getItem o i) Q EE s)
 (hs : ∃ ops, subscripted slice false o i = operate ops (getItem o i)) :
 wpAny (model prog w) A (subscriptTail value slice o i) Q EE s := by
 obtain ⟨ops, hs⟩ := hs
 unfold subscriptTail
 refine wpAny_bind ?_
 rw [getitemInPython_of_ne hT.not_modules]
 refine wpAny_bind (wpAny_specialOf hT hl ?_)
 have fin : wpAny (model prog w) A (subscripted slice false o i) (fun r s₃ => wpAny (model prog w) A (letTemporaryGo value o r >>= fun _ => pure r) Q EE s₃) EE s := by
  rw [hs]
  exact wpAny_operating (wpAny_mono h (fun r s₃ h₃ => wpAny_bind (wpAny_letTemporaryGo (wpAny_pure h₃))) fun _ _ x => x)
 first
  | exact wpAny_pure (wpAny_bind fin)
  | exact wpAny_bind (wpAny_pure (wpAny_bind fin))
  | exact wpAny_bind fin
theorem SB_list {value slice : PySem.Expr} {l : Addr} {xs : List V} {k : Int} {v : V} {Q : V → Sig → Prop} (hl : σ l = some (.list xs)) (h0 : 0 ≤ k) (hk : k < 2 ^ 63) (hx : xs[k.toNat]? = some v) (h : Q v σ)
 (hs : ∀ a b, ∃ ops, subscripted slice false a b = operate ops (getItem a b) := by intro _ _; exact ⟨_, rfl⟩) : SUBT prog w c ρ σ value slice (.ref l) (.int k) Q := by
 intro a b ha hb s F
 obtain rfl := E_ref ha; obtain ⟨t, rfl⟩ := E_int hb
 refine (ex2 fun vs m => ?_) (F.own l _ hl); rintro ⟨e, e'⟩
 subst e'
 rw [List.getElem?_map, Option.map_eq_some_iff] at hx
 obtain ⟨u, hu, rfl⟩ := hx
 have il : s.heap.IsList l vs := ⟨_, e, rfl, m, rfl⟩
 exact subTail il.typeIs slot_list_getitem.lookup (wpAny_getItem_list il h0 hk (by simpa using hu) ⟨σ, F, h⟩) (hs _ _)
theorem SB_tup {value slice : PySem.Expr} {l : Addr} {xs : List V} {k : Int} {v : V} {Q : V → Sig → Prop} (hl : σ l = some (.tup xs)) (h0 : 0 ≤ k) (hk : k < 2 ^ 63) (hx : xs[k.toNat]? = some v) (h : Q v σ)
 (hs : ∀ a b, ∃ ops, subscripted slice false a b = operate ops (getItem a b) := by intro _ _; exact ⟨_, rfl⟩) : SUBT prog w c ρ σ value slice (.ref l) (.int k) Q := by
 intro a b ha hb s F
 obtain rfl := E_ref ha; obtain ⟨t, rfl⟩ := E_int hb
 refine (ex2 fun vs m => ?_) (F.own l _ hl); rintro ⟨e, e'⟩
 subst e'
 have hlen : k.toNat < vs.size := by
  rcases Nat.lt_or_ge k.toNat vs.size with q | q
  · exact q
  · rw [List.getElem?_eq_none (by simpa using q)] at hx; cases hx
 rw [List.getElem?_map, Option.map_eq_some_iff] at hx
 obtain ⟨u, hu, rfl⟩ := hx
 have il : IsTup s.heap l vs := ⟨_, e, rfl, m, rfl⟩
 exact subTail il.typeIs PyProof.Rows.slot_tuple_getitem.lookup (PyProof.Rows.getItem_tuple il (by omega) hk (seqIndex_of h0 (by omega)) (by simpa using hu) ⟨σ, F, h⟩) (hs _ _)
theorem SB_dicS {value slice : PySem.Expr} {l : Addr} {g : List (Str × V)} {k : Str} {v : V} {Q : V → Sig → Prop} (hl : σ l = some (.dicS g)) (hx : dlook g k = some v) (h : Q v σ)
 (hs : ∀ a b, ∃ ops, subscripted slice false a b = operate ops (getItem a b) := by intro _ _; exact ⟨_, rfl⟩) : SUBT prog w c ρ σ value slice (.ref l) (.str k) Q := by
 intro a b ha hb s F
 obtain rfl := E_ref ha; obtain ⟨t, rfl⟩ := E_str hb
 obtain ⟨f, hd, hf⟩ := F.own l _ hl
 have hm := hd.mapOf
 rw [← hf, ← valueAt_map, Option.map_eq_some_iff] at hx
 obtain ⟨u, hu, rfl⟩ := hx
 exact subTail hm.typeIs slot_dict_getitem.lookup (wpAny_getItem_of (strKind_is prog w k t) hm hu ⟨σ, F.toks _, h⟩) (hs _ _)
theorem SB_str {value slice : PySem.Expr} {x : Str} {k : Int} {ch : Nat} {Q : V → Sig → Prop} (h0 : 0 ≤ k) (hk : k < 2 ^ 63) (hx : x.cps[k.toNat]? = some ch) (h : Q (.str ⟨#[ch]⟩) σ)
 (hs : ∀ a b, ∃ ops, subscripted slice false a b = operate ops (getItem a b) := by intro _ _; exact ⟨_, rfl⟩) : SUBT prog w c ρ σ value slice (.str x) (.int k) Q := by
 intro a b ha hb s F
 obtain ⟨u, rfl⟩ := E_str ha; obtain ⟨t, rfl⟩ := E_int hb
 have hl : k.toNat < x.cps.size := (Array.getElem?_eq_some_iff.mp hx).1
 have hr : (decide (k < -(2 ^ 63 : Int)) || decide (k ≥ 2 ^ 63)) = false := by
  rw [Bool.or_eq_false_iff, decide_eq_false_iff_not, decide_eq_false_iff_not]; omega
 have hn : seqIndex? k x.length = some k.toNat := seqIndex_of h0 (by show k < (x.cps.size : Nat); omega)
 exact subTail (typeIs_str s x u) PyProof.Rows.slot_str_getitem.lookup (PyProof.Rows.getItem_str hr (by rw [hn]; exact hx) ⟨σ, F.toks _, h⟩) (hs _ _)
inductive SlR : Option Int → Option Int → List V → List V → Prop
 | frm (a : Nat) (xs) : SlR (some (a : Int)) none xs (xs.drop a)
 | upto (b : Nat) (xs) : SlR none (some (b : Int)) xs (xs.take b)
 | run (a b : Nat) (xs) : a ≤ b → b ≤ xs.length → SlR (some (a : Int)) (some (b : Int)) xs ((xs.drop a).take (b - a))
 | butLast (xs) : SlR none (some (-1)) xs (xs.take (xs.length - 1))
theorem SlR.pick {lo hi : Option Int} {xs ys : List V} (h : SlR lo hi xs ys) {vs : Array Value} (e : vs.toList.map E = xs) : (slicePick vs lo hi none).toList.map E = ys := by
 subst e
 cases h with
 | frm a => rw [slicePick_from', List.map_drop]
 | upto b => rw [slicePick_upto', List.map_take]
 | run a b _ h1 h2 => rw [slicePick_run vs a b (by simpa using h2) h1]; simp [List.map_take, List.map_drop]
 | butLast => rw [show (-1 : Int) = -((1 : Nat) : Int) from rfl, slicePick_butLast vs 1 (Nat.le_refl _)]; simp [List.map_take]
noncomputable def EXO (prog : Program) (w : World) (c : Cx) (ρ : Loc) (σ : Sig) : Option PySem.Expr → (Option Int → Sig → Prop) → Prop
 | none, Q => Q none σ
 | some e, Q => EX prog w c ρ σ e fun v σ' => ∃ i, v = .int i ∧ Q (some i) σ'
theorem exo {e : Option PySem.Expr} {Q : Option Int → Sig → Prop} (h : EXO prog w c ρ σ e Q) (F : Fm prog w c ρ σ s) {P : Value → Shared → Prop} {EE : Value → Shared → Prop}
 (k : ∀ v i s' σ', Fm prog w c ρ σ' s' → IsPart v i → Q i σ' → P v s') : wpAny (model prog w) c.A (evalPart e c.env) P EE s := by
 cases e with
 | none => exact wpAny_pure (k _ _ _ _ F .none h)
 | some e =>
  refine TE.use h F fun v s' σ' F' h' => ?_
  obtain ⟨i, hi, hq⟩ := h'
  obtain ⟨t, rfl⟩ := E_int hi
  exact k _ _ _ _ F' (.int i t) hq
theorem X_slice (ok : c.Ok prog w K n) {value : PySem.Expr} {lower upper : Option PySem.Expr} {p pos : Pos} {Q : V → Sig → Prop}
 (h : EX prog w c ρ σ value fun x σ₁ => EXO prog w c ρ σ₁ lower fun lo σ₂ => EXO prog w c ρ σ₂ upper fun hi σ₃ => ∃ l xs ys, x = .ref l ∧ σ₃ l = some (.list xs) ∧ xs.length ≤ 100000 ∧ SlR lo hi xs ys ∧ ∀ a, σ₃ a = none → Q (.ref a) (σ₃.set a (.list ys))) :
 EX prog w c ρ σ (.Subscript value (.Slice lower upper none p) pos) Q := by
 intro s F
 refine Subscript_ (h.use F fun a s₁ σ₁ F₁ h₁ => ?_)
 refine wpAny_Slice (exo h₁ F₁ fun vl lo s₂ σ₂ F₂ pl h₂ => exo h₂ F₂ fun vu hi s₃ σ₃ F₃ pu h₃ => ?_)
 revert h₃; refine ex3 fun l xs ys => an5 fun hx hl hlen hsl hq => ?_
 obtain rfl := E_ref hx
 rw [evalPart_none]
 refine wpAny_pure ?_
 refine (ex2 fun vs m => ?_) (F₃.own l _ hl); rintro ⟨e, e'⟩
 have il : s₃.heap.IsList l vs := ⟨_, e, rfl, m, rfl⟩
 have F₄ := F₃.grow (h' := s₃.heap.push { cls := .type "slice", data := .fields #[vl, vu, .none] }) (t := s₃.toks) fun b ob e => Heap.get?_push_of_some _ e
 obtain ⟨F₅, hn⟩ := F₄.alloc (o := { cls := .type "list", dict := none, data := .seq (slicePick vs lo hi none) }) (o' := .list ys) (t := s₃.toks) ok rfl ⟨_, _, Heap.get?_push_size _ rfl, hsl.pick e'⟩
 refine subTail (il.push _).typeIs list_getitem_lookup (wpAny_getItem_list_slice (il.push _) (Heap.IsSliceOf.new ..) pl pu .none (by simp) ⟨_, F₅, hq _ hn⟩ (Yk (by rw [← e'] at hlen; simpa using hlen))) ⟨_, rfl⟩
theorem X_sliceT (ok : c.Ok prog w K n) {value lower : PySem.Expr} {p pos : Pos} {Q : V → Sig → Prop}
 (h : EX prog w c ρ σ value fun x σ₁ => EX prog w c ρ σ₁ lower fun lo σ₂ => ∃ l xs, ∃ a : Nat, x = .ref l ∧ lo = .int (a : Int) ∧ 1 ≤ a ∧ a ≤ xs.length ∧ σ₂ l = some (.tup xs) ∧ xs.length ≤ 100000 ∧ ∀ a', σ₂ a' = none → Q (.ref a') (σ₂.set a' (.tup (xs.drop a)))) :
 EX prog w c ρ σ (.Subscript value (.Slice (some lower) none none p) pos) Q := by
 intro s F
 refine Subscript_ (h.use F fun a s₁ σ₁ F₁ h₁ => ?_)
 refine wpAny_Slice (h₁.use F₁ fun vl s₃ σ₃ F₃ h₃ => wpAny_pure (wpAny_pure ?_))
 revert h₃; refine ex3 fun l xs i => an7 fun hx hi hi1 hi2 hl hlen hq => ?_
 obtain rfl := E_ref hx
 obtain ⟨t, rfl⟩ := E_int hi
 refine (ex2 fun vs m => ?_) (F₃.own l _ hl); rintro ⟨e, e'⟩
 have il : IsTup (s₃.heap.push { cls := .type "slice", data := .fields #[.int (i : Int) t, .none, .none] }) l vs := ⟨_, Heap.get?_push_of_some _ e, rfl, m, rfl⟩
 have F₄ := F₃.grow (h' := s₃.heap.push { cls := .type "slice", data := .fields #[.int (i : Int) t, .none, .none] }) (t := s₃.toks) fun b ob e => Heap.get?_push_of_some _ e
 obtain ⟨F₅, hn⟩ := F₄.alloc (o := { cls := .type "tuple", dict := none, data := .seq (vs.toList.drop i).toArray }) (o' := .tup (xs.drop i)) (t := s₃.toks) ok rfl ⟨_, _, Heap.get?_push_size _ rfl, by simp [← e', List.map_drop]⟩
 rw [← e'] at hlen hi2
 exact subTail (s := { s₃ with heap := s₃.heap.push { cls := .type "slice", data := .fields #[.int (i : Int) t, .none, .none] } }) il.typeIs PyProof.Rows.slot_tuple_getitem.lookup (getItem_tuple_from il (Heap.IsSliceOf.new ..) hi1 (by simpa using hi2) ⟨_, F₅, hq _ hn⟩ (Yk (by simpa using hlen))) ⟨_, rfl⟩
end
theorem wpAny_setItem_listP {prog : Program} {w : World} {A : Around} {EE : Value → Shared → Prop} {s : Shared} {l : Addr} {items : Array Value} {m : Nat} {k : Int} {t : Tok} {v : Value} {Q : Unit → Shared → Prop} (ho : s.heap.get? l = some { cls := .type "list", data := .seq items m })
 (h0 : 0 ≤ k) (hfit : k < 2 ^ 63) (hk : k < items.size) (hQ : ∀ h' m', h'.get? l = some { cls := .type "list", data := .seq (items.setIfInBounds k.toNat v) m' } → Heap.SameBut l s.heap h' → Q () { s with heap := h' }) :
 wpAny (model prog w) A (setItem (.ref l) (.int k t) v) Q EE s := by
 have hl : s.heap.IsList l items := ⟨_, ho, rfl, m, rfl⟩
 unfold setItem
 try with_reducible refine wpAny_holding ?_
 first | refine wpAny_bind (wpAny_pure ?_) | skip
 refine wpAny_bind (wpAny_sequenceKey hl.typeIs (by decide) ?_)
 refine wpAny_bind (wpAny_callSpecial?_slot (name := Str.ofString "__setitem__") hl.typeIs slot_list_setitem
  (wpAny_call_entry slot_list_setitem hl.typeIs entry_list_setitem ?_ (args_list_setitem _ _ _)))
 show wpAny _ _ (Builtin.List.listSubscript? (.int k t) >>= _) _ _ s
 refine wpAny_bind (wpAny_listSubscript_int (fitsIndex_of h0 hfit) ?_)
 clear hfit
 obtain ⟨j, rfl⟩ := Int.eq_ofNat_of_zero_le h0
 have hj : j < items.size := by omega
 show wpAny _ _ ((seqItemAt l j >>= fun r => pure (r.map (j, ·))) >>= _) _ _ s
 refine wpAny_bind (wpAny_bind (wpAny_seqItemAt ho rfl (wpAny_pure ?_)))
 rw [Array.getElem?_eq_getElem hj]
 show wpAny _ _ (setSeqItemAt l j v >>= _) _ _ s
 have hfin := Heap.get?_update_self (Obj.mapSeq (·.setIfInBounds j v)) ho rfl
 refine wpAny_bind (wpAny_setSeqItemAt ho rfl ?_)
 first
  | exact wpAny_bind (wpAny_pure (wpAny_pure ⟨.none, rfl, wpAny_pure (hQ _ _ hfin (Heap.SameBut.update ..))⟩))
  | exact wpAny_pure ⟨.none, rfl, wpAny_pure (hQ _ _ hfin (Heap.SameBut.update ..))⟩
section
variable {n : Nat} {c c' : Cx} {ρ ρ' : Loc} {σ σ' τ : Sig} {s s' : Shared}
theorem S_assignT {t e : PySem.Expr} {pos : Pos} {Q : Out → Loc → Sig → Prop} (h : EX prog w c ρ σ e fun v σ₁ => TGT prog w c ρ σ₁ t v fun ρ' σ' => Q .next ρ' σ')
 (hsw : swapsWith e (some t) pos.line c.env = pure false := by rfl) (hst : swappedStores [t] e c.env = pure none := by rfl) (e2 : (assignEach [t] c.env).map (·.2) = [assign t c.env] := by rfl) : ST prog w c ρ σ (.Assign [t] e pos) Q := by
 intro s F
 rw [arm_exec_Assign]
 refine wpAny_bind (wpAny_standAt (wpAny_bind (wpAny_of_eq (t := swapsWithSole [t] e pos.line c.env) hsw ?_)))
 simp only [Bool.false_eq_true, if_false]
 refine wpAny_bind (h.use F fun v s₁ σ₁ F₁ h₁ => wpAny_bind (wpAny_of_eq hst ?_))
 rw [e2]
 refine wpAny_bind (wpAny_mono (h₁ v rfl s₁ F₁) (fun _ s₂ => ex2 fun ρ' σ' => an2 fun F' hq => wpAny_pure ⟨ρ', σ', F', hq⟩) fun _ _ x => x)
theorem G_attr {o : PySem.Expr} {nm : Str} {pos : Pos} {v : V} {Q : Loc → Sig → Prop} (h : EX prog w c ρ σ o fun x σ₁ => SETA prog w c ρ σ₁ x nm v fun σ' => Q ρ σ') : TGT prog w c ρ σ (.Attribute o nm pos) v Q := by
 intro u hu s F
 rw [arm_assign_Attribute]
 refine wpAny_bind (wpAny_holding (h.use F fun a s₁ σ₁ F₁ h₁ => wpAny_bind (wpAny_standAt (wpAny_bind (wpAny_holding (TE.use (h₁ a u rfl hu) F₁ fun _ s₂ σ₂ F₂ h₂ => wpAny_release ⟨ρ, σ₂, F₂, h₂⟩))))))
noncomputable def SETI (prog : Program) (w : World) (c : Cx) (ρ : Loc) (σ : Sig) (x i v : V) (Q : Sig → Prop) : Prop :=
 ∀ a b u, E a = x → E b = i → E u = v → TE prog w c ρ σ (setItem a b u) fun _ σ' => Q σ'
theorem G_sub {o i : PySem.Expr} {pos : Pos} {v : V} {Q : Loc → Sig → Prop} (h : EX prog w c ρ σ o fun x σ₁ => EX prog w c ρ σ₁ i fun y σ₂ => SETI prog w c ρ σ₂ x y v fun σ' => Q ρ σ') : TGT prog w c ρ σ (.Subscript o i pos) v Q := by
 intro u hu s F
 rw [arm_assign_Subscript]
 refine wpAny_bind (wpAny_holding (h.use F fun a s₁ σ₁ F₁ h₁ => wpAny_bind (wpAny_holding (h₁.use F₁ fun b s₂ σ₂ F₂ h₂ => wpAny_bind (wpAny_standAt (wpAny_bind (wpAny_holding (TE.use (h₂ a b u rfl rfl hu) F₂ fun _ s₃ σ₃ F₃ h₃ => wpAny_release ⟨ρ, σ₃, F₃, h₃⟩))))))))
theorem I_set {l : Addr} {xs : List V} {k : Int} {v : V} {Q : Sig → Prop} (hl : σ l = some (.list xs)) (h0 : 0 ≤ k) (h1 : k < 2 ^ 63) (hk : k < xs.length) (h : Q (σ.set l (.list (xs.set k.toNat v)))) : SETI prog w c ρ σ (.ref l) (.int k) v Q := by
 intro a b u ha hb hu s F
 obtain rfl := E_ref ha; obtain ⟨t, rfl⟩ := E_int hb
 refine (ex2 fun vs m => ?_) (F.own l _ hl); rintro ⟨e, e'⟩
 subst e'
 simp only [List.length_map, Array.length_toList] at hk
 refine wpAny_setItem_listP e h0 h1 hk fun h' m' e2 hs' => ?_
 refine ⟨_, F.upd (t := s.toks) (o' := .list ((vs.toList.map E).set k.toNat v)) hl hs' ⟨_, m', e2, ?_⟩, h⟩
 rw [Array.toList_setIfInBounds, List.map_set, hu]
theorem I_dicS {l : Addr} {g : List (Str × V)} {k : Str} {v : V} {Q : Sig → Prop} (hl : σ l = some (.dicS g)) (hm : g.length ≤ 100000) (h : Q (σ.set l (.dicS (dput g k v)))) : SETI prog w c ρ σ (.ref l) (.str k) v Q := by
 intro a b u ha hb hu s F
 obtain rfl := E_ref ha; obtain ⟨t, rfl⟩ := E_str hb
 obtain ⟨f, hd, hf⟩ := F.own l _ hl
 subst hf
 exact wpAny_setItem_pairs (strKind_is prog w k t) hd (fun h' hm' hs' => ⟨_, F.upd (o' := .dicS (dput (f.map fun p => (p.1, E p.2)) k v)) hl hs' ⟨_, hm', by rw [stored_map, hu]⟩, h⟩) (Yk (by simpa using hm))
theorem I_dicI {l : Addr} {g : List (Int × V)} {k : Int} {v : V} {Q : Sig → Prop} (hl : σ l = some (.dicI g)) (hm : g.length ≤ 100000) (h : Q (σ.set l (.dicI (dput g k v)))) : SETI prog w c ρ σ (.ref l) (.int k) v Q := by
 intro a b u ha hb hu s F
 obtain rfl := E_ref ha; obtain ⟨t, rfl⟩ := E_int hb
 obtain ⟨f, hd, hf⟩ := F.own l _ hl
 subst hf
 exact wpAny_setItem_pairs (intKind_is prog w k t) hd (fun h' hm' hs' => ⟨_, F.upd (o' := .dicI (dput (f.map fun p => (p.1, E p.2)) k v)) hl hs' ⟨_, hm', by rw [stored_map, hu]⟩, h⟩) (Yk (by simpa using hm))
theorem S_aug (ok : c.Ok prog w K n) {x : Str} {p' pos : Pos} {op : Operator} {e : PySem.Expr} {v : V} {Q : Out → Loc → Sig → Prop} (hv : HasV ρ x v)
 (h : EX prog w c ρ σ e fun y σ₁ => INP prog w c ρ σ₁ op v y fun z σ₂ => ∃ ρ', SetV ρ x z ρ' ∧ Q .next ρ' σ₂) : ST prog w c ρ σ (.AugAssign (.Name x p') op e pos) Q := by
 intro s F
 have ld : ∀ {P : Value → Shared → Prop} {EE}, (∀ u, E u = v → P u s) → wpAny (model prog w) c.A (loadName c.env x) P EE s := by
  intro P EE k
  have hm := hv.mem
  have hl : x ∈ c.lns := by rw [← F.names]; exact List.mem_map.mpr ⟨_, hm, rfl⟩
  rcases ok.loc x hl with hk | ⟨hk, a, ha⟩
  · obtain ⟨m, hn, hmm⟩ := F.ns
    have := hmm _ hm hk
    cases hx : m x with
    | none => rw [hx] at this; cases this
    | some u =>
     rw [hx] at this
     exact wpAny_loadName_local ok.kind hk hn hx (k u (by simpa using this))
  · refine (ex2 fun a' u => an3 fun ha' hc hu => ?_) (F.cl _ hm hk)
    cases u with
    | none => cases hu
    | some u => exact wpAny_loadName_cell ok.kind hk ha' hc (k u (by simpa using hu))
 refine wpAny_AugAssign_Name (ld fun u hu => h.use F fun y s₁ σ₁ F₁ h₁ => TE.use (h₁ u y hu rfl) F₁ fun z s₂ σ₂ F₂ h₂ => ?_)
 obtain ⟨ρ', hs, hq⟩ := h₂
 exact F₂.store ok hs rfl fun s₃ F₃ => ⟨ρ', σ₂, F₃, hq⟩
theorem S_augA {o e : PySem.Expr} {nm : Str} {tpos pos : Pos} {op : Operator} {Q : Out → Loc → Sig → Prop}
 (h : EX prog w c ρ σ o fun x σ₁ => GETA prog w c ρ σ₁ x nm fun old σ₂ => EX prog w c ρ σ₂ e fun y σ₃ => INP prog w c ρ σ₃ op old y fun z σ₄ => SETA prog w c ρ σ₄ x nm z fun σ₅ => Q .next ρ σ₅) : ST prog w c ρ σ (.AugAssign (.Attribute o nm tpos) op e pos) Q := by
 intro s F
 exact wpAny_AugAssign_AttributeAny (h.use F fun a s₁ σ₁ F₁ h₁ => TE.use (h₁ a rfl) F₁ fun old s₂ σ₂ F₂ h₂ => h₂.use F₂ fun y s₃ σ₃ F₃ h₃ => TE.use (h₃ old y rfl rfl) F₃ fun z s₄ σ₄ F₄ h₄ => TE.use (h₄ a z rfl rfl) F₄ fun _ s₅ σ₅ F₅ h₅ => ⟨ρ, σ₅, F₅, h₅⟩)
theorem draw_itr (ok : c.Ok prog w K n) {k : SK} {xs : List V} {I : Addr} (fr : Free c σ I) (h : Src σ k xs) {EE : Value → Shared → Prop} : ∀ (m i : Nat) (s : Shared) (Q : List Value → Shared → Prop), i + m = xs.length → Fm prog w c ρ σ s → Itr k xs.length I i s.heap →
 (∀ vs s', Fm prog w c ρ σ s' → Itr k xs.length I xs.length s'.heap → vs.map E = xs.drop i → Q vs s') → wpAny (model prog w) c.A (draw (.ref I) m) Q EE s
 | 0, i, s, Q, e, F, it, hQ => by
  have e' : i = xs.length := by omega
  subst e'
  exact wpAny_pure (hQ [] s F it (by simp))
 | m + 1, i, s, Q, e, F, it, hQ => by
  have hi : i < xs.length := by omega
  show wpAny _ _ (pyNext (.ref I) >>= _) Q EE s
  refine wpAny_bind (itr_next ok F fr h it (List.getElem?_eq_getElem hi) fun v s₁ hv F₁ it₁ => ?_)
  refine wpAny_bind (wpAny_holding (draw_itr ok fr h m (i + 1) s₁ _ (by omega) F₁ it₁ fun vs s₂ F₂ it₂ hvs => wpAny_pure (hQ _ s₂ F₂ it₂ ?_)))
  rw [List.drop_eq_getElem_cons hi, List.map_cons, hv, hvs]
theorem unpack_itr (ok : c.Ok prog w K n) (F : Fm prog w c ρ σ s) {k : SK} {xs : List V} {v : Value} (h : SrcOf σ (E v) k xs) (hk : ∀ lo hi, k ≠ .rng lo hi) {Q : List Value → Shared → Prop} {EE : Value → Shared → Prop}
 (hQ : ∀ vs s', Fm prog w c ρ σ s' → vs.map E = xs → Q vs s') : wpAny (model prog w) c.A (unpackItems v xs.length none) Q EE s := by
 have hit : ∀ {P : Bool → Shared → Prop}, P false s → wpAny (model prog w) c.A (notIterableAtAll v) P EE s := by
  intro P hP
  unfold notIterableAtAll
  cases k with
  | list l =>
   obtain ⟨e1, e2⟩ := h
   obtain rfl := E_ref e1
   refine (ex2 fun vs m => ?_) (F.own l _ e2); rintro ⟨e3, _⟩
   refine wpAny_bind (wpAny_specialOf (T := "list") ⟨_, e3, rfl⟩ slot_list_iter.lookup ?_)
   exact wpAny_pure hP
  | tup l =>
   obtain ⟨e1, e2⟩ := h
   obtain rfl := E_ref e1
   refine (ex2 fun vs m => ?_) (F.own l _ e2); rintro ⟨e3, _⟩
   refine wpAny_bind (wpAny_specialOf (T := "tuple") ⟨_, e3, rfl⟩ PySem.F.slot_tuple_iter.lookup ?_)
   exact wpAny_pure hP
  | rng lo hi => exact absurd rfl (hk lo hi)
 unfold unpackItems
 refine wpAny_bind (hit ?_)
 simp only [Bool.false_eq_true, if_false]
 refine wpAny_bind (wpAny_holding (itr_start ok F h fun I s₁ F₁ fr it => ?_))
 refine wpAny_bind (wpAny_holding (draw_itr ok fr h.src xs.length 0 s₁ _ (by omega) F₁ it fun vs s₂ F₂ it₂ hvs => ?_))
 have hl : vs.length = xs.length := by rw [← List.length_map (f := E), hvs]; simp
 rw [if_neg (by omega)]
 refine wpAny_bind (wpAny_holding (itr_done ok F₂ fr h.src it₂ fun s₃ F₃ => ?_))
 simp only [Option.isSome_none, Bool.false_eq_true, if_false]
 exact wpAny_pure (hQ vs s₃ F₃ (by simpa using hvs))
noncomputable def TGTS (prog : Program) (w : World) (c : Cx) : List PySem.Expr → List V → Loc → Sig → (Loc → Sig → Prop) → Prop
 | e :: es, x :: xs, ρ, σ, Q => TGT prog w c ρ σ e x fun ρ' σ' => TGTS prog w c es xs ρ' σ' Q
 | _, _, ρ, σ, Q => Q ρ σ
theorem tgts {EE : Value → Shared → Prop} : ∀ (es : List PySem.Expr) (vs : List Value) (ρ : Loc) (σ : Sig) (s : Shared) (Q : Loc → Sig → Prop) (P : Unit → Shared → Prop), Fm prog w c ρ σ s → TGTS prog w c es (vs.map E) ρ σ Q →
 (∀ ρ' σ' s', Fm prog w c ρ' σ' s' → Q ρ' σ' → P () s') → wpAny (model prog w) c.A (assignInOrder (es.map fun e => assign e c.env) vs) P EE s
 | [], vs, ρ, σ, s, Q, P, F, h, k => by
  have h' : Q ρ σ := by cases vs <;> exact h
  cases vs <;> exact wpAny_pure (k ρ σ s F h')
 | e :: es, [], ρ, σ, s, Q, P, F, h, k => wpAny_pure (k ρ σ s F h)
 | e :: es, v :: vs, ρ, σ, s, Q, P, F, h, k => by
  show wpAny _ _ (holding vs (assign e c.env v) >>= fun _ => assignInOrder (es.map fun e => assign e c.env) vs) _ _ _
  refine wpAny_bind (wpAny_holding (wpAny_mono (h v rfl s F) (fun _ s₁ h₁ => ?_) fun _ _ x => x.elim))
  revert h₁; refine ex2 fun ρ₁ σ₁ => ?_; rintro ⟨F₁, h₁⟩
  exact tgts es vs ρ₁ σ₁ s₁ Q P F₁ h₁ k
theorem G_tuple (ok : c.Ok prog w K n) {es : List PySem.Expr} {cx : Nat} {pos : Pos} {x : V} {xs : List V} {Q : Loc → Sig → Prop} (k : SK) (h : SrcOf σ x k xs) (hk : ∀ lo hi, k ≠ .rng lo hi) (hl : es.length = xs.length) (ht : TGTS prog w c es xs ρ σ Q)
 (he : assignEach es c.env = es.map fun e => (false, assign e c.env) := by rfl) : TGT prog w c ρ σ (.Tuple es cx pos) x Q := by
 intro u hu s F
 subst hu
 rw [arm_assign_Tuple]
 refine wpAny_bind (wpAny_standAt ?_)
 unfold unpack
 rw [he]
 have e1 : (es.map fun e => (false, assign e c.env)).length = xs.length := by simp [hl]
 have e2 : (es.map fun e => (false, assign e c.env)).findIdx? (·.1) = none := by simp [List.findIdx?_eq_none_iff]
 have e3 : (es.map fun e => (false, assign e c.env)).map (·.2) = es.map fun e => assign e c.env := by simp
 rw [e1, e2, e3]
 refine wpAny_bind (wpAny_holding (unpack_itr ok F h hk fun vs s₁ F₁ hvs => ?_))
 subst hvs
 exact tgts es vs ρ σ s₁ Q _ F₁ ht fun ρ' σ' s' F' hq => ⟨ρ', σ', F', hq⟩
end
section
variable {n : Nat} {c c' : Cx} {ρ ρ' : Loc} {σ σ' τ : Sig} {s s' : Shared}
theorem Fm.notSys (F : Fm prog w c ρ σ s) (ok : c.Ok prog w K n) {a : Addr} {o : AObj} (h : σ a = some o) : (a == sysModules) = false := by
 rw [beq_eq_false_iff_ne]
 rintro rfl
 obtain ⟨ob, e⟩ := ok.base.sm
 rw [(F.free _ _ h).1] at e; cases e
theorem CALL.one {f x : V} {Q : V → Sig → Prop} (h : ∀ g a, E g = f → E a = x → TE prog w c ρ σ (call g [a]) fun v σ' => Q (E v) σ') : CALL prog w c ρ σ f [x] [] Q := by
 intro g vs kv hg hvs hkv
 obtain rfl : kv = [] := by cases kv with | nil => rfl | cons => cases hkv
 refine (ex2 fun a r => an3 ?_) (List.map_eq_cons_iff.mp hvs); rintro rfl; intro e1 hr
 obtain rfl := List.map_eq_nil_iff.mp hr
 exact h g a hg e1
theorem CALL.two {f x y : V} {Q : V → Sig → Prop} (h : ∀ g a b, E g = f → E a = x → E b = y → TE prog w c ρ σ (call g [a, b]) fun v σ' => Q (E v) σ') : CALL prog w c ρ σ f [x, y] [] Q := by
 intro g vs kv hg hvs hkv
 obtain rfl : kv = [] := by cases kv with | nil => rfl | cons => cases hkv
 refine (ex2 fun a r => an3 ?_) (List.map_eq_cons_iff.mp hvs); rintro rfl; intro e1 hr
 refine (ex2 fun b r => an3 ?_) (List.map_eq_cons_iff.mp hr); rintro rfl; intro e2 hr
 obtain rfl := List.map_eq_nil_iff.mp hr
 exact h g a b hg e1 e2
theorem CALL.three {f x y z : V} {Q : V → Sig → Prop} (h : ∀ g a b d, E g = f → E a = x → E b = y → E d = z → TE prog w c ρ σ (call g [a, b, d]) fun v σ' => Q (E v) σ') : CALL prog w c ρ σ f [x, y, z] [] Q := by
 intro g vs kv hg hvs hkv
 obtain rfl : kv = [] := by cases kv with | nil => rfl | cons => cases hkv
 refine (ex2 fun a r => an3 ?_) (List.map_eq_cons_iff.mp hvs); rintro rfl; intro e1 hr
 refine (ex2 fun b r => an3 ?_) (List.map_eq_cons_iff.mp hr); rintro rfl; intro e2 hr
 refine (ex2 fun d r => an3 ?_) (List.map_eq_cons_iff.mp hr); rintro rfl; intro e3 hr
 obtain rfl := List.map_eq_nil_iff.mp hr
 exact h g a b d hg e1 e2 e3
theorem L_list {l : Addr} {xs : List V} {Q : V → Sig → Prop} (hl : σ l = some (.list xs)) (hlen : xs.length ≤ 100000) (h : Q (.int xs.length) σ) : CALL prog w c ρ σ (.bi "len") [.ref l] [] Q := by
 refine CALL.one fun g a hg ha s F => ?_
 obtain rfl := E_bi hg; obtain rfl := E_ref ha
 refine (ex2 fun vs m => ?_) (F.own l _ hl); rintro ⟨e, e'⟩
 have e2 : vs.size = xs.length := by rw [← e']; simp
 exact call_len_list (items := vs) ⟨_, e, rfl, m, rfl⟩ (by rw [e2]; omega) ⟨σ, F.toks _, by rw [e2]; exact h⟩
theorem L_dicI (ok : c.Ok prog w K n) {l : Addr} {g : List (Int × V)} {Q : V → Sig → Prop} (hl : σ l = some (.dicI g)) (hlen : g.length ≤ 100000) (h : Q (.int g.length) σ) : CALL prog w c ρ σ (.bi "len") [.ref l] [] Q := by
 refine CALL.one fun g' a hg ha s F => ?_
 obtain rfl := E_bi hg; obtain rfl := E_ref ha
 obtain ⟨kvs, hd, e'⟩ := F.own l _ hl
 have e2 : kvs.length = g.length := by rw [← e']; simp
 exact call_len_dict (F.notSys ok hl) hd (by rw [e2]; omega) ⟨σ, F.toks _, by rw [e2]; exact h⟩
theorem R_one (ok : c.Ok prog w K n) {i : Int} {Q : V → Sig → Prop} (h : ∀ a, σ a = none → Q (.ref a) (σ.set a (.rng 0 i))) : CALL prog w c ρ σ (.ty "range") [.int i] [] Q := by
 refine CALL.one fun g a hg ha s F => ?_
 obtain rfl := E_ty hg; obtain ⟨t, rfl⟩ := E_int ha
 obtain ⟨F₂, hn⟩ := F.alloc (o := { cls := .type "range", data := .fields #[.int 0 s.toks, .int i t, .int 1 (s.toks + 1)] }) (o' := .rng 0 i) (t := s.toks + 1 + 1) ok rfl ⟨_, _, _, Heap.get?_push_size _ rfl⟩
 exact call_range_1 ⟨_, F₂, h _ hn⟩
theorem R_two (ok : c.Ok prog w K n) {i j : Int} {Q : V → Sig → Prop} (h : ∀ a, σ a = none → Q (.ref a) (σ.set a (.rng i j))) : CALL prog w c ρ σ (.ty "range") [.int i, .int j] [] Q := by
 refine CALL.two fun g a b hg ha hb s F => ?_
 obtain rfl := E_ty hg; obtain ⟨t, rfl⟩ := E_int ha; obtain ⟨u, rfl⟩ := E_int hb
 obtain ⟨F₂, hn⟩ := F.alloc (o := { cls := .type "range", data := .fields #[.int i t, .int j u, .int 1 s.toks] }) (o' := .rng i j) (t := s.toks + 1) ok rfl ⟨_, _, _, Heap.get?_push_size _ rfl⟩
 exact call_range_2 ⟨_, F₂, h _ hn⟩
theorem N_list (ok : c.Ok prog w K n) {x : V} {k : SK} {xs : List V} {Q : V → Sig → Prop} (hs : SrcOf σ x k xs) (hlen : xs.length ≤ 100000) (h : ∀ a, σ a = none → Q (.ref a) (σ.set a (.list xs))) : CALL prog w c ρ σ (.ty "list") [x] [] Q := by
 refine CALL.one fun g a hg ha s F => ?_
 subst ha
 obtain rfl := E_ty hg
 cases k with
 | list l =>
  obtain ⟨e1, e2⟩ := hs
  obtain rfl := E_ref e1
  refine (ex2 fun vs m => ?_) (F.own l _ e2); rintro ⟨e, e'⟩
  refine call_list_seq l (.inl rfl) e rfl rfl (fun h' c' hk hD => ?_) (Yk (by rw [← e'] at hlen; simpa using hlen))
  obtain ⟨F₂, hn⟩ := F.allocAt (t := s.toks) (o' := .list xs) ok (get_size_none _) (F.grow hk) ⟨_, c', hD, e'⟩
  exact ⟨_, F₂, h _ hn⟩
 | tup l =>
  obtain ⟨e1, e2⟩ := hs
  obtain rfl := E_ref e1
  refine (ex2 fun vs m => ?_) (F.own l _ e2); rintro ⟨e, e'⟩
  refine call_list_seq l (.inr rfl) e rfl rfl (fun h' c' hk hD => ?_) (Yk (by rw [← e'] at hlen; simpa using hlen))
  obtain ⟨F₂, hn⟩ := F.allocAt (t := s.toks) (o' := .list xs) ok (get_size_none _) (F.grow hk) ⟨_, c', hD, e'⟩
  exact ⟨_, F₂, h _ hn⟩
 | rng lo hi =>
  revert hs; refine an6 ?_; rintro rfl ⟨l, e1, e2⟩; intro b1 b2 b3 b4
  obtain rfl := E_ref e1
  refine (ex3 fun t u z e3 => ?_) (F.own l _ e2)
  rw [span_len] at hlen
  refine call_list_range ok.hd e3 (span_small b1 b2 b3 b4) span_size (by omega) fun h' tk acc' c' hk hD hacc => ?_
  have ev : acc'.toList.map E = spanZ lo hi := by
   apply List.ext_getElem?
   intro i
   rw [List.getElem?_map]
   by_cases hi' : i < (hi - lo).toNat
   · rw [span_get hi']
     have hi2 : i < acc'.size := by rw [hacc.1]; exact hi'
     obtain ⟨t', ht'⟩ := hacc.2 i acc'[i] (Array.getElem?_eq_getElem hi2)
     rw [Array.getElem?_toList, Array.getElem?_eq_getElem hi2, ht', Int.mul_one]
     rfl
   · rw [List.getElem?_eq_none (by rw [Array.length_toList, hacc.1]; omega), List.getElem?_eq_none (by rw [span_len]; omega)]
     rfl
  obtain ⟨F₂, hn⟩ := F.allocAt (t := tk) (o' := .list (spanZ lo hi)) ok (get_size_none _) (F.grow hk) ⟨_, c', hD, ev⟩
  exact ⟨_, F₂, h _ hn⟩
theorem M_max (ok : c.Ok prog w K n) {i j : Int} {Q : V → Sig → Prop} (h : Q (.int (max i j)) σ) : CALL prog w c ρ σ (.bi "max") [.int i, .int j] [] Q := by
 refine CALL.two fun g a b hg ha hb s F => ?_
 obtain rfl := E_bi hg; obtain ⟨t, rfl⟩ := E_int ha; obtain ⟨u, rfl⟩ := E_int hb
 refine max_two_ints ok.hd fun h' tk hk => ⟨σ, F.grow hk, ?_⟩
 have e : E (if j > i then Value.int j u else Value.int i t) = .int (max i j) := by
  by_cases q : j > i
  · rw [if_pos q, Int.max_eq_right (by omega)]; rfl
  · rw [if_neg q, Int.max_eq_left (by omega)]; rfl
 show Q (E (if j > i then Value.int j u else Value.int i t)) σ
 rw [e]; exact h
theorem S_str {i : Int} {Q : V → Sig → Prop} (hi : i.natAbs < 1000000) (h : Q (.str (Str.ofString (toString i))) σ) : CALL prog w c ρ σ (.ty "str") [.int i] [] Q := by
 refine CALL.one fun g a hg ha s F => ?_
 obtain rfl := E_ty hg; obtain ⟨t, rfl⟩ := E_int ha
 refine PySem.P.str_of_int ?_ ⟨σ, F.toks _, h⟩
 by_cases q : i.natAbs = 0
 · rw [q]; decide
 · exact Nat.lt_trans ((Nat.log2_lt q).mpr (Nat.lt_trans hi (by decide : 1000000 < 2 ^ 20))) (by decide)
theorem I_inst (ok : c.Ok prog w K n) {x C d : Addr} {fs : List (Str × V)} {Q : V → Sig → Prop} (hx : σ x = some (.inst C d)) (hd : σ d = some (.flds fs)) (h : Q (.bool true) σ) : CALL prog w c ρ σ (.bi "isinstance") [.ref x, .ref C] [] Q := by
 refine CALL.two fun g a b hg ha hb s F => ?_
 obtain rfl := E_bi hg; obtain rfl := E_ref ha; obtain rfl := E_ref hb
 refine (ex2 fun es k => an3 fun fe D I => ?_) (F.inst hx hd)
 exact isi_call (ok.base.inK.keeps F.keep) (fun M => InstAt.type I) (by simp [isIn]) (by intro e; cases e) ⟨σ, F, h⟩
theorem M_append {l : Addr} {xs : List V} (hl : σ l = some (.list xs)) : METH prog w K c ρ σ (.ref l) "append" (.bi "list.append") [.ref l] := by
 refine ⟨.inr (.inl ⟨_, rfl⟩), fun a ha P EE s pl F k => ?_⟩
 obtain rfl := E_ref ha
 refine (ex2 fun vs m => ?_) (F.own l _ hl); rintro ⟨e, e'⟩
 refine getMethod_builtin (T := "list") ⟨_, e, rfl⟩ PySem.F.plainAttrs_list PySem.F.slot_list_append PySem.type_list_append (fun a ha => ?_) (k _ _ s.toks rfl rfl)
 cases ha; exact ⟨_, e, rfl⟩
theorem M_reverse {l : Addr} {xs : List V} (hl : σ l = some (.list xs)) : METH prog w K c ρ σ (.ref l) "reverse" (.bi "list.reverse") [.ref l] := by
 refine ⟨.inr (.inl ⟨_, rfl⟩), fun a ha P EE s pl F k => ?_⟩
 obtain rfl := E_ref ha
 refine (ex2 fun vs m => ?_) (F.own l _ hl); rintro ⟨e, e'⟩
 refine getMethod_builtin (T := "list") ⟨_, e, rfl⟩ PySem.F.plainAttrs_list PySem.F.slot_list_reverse PySem.F.type_list_reverse (fun a ha => ?_) (k _ _ s.toks rfl rfl)
 cases ha; exact ⟨_, e, rfl⟩
theorem M_get {l : Addr} {g : List (Str × V)} (hl : σ l = some (.dicS g)) : METH prog w K c ρ σ (.ref l) "get" (.bi "dict.get") [.ref l] := by
 refine ⟨.inr (.inl ⟨_, rfl⟩), fun a ha P EE s pl F k => ?_⟩
 obtain rfl := E_ref ha
 obtain ⟨kvs, hd, e'⟩ := F.own l _ hl
 refine getMethod_builtin (T := "dict") hd.typeIs PySem.F.plainAttrs_dict PySem.F.slot_dict_get PySem.F.type_dict_get (fun a ha => ?_) (k _ _ s.toks rfl rfl)
 exact hd.mapOf.noDict a ha
theorem M_index {l : Addr} {xs : List V} (hl : σ l = some (.tup xs)) : METH prog w K c ρ σ (.ref l) "index" (.bi "tuple.index") [.ref l] := by
 refine ⟨.inr (.inl ⟨_, rfl⟩), fun a ha P EE s pl F k => ?_⟩
 obtain rfl := E_ref ha
 refine (ex2 fun vs m => ?_) (F.own l _ hl); rintro ⟨e, e'⟩
 refine getMethod_builtin (T := "tuple") ⟨_, e, rfl⟩ PySem.F.plainAttrs_tuple PySem.F.slot_tuple_index PySem.F.type_tuple_index (fun a ha => ?_) (k _ _ s.toks rfl rfl)
 cases ha; exact ⟨_, e, rfl⟩
theorem Q_append {l : Addr} {xs : List V} {x : V} {Q : V → Sig → Prop} (hl : σ l = some (.list xs)) (hlen : xs.length ≤ 100000) (h : Q .none (σ.set l (.list (xs ++ [x])))) : CALL prog w c ρ σ (.bi "list.append") [.ref l, x] [] Q := by
 refine CALL.two fun g a b hg ha hb s F => ?_
 obtain rfl := E_bi hg; obtain rfl := E_ref ha; subst hb
 refine (ex2 fun vs m => ?_) (F.own l _ hl); rintro ⟨e, e'⟩
 refine wpAny_list_append_plain ⟨m, e⟩ (fun h' hl' hs' => ?_) (Yk (by rw [← e'] at hlen; simpa using hlen))
 obtain ⟨m', e2⟩ := hl'
 exact ⟨_, F.upd (t := s.toks) (o' := .list (xs ++ [E b])) hl hs' ⟨_, m', e2, by rw [Array.toList_push, List.map_append, e']; rfl⟩, h⟩
theorem Q_reverse {l : Addr} {xs : List V} {Q : V → Sig → Prop} (hl : σ l = some (.list xs)) (hlen : xs.length ≤ 100000) (h : Q .none (σ.set l (.list xs.reverse))) : CALL prog w c ρ σ (.bi "list.reverse") [.ref l] [] Q := by
 refine CALL.one fun g a hg ha s F => ?_
 obtain rfl := E_bi hg; obtain rfl := E_ref ha
 refine (ex2 fun vs m => ?_) (F.own l _ hl); rintro ⟨e, e'⟩
 refine call_meets (T := "list") PySem.F.slot_list_reverse ⟨_, e, rfl⟩ PySem.F.entry_list_reverse (PySem.F.args_list_reverse_1 _) (PySem.AutoListH.list_reverse_list_0 l vs m (Yk (by rw [← e'] at hlen; simpa using hlen))) ⟨e, ?_⟩
 exact ⟨_, F.upd (t := s.toks) (o' := .list xs.reverse) hl (Heap.SameBut.update ..) ⟨_, _, Heap.get?_update_self _ e rfl, by rw [Array.toList_reverse, List.map_reverse, e']⟩, h⟩
theorem Q_get1 (ok : c.Ok prog w K n) {l : Addr} {g : List (Str × V)} {k : Str} {Q : V → Sig → Prop} (hl : σ l = some (.dicS g)) (h : Q ((dlook g k).getD .none) σ) : CALL prog w c ρ σ (.bi "dict.get") [.ref l, .str k] [] Q := by
 refine CALL.two fun g' a b hg ha hb s F => ?_
 obtain rfl := E_bi hg; obtain rfl := E_ref ha; obtain ⟨t, rfl⟩ := E_str hb
 obtain ⟨kvs, hd, e'⟩ := F.own l _ hl
 refine call_meetsIn (T := "dict") PySem.F.slot_dict_get hd.typeIs PySem.F.entry_dict_get (PySem.F.args_dict_get_2 _ _) (meets_dict_get (strKind prog w) l (strKind_is prog w k t) (F.notSys ok hl)) ⟨_, hd.mapOf, ?_⟩
 refine ⟨σ, F.toks _, ?_⟩
 have e : E ((valueAt kvs k).getD .none) = (dlook g k).getD .none := by
  rw [← e', ← valueAt_map]; cases valueAt kvs k <;> rfl
 show Q (E ((valueAt kvs k).getD Value.none)) σ
 rw [e]; exact h
theorem Q_get2 (ok : c.Ok prog w K n) {l : Addr} {g : List (Str × V)} {k : Str} {x : V} {Q : V → Sig → Prop} (hl : σ l = some (.dicS g)) (h : Q ((dlook g k).getD x) σ) : CALL prog w c ρ σ (.bi "dict.get") [.ref l, .str k, x] [] Q := by
 refine CALL.three fun g' a b d hg ha hb hd' s F => ?_
 obtain rfl := E_bi hg; obtain rfl := E_ref ha; obtain ⟨t, rfl⟩ := E_str hb; subst hd'
 obtain ⟨kvs, hd, e'⟩ := F.own l _ hl
 refine call_meetsIn (T := "dict") PySem.F.slot_dict_get hd.typeIs PySem.F.entry_dict_get (PySem.F.args_dict_get_3 _ _ _) (meets_dict_get_default (strKind prog w) l (strKind_is prog w k t) (F.notSys ok hl) d) ⟨_, hd.mapOf, ?_⟩
 refine ⟨σ, F.toks _, ?_⟩
 have e : E ((valueAt kvs k).getD d) = (dlook g k).getD (E d) := by
  rw [← e', ← valueAt_map]; cases valueAt kvs k <;> rfl
 show Q (E ((valueAt kvs k).getD d)) σ
 rw [e]; exact h
end
noncomputable def scal : V → Bool
 | .none => true
 | .bool _ => true
 | .int _ => true
 | .str x => PyData.strOk x
 | _ => false
noncomputable def Dv : V → PyData
 | .bool b => .bool b
 | .int i => .int i
 | .str x => .str x
 | _ => .none
theorem Dn : Dv .none = .none := rfl
theorem Di {i} : Dv (.int i) = .int i := rfl
theorem Ds {s} : Dv (.str s) = .str s := rfl
theorem Db {b} : Dv (.bool b) = .bool b := rfl
theorem sci {i} : scal (.int i) = true := rfl
theorem scn : scal .none = true := rfl
mutual
inductive RD (σ : Sig) : V → PyData → Prop
 | sc {x} : scal x = true → RD σ x (Dv x)
 | list {a vs ds} : σ a = some (.list vs) → RDs σ vs ds → RD σ (.ref a) (.list ds)
 | tup {a vs ds} : σ a = some (.tup vs) → RDs σ vs ds → RD σ (.ref a) (.tuple ds)
inductive RDs (σ : Sig) : List V → List PyData → Prop
 | nil : RDs σ [] []
 | cons {x d xs ds} : RD σ x d → RDs σ xs ds → RDs σ (x :: xs) (d :: ds)
end
theorem RDs.flat {σ : Sig} : ∀ {xs : List V}, (∀ x ∈ xs, scal x = true) → RDs σ xs (xs.map Dv)
 | [], _ => .nil
 | x :: xs, h => .cons (.sc (h x List.mem_cons_self)) (RDs.flat fun y hy => h y (List.mem_cons_of_mem _ hy))
theorem Yo {σ : Sig} {a : Addr} {xs : List V} (h : σ a = some (.list xs)) (hx : ∀ x ∈ xs, scal x = true) : RD σ (.ref a) (.list (xs.map Dv)) := .list h (RDs.flat hx)
theorem RD.flatTup {σ : Sig} {a : Addr} {xs : List V} (h : σ a = some (.tup xs)) (hx : ∀ x ∈ xs, scal x = true) : RD σ (.ref a) (.tuple (xs.map Dv)) := .tup h (RDs.flat hx)
theorem canLay_Dv {x : V} (h : scal x = true) : (Dv x).canLay0 = true := by cases x <;> first | rfl | (simp only [Ds, PyData.canLay0]; exact h)
theorem depth_Dv {x : V} : (Dv x).depth = 0 := by cases x <;> rfl
theorem Yl : ∀ {xs : List V}, (∀ x ∈ xs, scal x = true) → PyData.canLayAll0 (xs.map Dv) = true
 | [], _ => rfl
 | x :: xs, h => by
  rw [List.map_cons, PyData.canLayAll0, canLay_Dv (h x List.mem_cons_self), Yl fun y hy => h y (List.mem_cons_of_mem _ hy)]; rfl
theorem depthAll_Dv : ∀ {xs : List V}, PyData.depthAll (xs.map Dv) = 0
 | [] => rfl
 | x :: xs => by rw [List.map_cons, PyData.depthAll, depth_Dv, depthAll_Dv]; rfl
theorem RD.reads {σ : Sig} {prog : Program} {w : World} {h : Heap} (own : ∀ a o, σ a = some o → Rep prog w o a h) {x : V} {d : PyData} (hr : RD σ x d) : ∀ v, E v = x → ∃ as, Reads h v d as := by
 refine RD.rec (motive_1 := fun x d _ => ∀ v, E v = x → ∃ as, Reads h v d as) (motive_2 := fun xs ds _ => ∀ vs : List Value, vs.map E = xs → ∃ as, ReadsAll h vs ds as) ?_ ?_ ?_ ?_ ?_ hr
 · intro x hs v e
   subst e
   cases v with
   | none => exact ⟨_, .none⟩
   | bool b => exact ⟨_, .bool b⟩
   | int i t => exact ⟨_, .int i t⟩
   | str x t => exact ⟨_, .str x t⟩
   | _ => cases hs
 · intro a xs ds ha hr ih v e
   obtain rfl := E_ref e
   refine (ex2 fun us m => ?_) (own _ _ ha); rintro ⟨e1, e2⟩
   obtain ⟨as, r⟩ := ih us.toList e2
   exact ⟨_, .list e1 rfl rfl r⟩
 · intro a xs ds ha hr ih v e
   obtain rfl := E_ref e
   refine (ex2 fun us m => ?_) (own _ _ ha); rintro ⟨e1, e2⟩
   obtain ⟨as, r⟩ := ih us.toList e2
   exact ⟨_, .tuple e1 rfl rfl r⟩
 · intro vs e
   cases vs with
   | nil => exact ⟨_, .nil⟩
   | cons => cases e
 · intro x d xs ds h1 h2 i1 i2 vs e
   cases vs with
   | nil => cases e
   | cons v vs =>
    obtain ⟨as, r⟩ := i1 v (List.cons.inj e).1
    obtain ⟨bs, rs⟩ := i2 vs (List.cons.inj e).2
    exact ⟨_, .cons r rs⟩
section
variable {n : Nat} {c c' : Cx} {ρ ρ' : Loc} {σ σ' τ : Sig} {s s' : Shared}
theorem Cx.Ok.units (ok : c.Ok prog w K n) {k : Nat} (h : k ≤ 1000) : c.A.units + k < cLine := by
 have := ok.uni
 show c.A.units + k < 9900
 omega
theorem C_eqD (ok : c.Ok prog w K n) {x y : V} {dx dy : PyData} {Q : V → Sig → Prop} (rx : RD σ x dx) (ry : RD σ y dy) (lx : dx.canLay0 = true) (ly : dy.canLay0 = true) (hd : dx.depth ≤ 1000) (h : Q (.bool (PyData.eqv dx dy)) σ) : CMP prog w c ρ σ .Eq x y Q := by
 intro a b ha hb s F
 obtain ⟨as, ra⟩ := rx.reads F.own a ha
 obtain ⟨bs, rb⟩ := ry.reads F.own b hb
 exact PySem.SeqAt.compareEq_reads ra rb lx ly (ok.units (Nat.le_trans (Nat.min_le_left _ _) hd)) ⟨σ, F, h⟩
theorem C_neD (ok : c.Ok prog w K n) {x y : V} {dx dy : PyData} {Q : V → Sig → Prop} (rx : RD σ x dx) (ry : RD σ y dy) (lx : dx.canLay0 = true) (ly : dy.canLay0 = true) (hd : dx.depth ≤ 1000) (h : Q (.bool (!PyData.eqv dx dy)) σ) : CMP prog w c ρ σ .NotEq x y Q := by
 intro a b ha hb s F
 obtain ⟨as, ra⟩ := rx.reads F.own a ha
 obtain ⟨bs, rb⟩ := ry.reads F.own b hb
 exact PySem.SeqAt.compareNe_reads ra rb lx ly (ok.units (Nat.le_trans (Nat.min_le_left _ _) hd)) ⟨σ, F, h⟩
theorem C_eqv (ok : c.Ok prog w K n) {x y : V} {Q : V → Sig → Prop} (hx : scal x = true) (hy : scal y = true) (h : Q (.bool (PyData.eqv (Dv x) (Dv y))) σ) : CMP prog w c ρ σ .Eq x y Q :=
 C_eqD ok (.sc hx) (.sc hy) (canLay_Dv hx) (canLay_Dv hy) (by rw [depth_Dv]; omega) h
noncomputable def isIn (x : V) (xs : List V) : Bool := xs.any fun y => PyData.eqv (Dv y) (Dv x)
theorem any_Dv {x : V} {xs : List V} : ((xs.map Dv).any fun y => PyData.eqv y (Dv x)) = isIn x xs := by unfold isIn; rw [List.any_map]; rfl
theorem inRoom (ok : c.Ok prog w K n) {x : V} {xs : List V} : c.A.units + 1 + min (PyData.depthAll (xs.map Dv)) (Dv x).depth < cLine := by
 rw [depth_Dv, Nat.min_zero]
 exact ok.units (k := 1) (by omega)
theorem C_inL (ok : c.Ok prog w K n) {x : V} {l : Addr} {xs : List V} {Q : V → Sig → Prop} (hl : σ l = some (.list xs)) (hx : scal x = true) (hxs : ∀ y ∈ xs, scal y = true) (h : Q (.bool (isIn x xs)) σ) : CMP prog w c ρ σ .In x (.ref l) Q := by
 intro a b ha hb s F
 obtain ⟨as, ra⟩ := (RD.sc (σ := σ) hx).reads F.own a ha
 obtain ⟨bs, rb⟩ := (Yo hl hxs).reads F.own b hb
 exact PySem.SeqAt.in_list_reads rb ra (Yl hxs) (canLay_Dv hx) (inRoom ok) ⟨σ, F, by rw [any_Dv]; exact h⟩
theorem C_ninL (ok : c.Ok prog w K n) {x : V} {l : Addr} {xs : List V} {Q : V → Sig → Prop} (hl : σ l = some (.list xs)) (hx : scal x = true) (hxs : ∀ y ∈ xs, scal y = true) (h : Q (.bool (!isIn x xs)) σ) : CMP prog w c ρ σ .NotIn x (.ref l) Q := by
 intro a b ha hb s F
 obtain ⟨as, ra⟩ := (RD.sc (σ := σ) hx).reads F.own a ha
 obtain ⟨bs, rb⟩ := (Yo hl hxs).reads F.own b hb
 exact PySem.SeqAt.notIn_list_reads rb ra (Yl hxs) (canLay_Dv hx) (inRoom ok) ⟨σ, F, by rw [any_Dv]; exact h⟩
theorem C_inT (ok : c.Ok prog w K n) {x : V} {l : Addr} {xs : List V} {Q : V → Sig → Prop} (hl : σ l = some (.tup xs)) (hx : scal x = true) (hxs : ∀ y ∈ xs, scal y = true) (h : Q (.bool (isIn x xs)) σ) : CMP prog w c ρ σ .In x (.ref l) Q := by
 intro a b ha hb s F
 obtain ⟨as, ra⟩ := (RD.sc (σ := σ) hx).reads F.own a ha
 obtain ⟨bs, rb⟩ := (RD.flatTup hl hxs).reads F.own b hb
 exact PySem.SeqAt.in_tuple_reads rb ra (Yl hxs) (canLay_Dv hx) (inRoom ok) ⟨σ, F, by rw [any_Dv]; exact h⟩
theorem C_ninT (ok : c.Ok prog w K n) {x : V} {l : Addr} {xs : List V} {Q : V → Sig → Prop} (hl : σ l = some (.tup xs)) (hx : scal x = true) (hxs : ∀ y ∈ xs, scal y = true) (h : Q (.bool (!isIn x xs)) σ) : CMP prog w c ρ σ .NotIn x (.ref l) Q := by
 intro a b ha hb s F
 obtain ⟨as, ra⟩ := (RD.sc (σ := σ) hx).reads F.own a ha
 obtain ⟨bs, rb⟩ := (RD.flatTup hl hxs).reads F.own b hb
 exact PySem.SeqAt.notIn_tuple_reads rb ra (Yl hxs) (canLay_Dv hx) (inRoom ok) ⟨σ, F, by rw [any_Dv]; exact h⟩
theorem C_inS (ok : c.Ok prog w K n) {k : Str} {l : Addr} {g : List (Str × V)} {Q : V → Sig → Prop} (hl : σ l = some (.dicS g)) (h : Q (.bool (dlook g k).isSome) σ) : CMP prog w c ρ σ .In (.str k) (.ref l) Q := by
 intro a b ha hb s F
 obtain ⟨t, rfl⟩ := E_str ha; obtain rfl := E_ref hb
 obtain ⟨kvs, hd, e'⟩ := F.own l _ hl
 refine wpAny_in_of (strKind_is prog w k t) (F.notSys ok hl) hd.mapOf ⟨σ, F.toks _, ?_⟩
 show Q (.bool (valueAt kvs k).isSome) σ
 rw [show (valueAt kvs k).isSome = (dlook g k).isSome by rw [← e', ← valueAt_map, Option.isSome_map]]; exact h
theorem C_ninS (ok : c.Ok prog w K n) {k : Str} {l : Addr} {g : List (Str × V)} {Q : V → Sig → Prop} (hl : σ l = some (.dicS g)) (h : Q (.bool (!(dlook g k).isSome)) σ) : CMP prog w c ρ σ .NotIn (.str k) (.ref l) Q := by
 intro a b ha hb s F
 obtain ⟨t, rfl⟩ := E_str ha; obtain rfl := E_ref hb
 obtain ⟨kvs, hd, e'⟩ := F.own l _ hl
 refine wpAny_notIn_of (strKind_is prog w k t) (F.notSys ok hl) hd.mapOf ⟨σ, F.toks _, ?_⟩
 show Q (.bool (!(valueAt kvs k).isSome)) σ
 rw [show (valueAt kvs k).isSome = (dlook g k).isSome by rw [← e', ← valueAt_map, Option.isSome_map]]; exact h
theorem C_inI (ok : c.Ok prog w K n) {k : Int} {l : Addr} {g : List (Int × V)} {Q : V → Sig → Prop} (hl : σ l = some (.dicI g)) (h : Q (.bool (dlook g k).isSome) σ) : CMP prog w c ρ σ .In (.int k) (.ref l) Q := by
 intro a b ha hb s F
 obtain ⟨t, rfl⟩ := E_int ha; obtain rfl := E_ref hb
 obtain ⟨kvs, hd, e'⟩ := F.own l _ hl
 refine wpAny_in_of (intKind_is prog w k t) (F.notSys ok hl) hd.mapOf ⟨σ, F.toks _, ?_⟩
 show Q (.bool (valueAt kvs k).isSome) σ
 rw [show (valueAt kvs k).isSome = (dlook g k).isSome by rw [← e', ← valueAt_map, Option.isSome_map]]; exact h
theorem C_ninI (ok : c.Ok prog w K n) {k : Int} {l : Addr} {g : List (Int × V)} {Q : V → Sig → Prop} (hl : σ l = some (.dicI g)) (h : Q (.bool (!(dlook g k).isSome)) σ) : CMP prog w c ρ σ .NotIn (.int k) (.ref l) Q := by
 intro a b ha hb s F
 obtain ⟨t, rfl⟩ := E_int ha; obtain rfl := E_ref hb
 obtain ⟨kvs, hd, e'⟩ := F.own l _ hl
 refine wpAny_notIn_of (intKind_is prog w k t) (F.notSys ok hl) hd.mapOf ⟨σ, F.toks _, ?_⟩
 show Q (.bool (!(valueAt kvs k).isSome)) σ
 rw [show (valueAt kvs k).isSome = (dlook g k).isSome by rw [← e', ← valueAt_map, Option.isSome_map]]; exact h
theorem B_cat (ok : c.Ok prog w K n) {l b : Addr} {xs ys : List V} {Q : V → Sig → Prop} (hl : σ l = some (.list xs)) (hb : σ b = some (.list ys)) (hlen : xs.length + ys.length ≤ 100000) (h : ∀ a, σ a = none → Q (.ref a) (σ.set a (.list (xs ++ ys)))) : BIN prog w c ρ σ .Add (.ref l) (.ref b) Q := by
 intro u v hu hv s F
 obtain rfl := E_ref hu; obtain rfl := E_ref hv
 refine (ex2 fun us m => ?_) (F.own l _ hl); rintro ⟨e1, e2⟩
 refine (ex2 fun vs m2 => ?_) (F.own b _ hb); rintro ⟨e3, e4⟩
 obtain ⟨F₂, hn⟩ := F.alloc (o := { cls := .type "list", data := .seq (us ++ vs) }) (o' := .list (xs ++ ys)) (t := s.toks) ok rfl ⟨_, _, Heap.get?_push_size _ rfl, by simp [e2, e4]⟩
 refine PySem.P.add_list e1 e3 ⟨_, F₂, h _ hn⟩ (Yk ?_)
 rw [← e2, ← e4] at hlen
 simpa using hlen
theorem foldl_rep (us : Array Value) : ∀ (k : Nat) (acc : Array Value), (List.foldl (fun x1 x2 => x1 ++ x2) acc (List.replicate k us)).toList = acc.toList ++ (List.replicate k us.toList).flatten
 | 0, acc => by simp
 | k + 1, acc => by rw [List.replicate_succ, List.foldl_cons, foldl_rep us k]; simp [List.replicate_succ]
theorem B_rep (ok : c.Ok prog w K n) {l : Addr} {x : V} {k : Int} {Q : V → Sig → Prop} (hl : σ l = some (.list [x])) (h0 : 0 ≤ k) (hk : k ≤ 100000) (h : ∀ a, σ a = none → Q (.ref a) (σ.set a (.list (List.replicate k.toNat x)))) : BIN prog w c ρ σ .Mult (.ref l) (.int k) Q := by
 intro u v hu hv s F
 obtain rfl := E_ref hu; obtain ⟨t, rfl⟩ := E_int hv
 refine (ex2 fun us m => ?_) (F.own l _ hl); rintro ⟨e1, e2⟩
 refine (ex3 fun h₀ mm news => an3 fun Fr' N' back => ?_) (F.bridge ok)
 have sz : us.size = 1 := by have := congrArg List.length e2; simpa using this
 refine PyProof.Rows.mul_list Fr' N' e1 (by omega) (by omega) (by rw [sz]; omega) fun h' Fr2 N2 => ?_
 obtain ⟨F₂, hk'⟩ := back h' s.toks Fr2 fun p hp => (N2 p (List.mem_cons_of_mem _ hp)).1
 suffices ev : List.map E (List.foldl (fun x1 x2 => x1 ++ x2) #[] (List.replicate (if us.isEmpty = true then 0 else k.toNat) us)).toList = List.replicate k.toNat x by
  obtain ⟨F₃, hn⟩ := F.allocAt (t := s.toks) (o' := .list (List.replicate k.toNat x)) ok (get_size_none _) F₂ ⟨_, _, (N2 _ List.mem_cons_self).1, ev⟩
  exact ⟨_, F₃, h _ hn⟩
 · have ne : us.isEmpty = false := by
    rw [Array.isEmpty_eq_false_iff]; intro q; rw [q] at sz; cases sz
   rw [ne, if_neg Bool.false_ne_true, foldl_rep]
   simp only [List.nil_append, List.map_flatten, List.map_replicate, e2]
   clear ne
   generalize k.toNat = j
   induction j with
   | zero => rfl
   | succ j ih => rw [List.replicate_succ, List.flatten_cons, ih, List.replicate_succ]; rfl
theorem B_cats {x y : Str} {Q : V → Sig → Prop} (hl : x.length + y.length ≤ 100000) (h : Q (.str (x ++ y)) σ) : BIN prog w c ρ σ .Add (.str x) (.str y) Q := by
 intro a b ha hb s F
 obtain ⟨t, rfl⟩ := E_str ha; obtain ⟨u, rfl⟩ := E_str hb
 exact PyProof.Rows.add_str (fun t' k => ⟨σ, F.toks _, h⟩) (Yk hl)
theorem B_reps {ch : Nat} {k : Int} {Q : V → Sig → Prop} (h0 : 0 ≤ k) (hk : k ≤ 1000) (h : Q (.str (Txt.mul ⟨#[ch]⟩ k)) σ) : BIN prog w c ρ σ .Mult (.str ⟨#[ch]⟩) (.int k) Q := by
 intro a b ha hb s F
 obtain ⟨t, rfl⟩ := E_str ha; obtain ⟨u, rfl⟩ := E_int hb
 refine PySem.SB.mul ⟨?_, fun q _ => ?_, fun _ _ => ?_⟩ fun t' k' => ⟨σ, F.toks _, h⟩
 · rw [Bool.or_eq_false_iff, decide_eq_false_iff_not, decide_eq_false_iff_not]; omega
 · show ¬ ((1 : Int) > (2 ^ 63 - 1) / k)
   have : (1 : Int) ≤ (2 ^ 63 - 1) / k := by
    rw [Int.le_ediv_iff_mul_le (by omega)]; omega
   omega
 · unfold Builtin.Str.tooLong
   rw [decide_eq_false_iff_not]
   show ¬ (1 * k.toNat > sizeLine)
   rw [sizeLine_eq]; omega
end
theorem zip_lookup {names : List Str} {vs : List Value} {i : Nat} {x : Str} {v : Value} (nd : names.Nodup) (h1 : names[i]? = some x) (h2 : vs[i]? = some v) : (names.zip vs).lookup x = some v := by
 induction names generalizing vs i with
 | nil => cases h1
 | cons y ns ih =>
  cases vs with
  | nil => cases h2
  | cons u vs =>
   cases i with
   | zero => cases h1; cases h2; rw [List.zip_cons_cons, List.lookup_cons, beq_self_eq_true]
   | succ i =>
    have hne : (x == y) = false := beq_eq_false_iff_ne.mpr fun e => (List.nodup_cons.mp nd).1 (e ▸ List.mem_of_getElem? (i := i) h1)
    rw [List.zip_cons_cons, List.lookup_cons, hne]
    exact ih (List.nodup_cons.mp nd).2 h1 h2
theorem zip_lookup_none : ∀ {names : List Str} {vs : List Value} {x : Str}, (∀ i, names[i]? = some x → vs.length ≤ i) → (names.zip vs).lookup x = none
 | [], vs, x, h => rfl
 | y :: ns, [], x, h => rfl
 | y :: ns, v :: vs, x, h => by
  have hne : (x == y) = false := by
   rw [beq_eq_false_iff_ne]; rintro rfl
   have := h 0 rfl
   simp at this
  rw [List.zip_cons_cons, List.lookup_cons, hne]
  exact zip_lookup_none fun i hi => by have := h (i + 1) (by simpa using hi); simp only [List.length_cons] at this; omega
theorem lookup_append_none {x : Str} {r : List (Str × Value)} : ∀ {l : List (Str × Value)}, l.lookup x = none → (l ++ r).lookup x = r.lookup x
 | [], _ => rfl
 | (y, v) :: l, h => by
  rw [List.lookup_cons] at h
  cases q : x == y with
  | true => rw [q] at h; cases h
  | false => rw [q] at h; rw [List.cons_append, List.lookup_cons, q]; exact lookup_append_none h
theorem lookup_append_some {x : Str} {v : Value} {r : List (Str × Value)} : ∀ {l : List (Str × Value)}, l.lookup x = some v → (l ++ r).lookup x = some v
 | (y, u) :: l, h => by
  rw [List.lookup_cons] at h
  cases q : x == y with
  | true => rw [q] at h; rw [List.cons_append, List.lookup_cons, q]; exact h
  | false => rw [q] at h; rw [List.cons_append, List.lookup_cons, q]; exact lookup_append_some h
theorem fill2 (f : Str × Value → List (Str × Value) → Sem (ForInStep (List (Str × Value)))) (hf : ∀ x d sl, f (x, d) sl = if (sl.lookup x).isNone then pure (.yield (sl ++ [(x, d)])) else pure (.yield sl)) (ps2 sl : List (Str × Value)) (h2 : ∀ p ∈ ps2, sl.lookup p.1 = none) (nd : (ps2.map (·.1)).Nodup) :
 forIn ps2 sl f = (pure (sl ++ ps2) : Sem _) := by
 induction ps2 generalizing sl with
 | nil => rw [List.append_nil]; rfl
 | cons a ps2 ih =>
  have nd := List.nodup_cons.mp nd
  rw [List.forIn_cons, hf, if_pos (by rw [h2 a List.mem_cons_self]; rfl), pure_bind]
  refine (ih (sl ++ [a]) (fun p hp => ?_) nd.2).trans (by rw [List.append_assoc]; rfl)
  have hne : (p.1 == a.1) = false := beq_eq_false_iff_ne.mpr fun e => nd.1 (List.mem_map.mpr ⟨p, hp, e⟩)
  rw [lookup_append_none (h2 p (List.mem_cons_of_mem _ hp)), List.lookup_cons, hne]; rfl
theorem fill_loop (f : Str × Value → List (Str × Value) → Sem (ForInStep (List (Str × Value)))) (hf : ∀ x d sl, f (x, d) sl = if (sl.lookup x).isNone then pure (.yield (sl ++ [(x, d)])) else pure (.yield sl)) (ps1 ps2 sl : List (Str × Value)) (h1 : ∀ p ∈ ps1, (sl.lookup p.1).isSome = true)
 (h2 : ∀ p ∈ ps2, sl.lookup p.1 = none) (nd : (ps2.map (·.1)).Nodup) : forIn (ps1 ++ ps2) sl f = (pure (sl ++ ps2) : Sem _) := by
 induction ps1 with
 | nil => exact fill2 f hf ps2 sl h2 nd
 | cons a ps1 ih =>
  have e : (sl.lookup a.1).isNone = false := by rw [← Option.not_isSome, h1 a List.mem_cons_self]; rfl
  rw [List.cons_append, List.forIn_cons, hf, e, if_neg Bool.false_ne_true, pure_bind]
  exact ih fun p hp => h1 p (List.mem_cons_of_mem _ hp)
theorem read_back {names : List Str} {ws : List Value} (nd : names.Nodup) (hl : names.length = ws.length) (sl : List (Str × Value)) (h : ∀ (i : Nat) (x : Str) (v : Value), names[i]? = some x → ws[i]? = some v → sl.lookup x = some v) : names.filterMap (fun n => (sl.lookup n).map (n, ·)) = names.zip ws := by
 induction names generalizing ws with
 | nil => rfl
 | cons y ns ih =>
  cases ws with
  | nil => cases hl
  | cons v ws =>
   rw [List.filterMap_cons, h 0 y v rfl rfl, List.zip_cons_cons, ← ih (List.nodup_cons.mp nd).2 (Nat.succ.inj hl) fun i x u h1 h2 => h (i + 1) x u h1 h2]
   rfl
theorem bind_gen {s : Shared} {fd : FuncData} {names : List Str} {vs ds : List Value} {k : Nat} (h1 : fd.params.posonlyargs = []) (h2 : fd.params.args.map (·.arg) = names) (h3 : fd.params.vararg = none) (h4 : fd.params.kwonlyargs = []) (h5 : fd.params.kwarg = none)
 (nd : names.Nodup) (hl : names.length = vs.length + k) (hk : k ≤ ds.length) (hdl : ds.length ≤ names.length)
 (hd : ∀ (M : Model) (A : Around) (EE : Value → Shared → Prop) (Q : Option (Array Value) → Shared → Prop), (∀ r, (r.getD #[]).toList = ds → Q r s) → wpAny M A (seqItems? fd.defaults) Q EE s) :
 BindsTo s fd ⟨vs, []⟩ (names.zip (vs ++ ds.drop (ds.length - k))) := by
 intro M A EE Q hq
 unfold bindArgs
 simp only [h1, h2, h3, h4, h5, List.nil_append, List.map_nil]
 rw [List.forIn_nil]
 simp only [pure_bind]
 refine wpAny_bind (hd _ _ _ _ fun r hr => ?_)
 rw [hr]
 have g1 : (decide (vs.length > names.length) && (none : Option Arg).isNone) = false := by
  rw [decide_eq_false (by omega)]; rfl
 have drop0 : ds.drop (ds.length - names.length) = ds := by rw [Nat.sub_eq_zero_of_le hdl, List.drop_zero]
 have g2 : (List.filter (fun n => (List.lookup n (names.zip vs)).isNone) (List.take (names.length - ds.length) names)) = [] := by
  rw [List.filter_eq_nil_iff]
  intro x hx
  obtain ⟨i, hi, hx⟩ := List.mem_iff_getElem.mp hx
  rw [List.length_take] at hi
  rw [List.getElem_take] at hx
  have hi2 : i < vs.length := by omega
  rw [zip_lookup nd (i := i) (v := vs[i]) (by rw [List.getElem?_eq_getElem (by omega), hx]) (List.getElem?_eq_getElem hi2)]
  simp
 rw [g1, drop0]
 simp only [Bool.false_eq_true, if_false]
 rw [g2]
 simp only [List.isEmpty_nil, Bool.not_true, Bool.false_eq_true, if_false]
 have split : (List.drop (names.length - ds.length) names).zip ds = ((List.drop (names.length - ds.length) names).zip ds).take (ds.length - k) ++ ((names.drop vs.length).zip (ds.drop (ds.length - k))) := by
  conv => lhs; rw [← List.take_append_drop (ds.length - k) ((List.drop (names.length - ds.length) names).zip ds)]
  congr 1
  rw [List.zip_eq_zipWith, List.drop_zipWith, List.drop_drop, ← List.zip_eq_zipWith]
  congr 2
  omega
 rw [split]
 have memk : ∀ p ∈ (names.drop vs.length).zip (ds.drop (ds.length - k)), ∃ i, names[i]? = some p.1 ∧ vs.length ≤ i := by
  intro p hp
  have := (List.of_mem_zip (a := p.1) (b := p.2) hp).1
  obtain ⟨i, hi, e⟩ := List.mem_iff_getElem.mp this
  rw [List.getElem_drop] at e
  rw [List.length_drop] at hi
  exact ⟨vs.length + i, by rw [List.getElem?_eq_getElem (by omega), e], by omega⟩
 have a1 : ∀ p ∈ ((List.drop (names.length - ds.length) names).zip ds).take (ds.length - k), ((names.zip vs).lookup p.1).isSome = true := by
  intro p hp
  obtain ⟨i2, hi2, e2⟩ := List.mem_iff_getElem.mp hp
  rw [List.getElem_take, List.getElem_zip, List.getElem_drop] at e2
  rw [List.length_take, List.length_zip, List.length_drop] at hi2
  have hlt : names.length - ds.length + i2 < vs.length := by omega
  rw [zip_lookup nd (i := names.length - ds.length + i2) (v := vs[names.length - ds.length + i2]) (by rw [List.getElem?_eq_getElem (by omega), ← e2]) (List.getElem?_eq_getElem hlt)]
  rfl
 have a2 : ∀ p ∈ (names.drop vs.length).zip (ds.drop (ds.length - k)), (names.zip vs).lookup p.1 = none := by
  intro p hp
  obtain ⟨i, hi, hle⟩ := memk p hp
  refine zip_lookup_none fun j hj => ?_
  have := (List.getElem?_inj (by have := (List.getElem?_eq_some_iff.mp hj).1; exact this) nd).mp (hj.trans hi.symm)
  omega
 have a3 : (((names.drop vs.length).zip (ds.drop (ds.length - k))).map (·.1)).Nodup := by
  have : (((names.drop vs.length).zip (ds.drop (ds.length - k))).map (·.1)).Sublist names := by
   rw [List.map_fst_zip (by rw [List.length_drop, List.length_drop]; omega)]
   exact List.drop_sublist _ _
  exact List.Nodup.sublist this nd
 rw [fill_loop _ (fun x d sl => by cases q : (sl.lookup x).isNone <;> simp [q]) _ _ (names.zip vs) a1 a2 a3]
 · simp only [pure_bind, List.forIn_nil, List.isEmpty_nil, Bool.not_true, Bool.false_eq_true, if_false, List.append_nil]
   refine wpAny_pure ?_
   rw [read_back (ws := vs ++ ds.drop (ds.length - k)) nd (by rw [List.length_append, List.length_drop]; omega) _ fun i x v hx hv => ?_]
   · exact hq
   · by_cases hi : i < vs.length
     · rw [List.getElem?_append_left hi] at hv
       exact lookup_append_some (zip_lookup nd hx hv)
     · rw [List.getElem?_append_right (by omega)] at hv
       rw [lookup_append_none (zip_lookup_none fun j hj => ?_)]
       · refine zip_lookup (List.Nodup.sublist (List.drop_sublist _ _) nd) (i := i - vs.length) ?_ hv
         rw [List.getElem?_drop, show vs.length + (i - vs.length) = i by omega]; exact hx
       · have := (List.getElem?_inj (by have := (List.getElem?_eq_some_iff.mp hj).1; exact this) nd).mp (hj.trans hx.symm)
         omega
noncomputable def plainParams (p : Arguments) (names : List Str) : Bool :=
 p.posonlyargs.isEmpty && p.vararg.isNone && p.kwonlyargs.isEmpty && p.kwarg.isNone && (p.args.map (·.arg) == names) && decide names.Nodup
section
variable {n : Nat} {c c' : Cx} {ρ ρ' : Loc} {σ σ' τ : Sig} {s s' : Shared}
theorem zip_E (names : List Str) (vs : List Value) : (names.zip vs).map (fun p => (p.1, E p.2)) = names.zip (vs.map E) := by
 rw [List.zip_map_right]; rfl
theorem FN {name qual : Str} {params : Arguments} {body : List PySem.Stmt} {scope : Scope} {dfs : List V} {f : Addr} {xs : List V} (names : List Str) (k : Nat) (rest : List Str) (gl : List (Str × V)) {Q : V → Sig → Prop} (ok : c.Ok prog w K n) (hn : 1 ≤ n)
 (ho : FnOk K f name qual params body scope dfs) (hp : plainParams params names = true) (hl : names.length = xs.length + k) (hk : k ≤ dfs.length) (hdl : dfs.length ≤ names.length)
 (hsc : scopeOk scope (names ++ rest) (gl.map (·.1)) = true) (hgl : ∀ p ∈ gl, GV K p.1 p.2)
 (h : ∀ c' : Cx, c'.Ok prog w K (n - 1) → c'.env.scope = scope → c'.gl = gl → STS prog w c' (bindsRho (names.zip (xs ++ dfs.drop (dfs.length - k))) rest) σ body fun o _ σ' => Q (retOf o) σ') :
 CODE prog w c ρ σ (.ref f) xs [] Q := by
 obtain ⟨n, rfl⟩ : ∃ m, n = m + 1 := ⟨n - 1, by omega⟩
 rw [Nat.add_sub_cancel] at h
 refine (ex9 fun oc od osl dV kV doc pm an cdv => ex1 fun ct => an3 fun e1 e2 e3 => ?_) ho.ex
 simp only [plainParams, Bool.and_eq_true, List.isEmpty_iff, Option.isNone_iff_eq_none, beq_iff_eq, decide_eq_true_eq] at hp
 obtain ⟨⟨⟨⟨⟨p1, p2⟩, p3⟩, p4⟩, p5⟩, p6⟩ := hp
 have zl : (names.zip (xs ++ dfs.drop (dfs.length - k))).map (·.1) = names := by
  rw [List.map_fst_zip]; rw [List.length_append, List.length_drop]; omega
 refine FNC (bs := names.zip (xs ++ dfs.drop (dfs.length - k))) (rest := rest) (gl := gl) ok e1 e2 (fun s vs kv X hvs hkv => ?_) (by rw [zl]; exact hsc) hgl fun c' ok' h1 h2 h3 => h c' ok' h1 h3
 obtain rfl : kv = [] := by cases kv with | nil => rfl | cons => cases hkv
 have hlen : vs.length = xs.length := by rw [← hvs]; simp
 rcases e3 with ⟨rfl, rfl⟩ | ⟨T, o, ds, m, rfl, e4, e5, e6⟩
 · refine ⟨names.zip (vs ++ ([] : List Value).drop (([] : List Value).length - k)), bind_gen p1 p5 p2 p3 p4 p6 (by omega) (by simpa using hk) (by simp) fun M A EE Q hq => wpAny_pure (hq none rfl), ?_⟩
   rw [zip_E, List.map_append, hvs]; simp
 · have hdl' : ds.toList.length = dfs.length := by rw [← e6]; simp
   refine ⟨names.zip (vs ++ ds.toList.drop (ds.toList.length - k)), bind_gen p1 p5 p2 p3 p4 p6 (by omega) (by omega) (by omega) fun M A EE Q hq => wpAny_seqItems (X _ _ e4) e5 (hq _ rfl), ?_⟩
   rw [zip_E, List.map_append, hvs, List.map_drop, e6, hdl']
theorem MAKE (ok : c.Ok prog w K n) (hn : 1 ≤ n) {C fI : Addr} {xs : List V} {Q : V → Sig → Prop} (hm : makesIn K C = true) (hi : findIn K (.ref C) "__init__" = some (some (.ref fI))) (hf : isFn K (.ref fI) = true)
 (h : ∀ x d (c' : Cx), σ x = none → σ d = none → x ≠ d → c'.Ok prog w K (n - 1) → CODE prog w c' ρ ((σ.set d (.flds [])).set x (.inst C d)) (.ref fI) (.ref x :: xs) [] fun v σ' => v = .none ∧ Q (.ref x) σ') : CALL prog w c ρ σ (.ref C) xs [] Q := by
 obtain ⟨n, rfl⟩ : ∃ m, n = m + 1 := ⟨n - 1, by omega⟩
 rw [Nat.add_sub_cancel] at h
 exact C_make ok hm hi hf h
noncomputable def Le (σ σ' : Sig) : Prop := ∀ a o, σ a = some o → σ' a = some o
theorem Le.refl : Le σ σ := fun _ _ e => e
theorem Le.trans {σ'' : Sig} (h : Le σ σ') (k : Le σ' σ'') : Le σ σ'' := fun a o e => k a o (h a o e)
theorem Yc {a : Addr} {o : AObj} (h : σ a = none) : Le σ (σ.set a o) := fun b x e => Yg h e
noncomputable def Sig.del (σ : Sig) (a : Addr) : Sig := fun b => if b = a then none else σ b
theorem Yq {a : Addr} : σ.del a a = none := if_pos rfl
theorem Ye {a b : Addr} (h : b ≠ a) : σ.del a b = σ b := if_neg h
theorem Sig.del_set {a : Addr} {o : AObj} (h : σ a = some o) : (σ.del a).set a o = σ := by
 funext b
 by_cases q : b = a
 · subst q; rw [Ya, h]
 · rw [Yd q, Ye q]
theorem Sig.set_set {a : Addr} {o o' : AObj} : (σ.set a o).set a o' = σ.set a o' := by
 funext b
 by_cases q : b = a
 · subst q; rw [Ya, Ya]
 · rw [Yd q, Yd q, Yd q]
theorem Sig.set_self {a : Addr} {o : AObj} (h : σ a = some o) : σ.set a o = σ := by
 funext b
 by_cases q : b = a
 · subst q; rw [Ya, h]
 · rw [Yd q]
theorem Sig.set_comm {a b : Addr} {o o' : AObj} (h : a ≠ b) : (σ.set a o).set b o' = (σ.set b o').set a o := by
 funext x
 by_cases q : x = b
 · subst q; rw [Ya, Yd (Ne.symm h), Ya]
 · rw [Yd q]
   by_cases q2 : x = a
   · subst q2; rw [Ya, Ya]
   · rw [Yd q2, Yd q2, Yd q]
theorem Fm.map (F : Fm prog w c ρ σ s) (h : ∀ a o, σ' a = some o → Rep prog w o a s.heap ∧ ∃ o', σ a = some o') : Fm prog w c ρ σ' s where
 names := F.names
 ns := F.ns
 cl := F.cl
 keep := F.keep
 own := fun a o e => (h a o e).1
 free := fun a o e => by obtain ⟨o', e'⟩ := (h a o e).2; exact F.free a o' e'
 gens := F.gens
 os := F.os
theorem Fm.reset (F : Fm prog w c ρ σ s) {a : Addr} {o o' : AObj} (h : σ a = some o) (r : Rep prog w o' a s.heap) : Fm prog w c ρ (σ.set a o') s :=
 F.map fun b x e => by
  by_cases q : b = a
  · subst q; rw [Ya] at e; cases e; exact ⟨r, o, h⟩
  · rw [Yd q] at e; exact ⟨F.own b x e, x, e⟩
theorem Fm.reveal (F : Fm prog w c ρ σ s) {d : Addr} {k i a : V} (h : σ d = some (.vecd k i a)) : ∃ b, Fm prog w c ρ (σ.set d (.flds (vecFlds k i a b))) s := by
 refine (ex3 fun b es m => ?_) (F.own d _ h); rintro ⟨e, fe⟩
 exact ⟨b, F.reset h ⟨es, m, e, fe⟩⟩
theorem Fm.veil (F : Fm prog w c ρ σ s) {d : Addr} {k i a : V} {b : Bool} (h : σ d = some (.flds (vecFlds k i a b))) : Fm prog w c ρ (σ.set d (.vecd k i a)) s := by
 refine (ex2 fun es m => ?_) (F.own d _ h); rintro ⟨e, fe⟩
 exact F.reset h ⟨b, es, m, e, fe⟩
theorem TE.veil {α : Type} {t : Sem α} {Q : α → Sig → Prop} {d : Addr} {k i a : V} {b : Bool} (h : σ d = some (.flds (vecFlds k i a b))) (hq : TE prog w c ρ (σ.set d (.vecd k i a)) t Q) : TE prog w c ρ σ t Q :=
 fun s F => hq s (F.veil h)
theorem A_getV (ok : c.Ok prog w K n) {x C d : Addr} {k i a : V} {nm : Str} {v : V} {Q : V → Sig → Prop} (hx : σ x = some (.inst C d)) (hd : σ d = some (.vecd k i a)) (ha : AttrOk K C nm) (hg : ∀ b, GetF (vecFlds k i a b) nm v) (hn : notBi v = true)
 (h : Q v σ) : GETA prog w c ρ σ (.ref x) nm Q := by
 have hne : x ≠ d := by rintro rfl; rw [hx] at hd; cases hd
 intro u hu s F
 obtain ⟨b, F'⟩ := F.reveal hd
 refine wpAny_mono (A_get (Q := fun v' σ' => v' = v ∧ σ' = σ.set d (.flds (vecFlds k i a b))) ok (by rw [Yd hne]; exact hx) Ya ha (hg b) hn ⟨rfl, rfl⟩ u hu s F') (fun r s' => ex1 fun σ' => an3 fun G e1 e2 => ?_) fun _ _ z => z
 subst e2
 refine ⟨σ, ?_, ?_⟩
 · have := G.veil (k := k) (i := i) (a := a) (b := b) Ya
   rwa [Sig.set_set, Sig.set_self hd] at this
 · dsimp only at e1 ⊢; rw [e1]; exact h
theorem A_setV (ok : c.Ok prog w K n) {x C d : Addr} {k i a a' : V} {nm : Str} {v : V} {Q : Sig → Prop} (hx : σ x = some (.inst C d)) (hd : σ d = some (.vecd k i a)) (ha : StoreOk K C nm) (hg : ∀ b, ∃ b', SetF (vecFlds k i a b) nm v (vecFlds k i a' b'))
 (h : Q (σ.set d (.vecd k i a'))) : SETA prog w c ρ σ (.ref x) nm v Q := by
 have hne : x ≠ d := by rintro rfl; rw [hx] at hd; cases hd
 intro u y hu hy s F
 obtain ⟨b, F'⟩ := F.reveal hd
 obtain ⟨b', hs⟩ := hg b
 refine wpAny_mono (A_set (Q := fun σ' => σ' = (σ.set d (.flds (vecFlds k i a b))).set d (.flds (vecFlds k i a' b'))) ok (by rw [Yd hne]; exact hx) Ya ha hs (by simp [vecFlds]) rfl u y hu hy s F') (fun r s' => ex1 fun σ' => an2 fun G e2 => ?_) fun _ _ z => z
 subst e2
 rw [Sig.set_set] at G
 have := G.veil (k := k) (i := i) (a := a') (b := b') Ya
 rw [Sig.set_set] at this
 exact ⟨_, this, h⟩
theorem I_instV (ok : c.Ok prog w K n) {x C d : Addr} {k i a : V} {Q : V → Sig → Prop} (hx : σ x = some (.inst C d)) (hd : σ d = some (.vecd k i a)) (h : Q (.bool true) σ) : CALL prog w c ρ σ (.bi "isinstance") [.ref x, .ref C] [] Q := by
 have hne : x ≠ d := by rintro rfl; rw [hx] at hd; cases hd
 intro g vs kv h1 h2 h3 s F
 obtain ⟨b, F'⟩ := F.reveal hd
 refine wpAny_mono (I_inst (Q := fun v' σ' => v' = .bool true ∧ σ' = σ.set d (.flds (vecFlds k i a b))) ok (by rw [Yd hne]; exact hx) Ya ⟨rfl, rfl⟩ g vs kv h1 h2 h3 s F') (fun r s' => ex1 fun σ' => an3 fun G e1 e2 => ?_) fun _ _ z => z
 subst e2
 refine ⟨σ, ?_, ?_⟩
 · have := G.veil (k := k) (i := i) (a := a) (b := b) Ya
   rwa [Sig.set_set, Sig.set_self hd] at this
 · dsimp only at e1 ⊢; rw [e1]; exact h
end
section
open PySem.AutoSeq1 (wpAny_loadPart')
open PySem.MeetsSeq PySem.MeetsSeq2
theorem wpAny_forIn_upto {M : Model} {A : Around} {E : Value → Shared → Prop} {s : Shared} {β : Type} (f : Nat → β → Sem (ForInStep β)) (I : Nat → β → Shared → Prop) (Q : β → Shared → Prop) (hi : Nat)
 (turn : ∀ i b s, i < hi → I i b s → wpAny M A (f i b) (fun r s' => match r with | .yield b' => I (i + 1) b' s' | .done b' => Q b' s') E s)
 (fin : ∀ b s, I hi b s → Q b s) (b : β) (h : I 0 b s) : wpAny M A (forIn ([0:hi] : Std.Legacy.Range) b f) Q E s := by
 rw [Std.Legacy.Range.forIn_eq_forIn_range']
 simp only [Std.Legacy.Range.size, Nat.sub_zero, Nat.add_sub_cancel, Nat.div_one]
 refine wpAny_forIn_list f (fun rest b s' => ∃ i m, rest = List.range' i m ∧ m + i = hi ∧ I i b s') Q ?_ ?_ _ b ⟨0, hi, rfl, rfl, h⟩
 · refine fun x rest b s' => ex2 fun i m => an3 fun e hm hI => ?_
   cases m with
   | zero => cases e
   | succ m =>
    cases e
    refine wpAny_mono (turn x b s' (hm ▸ Nat.lt_add_of_pos_left (Nat.succ_pos m)) hI) (fun r s₂ hr => ?_) fun _ _ z => z
    cases r with
    | done b' => exact hr
    | yield b' => exact ⟨x + 1, m, rfl, (Nat.succ_add_eq_add_succ m x).symm.trans hm, hr⟩
 · refine fun b s' => ex2 fun i m => an3 fun e hm hI => ?_
   cases m with
   | zero => rw [Nat.zero_add] at hm; subst hm; exact fin b s' hI
   | succ m => cases e
theorem tuple_index (l : Addr) (items : Array Value) (n : Nat) (x : Value) (e : Value → Bool) (he : ∀ y, y ∈ items → EqGives y x (e y)) (j : Nat) (hj : j < items.size)
 (hit : e items[j] = true) (hno : ∀ m (hm : m < items.size), m < j → e items[m] = false) :
 Meets (Builtin.«tuple.index» ⟨[.ref l, x], []⟩)
  (fun _ R s => s.heap.get? l = some { cls := .type "tuple", dict := none, data := .seq items n, slots := #[] } ∧ R (.ok (.ret (.int j s.toks))) { s with toks := s.toks + 1 }) :=
 .of_wp fun prog w A R s h => by
  obtain ⟨hp, g, d, tk, os⟩ := s; obtain ⟨hl, h⟩ := h
  wp_walk using wpAny_loadPart' hl, wpAny_forIn_upto _ (fun i b s' => b.1 = none ∧ s' = ⟨hp, g, d, tk, os⟩ ∧ i ≤ j) _ _
  case turn =>
   refine fun i b s' hi => an3 fun hb => ?_; rintro rfl; intro hle
   have hlt : i < items.size := by omega
   rw [Array.getElem?_eq_getElem hlt]
   refine wpAny_bind (he _ (Array.getElem_mem hlt) prog w _ _ _ _ ?_)
   rcases Nat.lt_or_ge i j with q | q
   · rw [hno i hlt q]
     wp_walk
     exact ⟨rfl, rfl, q⟩
   · obtain rfl : i = j := by omega
     rw [hit]
     wp_walk
     exact ⟨_, rfl, h⟩
  case fin =>
   rintro ⟨b1, b2⟩; refine fun s' => an3 fun hb => ?_; rintro rfl; intro hle
   simp only [Nat.min_self] at hle
   omega
  case h =>
   exact ⟨rfl, rfl, Nat.zero_le _⟩
end
section
variable {n : Nat} {c c' : Cx} {ρ ρ' : Loc} {σ σ' τ : Sig} {s s' : Shared}
theorem eqGives_str (x y : Str) (t u : Tok) : PySem.MeetsSeq.EqGives (.str x t) (.str y u) (x == y) := fun _ _ _ _ _ _ h => wpAny_eqBool_str h
theorem Q_index (ok : c.Ok prog w K n) {l : Addr} {ss : List Str} {k : Str} {j : Nat} {Q : V → Sig → Prop} (hl : σ l = some (.tup (ss.map V.str))) (hj : ss[j]? = some k) (hno : ∀ m, m < j → ∀ y, ss[m]? = some y → (y == k) = false) (h : Q (.int (j : Nat)) σ) :
 CALL prog w c ρ σ (.bi "tuple.index") [.ref l, .str k] [] Q := by
 refine CALL.two fun g a b hg ha hb s F => ?_
 obtain rfl := E_bi hg; obtain rfl := E_ref ha; obtain ⟨t, rfl⟩ := E_str hb
 refine (ex2 fun vs m => ?_) (F.own l _ hl); rintro ⟨e1, e2⟩
 have elt : ∀ i (hi : i < vs.size), ∃ (hs : i < ss.length) (t : Tok), vs[i] = .str ss[i] t := by
  intro i hi
  have h1 := congrArg (fun q => q[i]?) e2
  simp only [List.getElem?_map] at h1
  rw [show vs.toList[i]? = some vs[i] by simp [hi]] at h1
  cases q : ss[i]? with
  | none => rw [q] at h1; cases h1
  | some y =>
   rw [q] at h1
   obtain ⟨hs, rfl⟩ := List.getElem?_eq_some_iff.mp q
   obtain ⟨t, ht⟩ := E_str (Option.some.inj h1)
   exact ⟨hs, t, ht⟩
 have hsz : vs.size = ss.length := by have := congrArg List.length e2; simpa using this
 obtain ⟨hjl, hjk⟩ := List.getElem?_eq_some_iff.mp hj
 let e : Value → Bool := fun v => match v with | .str x _ => x == k | _ => false
 have he : ∀ y, y ∈ vs → PySem.MeetsSeq.EqGives y (.str k t) (e y) := by
  intro y hy
  obtain ⟨i, hi, rfl⟩ := Array.mem_iff_getElem.mp hy
  refine (ex2 fun _ t' ht => ?_) (elt i hi)
  rw [ht]
  exact eqGives_str _ _ _ _
 refine call_meets (T := "tuple") PySem.F.slot_tuple_index ⟨_, e1, rfl⟩ PySem.F.entry_tuple_index (PySem.F.args_tuple_index_2 _ _) (tuple_index l vs m (.str k t) e he j (by omega) ?_ ?_) ⟨e1, ⟨σ, F.toks _, h⟩⟩
 · refine (ex2 fun _ t' ht => ?_) (elt j (by omega))
   rw [ht]
   show (ss[j] == k) = true
   rw [hjk]; simp
 · intro i hi hij
   refine (ex2 fun hs t' ht => ?_) (elt i hi)
   rw [ht]
   exact hno i hij _ (List.getElem?_eq_getElem hs)
end
theorem boot_ok : ∀ p ∈ biNames, p.1 ≠ "__name__" ∧ ∃ u, bootBuiltins p.1 = some u ∧ E u = p.2 := by
 have key : ∀ p ∈ biNames, p.1 ≠ "__name__" ∧ (bootBuiltins p.1).map E = some p.2 := by decide +kernel
 intro p hp
 obtain ⟨h1, h2⟩ := key p hp
 obtain ⟨u, hu, he⟩ := Option.map_eq_some_iff.mp h2
 exact ⟨h1, u, hu, he⟩
theorem KOk.gd {K : Frag} (h : KOk K) {x : Str} (i : Nat) (e : defNames[i]? = some x) : GV K x (.ref (gv K x)) := ⟨.inl ⟨_, (h.g x (List.mem_of_getElem? e)).1, rfl⟩, .inl ⟨_, rfl, (h.g x (List.mem_of_getElem? e)).2⟩⟩
theorem kpb {K : Frag} {x : String} : KP K (.bi x) := .inr (.inl ⟨_, rfl⟩)
theorem kpt {K : Frag} {x : String} : KP K (.ty x) := .inr (.inr ⟨_, rfl⟩)
theorem KOk.gb {K : Frag} (h : KOk K) {x : Str} {v : V} (i : Nat) (e : biNames[i]? = some (x, v)) (k : KP K v) : GV K x v := by
 have m := List.mem_of_getElem? e
 refine (an2 fun h1 => ex1 fun u => ?_) (boot_ok _ m); rintro ⟨h2, h3⟩
 exact ⟨.inr ⟨h.b _ m, h1, u, h2, h3⟩, k⟩
theorem KOk.kp {K : Frag} (h : KOk K) {x : Str} (i : Nat) (e : defNames[i]? = some x) : KP K (.ref (gv K x)) := .inl ⟨_, rfl, (h.g x (List.mem_of_getElem? e)).2⟩
inductive GVs (K : Frag) : List (Str × V) → Prop
 | nil : GVs K []
 | cons {x v r} : GV K x v → GVs K r → GVs K ((x, v) :: r)
theorem GVs.all {K : Frag} {l : List (Str × V)} (h : GVs K l) : ∀ p ∈ l, GV K p.1 p.2 := by
 induction h with
 | nil => intro p hp; cases hp
 | cons h _ ih => intro p hp; rcases List.mem_cons.mp hp with rfl | hp; exact h; exact ih p hp
theorem KOk.gD {K : Frag} (h : KOk K) (i : Nat) {x : Str} {l} (r : GVs K l) (e : defNames[i]? = some x := by rfl) : GVs K ((x, .ref (gv K x)) :: l) := .cons (h.gd i e) r
theorem KOk.gB {K : Frag} (h : KOk K) (i : Nat) {x : String} {y : Str} {l} (r : GVs K l) (e : biNames[i]? = some (y, .bi x) := by rfl) : GVs K ((y, .bi x) :: l) := .cons (h.gb i e kpb) r
theorem KOk.gT {K : Frag} (h : KOk K) (i : Nat) {x : String} {y : Str} {l} (r : GVs K l) (e : biNames[i]? = some (y, .ty x) := by rfl) : GVs K ((y, .ty x) :: l) := .cons (h.gb i e kpt) r
noncomputable abbrev g_ (x : Str) : Str × V := (x, .ref (gv K x))
abbrev b_ (x : String) : Str × V := (Str.ofString x, .bi x)
abbrev t_ (x : String) : Str × V := (Str.ofString x, .ty x)
noncomputable def EN (s : PySem.Stmt) (f : Addr) (xs : List V) (gl : List (Str × V)) (ρ' : Loc) : Prop := KOk K → ∀ {n : Nat} {c : Cx} {ρ : Loc} {σ : Sig}, c.Ok prog w K n → 1 ≤ n → ∀ {Q : V → Sig → Prop}, (∀ c' : Cx, c'.Ok prog w K (n - 1) → c'.env.scope = fnScope s → c'.gl = gl → STS prog w c' ρ' σ (fnBody s) (QE Q)) → CODE prog w c ρ σ (.ref f) xs [] Q
noncomputable def ckEN (s : PySem.Stmt) (k lx ld : Nat) (ns gs : List Str) : Bool := plainParams (fnArgs s) (ns.take (lx + k)) && Nat.beq (ns.take (lx + k)).length (lx + k) && Nat.ble k ld && Nat.ble ld (lx + k) && scopeOk (fnScope s) ns gs
theorem EN.of {s : PySem.Stmt} {f : Addr} {xs : List V} {gl : List (Str × V)} {ρ' : Loc} {dfs : List V} {name qual : Str} (k : Nat) (ho : KOk K → FnOk K f name qual (fnArgs s) (fnBody s) (fnScope s) dfs) (hgl : KOk K → GVs K gl)
 (ck : ckEN s k xs.length dfs.length (ρ'.map (·.1)) (gl.map (·.1)) = true) (hρ : bindsRho (((ρ'.map (·.1)).take (xs.length + k)).zip (xs ++ dfs.drop (dfs.length - k))) ((ρ'.map (·.1)).drop (xs.length + k)) = ρ') : EN s f xs gl ρ' := by
 intro hK n c ρ σ ok hn Q h
 simp only [ckEN, Bool.and_eq_true, Nat.beq_eq, Nat.ble_eq] at ck
 obtain ⟨⟨⟨⟨c1, c2⟩, c3⟩, c4⟩, c5⟩ := ck
 refine FN ((ρ'.map (·.1)).take (xs.length + k)) k ((ρ'.map (·.1)).drop (xs.length + k)) gl ok hn (ho hK) c1 c2 c3 (by rw [c2]; exact c4) (by rw [List.take_append_drop]; exact c5) (hgl hK).all fun c' o1 o2 o3 => ?_
 rw [hρ]; exact h c' o1 o2 o3
noncomputable abbrev ENf (i : Nat) (nm : Str) := EN (topStmt i) (gv K nm)
noncomputable abbrev ENm (i j : Nat) (C m : Str) := EN (inClass i j) (mt K C m)
theorem ENf.of {a : Nat} {nm : Str} {xs : List V} {gl : List (Str × V)} {ρ' : Loc} {dfs : List V} (i k : Nat) (hgl : KOk K → GVs K gl) (e : fnTab[i]? = some (a, nm, dfs) := by rfl)
 (ck : ckEN (topStmt a) k xs.length dfs.length (ρ'.map (·.1)) (gl.map (·.1)) = true := by kernel_rfl) (hρ : bindsRho (((ρ'.map (·.1)).take (xs.length + k)).zip (xs ++ dfs.drop (dfs.length - k))) ((ρ'.map (·.1)).drop (xs.length + k)) = ρ' := by rfl) : ENf a nm xs gl ρ' :=
 EN.of k (fun hK => hK.f _ (List.mem_of_getElem? e)) hgl ck hρ
theorem ENm.of {a b : Nat} {C nm : Str} {xs : List V} {gl : List (Str × V)} {ρ' : Loc} {dfs : List V} {qn : Str} (i k : Nat) (hgl : KOk K → GVs K gl) (e : mtTab[i]? = some (a, b, C, nm, qn, dfs) := by rfl)
 (ck : ckEN (inClass a b) k xs.length dfs.length (ρ'.map (·.1)) (gl.map (·.1)) = true := by kernel_rfl) (hρ : bindsRho (((ρ'.map (·.1)).take (xs.length + k)).zip (xs ++ dfs.drop (dfs.length - k))) ((ρ'.map (·.1)).drop (xs.length + k)) = ρ' := by rfl) : ENm a b C nm xs gl ρ' :=
 EN.of k (fun hK => hK.m _ (List.mem_of_getElem? e)) hgl ck hρ
theorem en_law_grain {x0 x1 : V} : ENf 210 "_law_grain" [x0, x1] [b_ "len"] [("mill", some x0), ("out_of", some x1), ("lap_at", none), ("cell", none), ("husk", none), ("dust", none)] := .of 0 0 fun h => h.gB 1 .nil
theorem en_law_frame {x0 : V} : ENf 211 "_law_frame" [x0] [g_ "_law_grain", t_ "range", g_ "integer", g_ "character", g_ "new_frame", b_ "len"] [("mill", some x0), ("high", none), ("columns", none), ("lap", none), ("marks", none)] := .of 1 0 fun h => h.gD 9 (h.gT 4 (h.gD 57 (h.gD 33 (h.gD 86 (h.gB 1 .nil)))))
theorem en_law_index {x0 x1 x2 : V} : ENf 212 "_law_index" [x0, x1, x2] [t_ "range", g_ "_law_grain", g_ "integer", g_ "logical", g_ "character", b_ "len", g_ "missing", t_ "list"] [("mill", some x0), ("extent_now", some x1), ("names", some x2), ("chosen_now", none), ("manner", none)] := .of 2 0 fun h => h.gT 4 (h.gD 9 (h.gD 57 (h.gD 77 (h.gD 33 (h.gB 1 (h.gD 82 (h.gT 2 .nil)))))))
theorem en_law_plain {x0 : V} : ENf 213 "_law_plain" [x0] [] [("df", some x0), ("rows", none)] := .of 3 0 fun h => .nil
theorem en_law_taken {x0 x1 x2 : V} : ENf 214 "_law_taken" [x0, x1, x2] [g_ "_law_plain"] [("df", some x0), ("rows", some x1), ("columns", some x2), ("cells", none), ("sort", none), ("marks", none), ("names", none), ("picked", none)] := .of 4 0 fun h => h.gD 14 .nil
theorem en_law_parts_right {x0 x1 x2 x3 x4 x5 : V} : ENf 215 "_law_parts_right" [x0, x1, x2, x3, x4, x5] [g_ "_law_plain", g_ "b_subset_frame", g_ "flag", g_ "_law_taken", b_ "len", g_ "b_set_frame", t_ "range"] [("interp", some x0), ("df", some x1), ("ix", some x2), ("rows", some x3), ("jx", some x4), ("columns", some x5), ("whole_frame", none), ("args", none), ("kept", none), ("alone", none), ("back", none), ("side", none), ("again", none)] := .of 5 0 fun h => h.gD 14 (h.gD 31 (h.gD 50 (h.gD 15 (h.gB 1 (h.gD 29 (h.gT 4 .nil))))))
theorem en_law_flags_right {x0 x1 x2 x3 x4 : V} : ENf 216 "_law_flags_right" [x0, x1, x2, x3, x4] [t_ "range", g_ "Vector", g_ "integer", g_ "_law_grain", g_ "b_set_frame", t_ "list", b_ "len", t_ "str", g_ "_law_plain"] [("interp", some x0), ("mill", some x1), ("df", some x2), ("high", some x3), ("wide", some x4), ("truths", none), ("matrix_now", none), ("spare", none), ("made", none), ("used", none), ("column", none), ("old", none), ("due", none), ("row", none), ("fresh", none)] := .of 6 0 fun h => h.gT 4 (h.gD 6 (h.gD 57 (h.gD 9 (h.gD 29 (h.gT 2 (h.gB 1 (h.gT 6 (h.gD 14 .nil))))))))
noncomputable def gl_law_names_right (K : Frag) : List (Str × V) := [("character", .ref (gv K "character")), ("range", .ty "range"), ("b_set_colnames", .ref (gv K "b_set_colnames")), ("b_set_rownames", .ref (gv K "b_set_rownames")), ("b_rownames", .ref (gv K "b_rownames")), ("b_colnames", .ref (gv K "b_colnames")), ("_law_plain", .ref (gv K "_law_plain")), ("b_dim_frame", .ref (gv K "b_dim_frame")), ("null", .ref (gv K "null")), ("Refusal", .ref (gv K "Refusal"))]
theorem gvs_law_names_right {K : Frag} (h : KOk K) : GVs K (gl_law_names_right K) := h.gD 33 (h.gT 4 (h.gD 28 (h.gD 30 (h.gD 27 (h.gD 24 (h.gD 14 (h.gD 25 (h.gD 87 (h.gD 5 .nil)))))))))
theorem en_law_names_right {x0 x1 x2 : V} : ENf 217 "_law_names_right" [x0, x1, x2] [g_ "character", t_ "range", g_ "b_set_colnames", g_ "b_set_rownames", g_ "b_rownames", g_ "b_colnames", g_ "_law_plain", g_ "b_dim_frame", g_ "null", g_ "Refusal"] [("df", some x0), ("high", some x1), ("wide", some x2), ("rows", none), ("heads", none), ("made", none), ("counted_anew", none), ("refusal", none)] := .of 7 0 gvs_law_names_right
theorem en_law_items_right {x0 x1 x2 x3 : V} : ENf 218 "_law_items_right" [x0, x1, x2, x3] [t_ "range", g_ "b_element_frame", g_ "character", g_ "integer"] [("interp", some x0), ("df", some x1), ("high", some x2), ("wide", some x3), ("names", none), ("column", none), ("row", none), ("args", none)] := .of 8 0 fun h => h.gT 4 (h.gD 26 (h.gD 33 (h.gD 57 .nil)))
noncomputable def gl_law (K : Frag) : List (Str × V) := [("Evaluator", .ref (gv K "Evaluator")), ("new_frame", .ref (gv K "new_frame")), ("integer", .ref (gv K "integer")), ("b_subset_frame", .ref (gv K "b_subset_frame")), ("missing", .ref (gv K "missing")), ("_law_frame", .ref (gv K "_law_frame")), ("b_rownames", .ref (gv K "b_rownames")), ("_law_index", .ref (gv K "_law_index")), ("_law_parts_right", .ref (gv K "_law_parts_right")), ("_law_flags_right", .ref (gv K "_law_flags_right")), ("_law_names_right", .ref (gv K "_law_names_right")), ("_law_items_right", .ref (gv K "_law_items_right"))]
theorem gvs_law {K : Frag} (h : KOk K) : GVs K (gl_law K) := h.gD 1 (h.gD 86 (h.gD 57 (h.gD 31 (h.gD 82 (h.gD 8 (h.gD 27 (h.gD 10 (h.gD 13 (h.gD 7 (h.gD 12 (h.gD 11 .nil)))))))))))
theorem en_law {x0 : V} : ENf 219 "law" [x0] [g_ "Evaluator", g_ "new_frame", g_ "integer", g_ "b_subset_frame", g_ "missing", g_ "_law_frame", g_ "b_rownames", g_ "_law_index", g_ "_law_parts_right", g_ "_law_flags_right", g_ "_law_names_right", g_ "_law_items_right"] [("script", some x0), ("mill", none), ("interp", none), ("sample", none), ("second", none), ("df", none), ("high", none), ("wide", none), ("words", none), ("ix", none), ("rows", none), ("jx", none), ("columns", none)] := .of 9 0 gvs_law
theorem en_Evaluator_init {x0 x1 x2 : V} : ENm 208 0 "Evaluator" "__init__" [x0, x1, x2] [] [("self", some x0), ("limit", some x1), ("most_frames", some x2)] := .of 0 0 fun h => .nil
theorem en_Evaluator_init_1 {x0 x1 : V} : ENm 208 0 "Evaluator" "__init__" [x0, x1] [] [("self", some x0), ("limit", some x1), ("most_frames", some (.int 40))] := .of 0 1 fun h => .nil
theorem en_Evaluator_init_2 {x0 : V} : ENm 208 0 "Evaluator" "__init__" [x0] [] [("self", some x0), ("limit", some (.int 20000)), ("most_frames", some (.int 40))] := .of 0 2 fun h => .nil
theorem en_Evaluator_new_env {x0 x1 : V} : ENm 208 1 "Evaluator" "new_env" [x0, x1] [g_ "Environment"] [("self", some x0), ("parent", some x1), ("env", none)] := .of 1 0 fun h => h.gD 0 .nil
theorem en_Environment_init {x0 x1 x2 x3 : V} : ENm 46 0 "Environment" "__init__" [x0, x1, x2, x3] [] [("self", some x0), ("number", some x1), ("parent", some x2), ("attrs", some x3)] := .of 2 0 fun h => .nil
theorem en_Environment_init_1 {x0 x1 x2 : V} : ENm 46 0 "Environment" "__init__" [x0, x1, x2] [] [("self", some x0), ("number", some x1), ("parent", some x2), ("attrs", some .none)] := .of 2 1 fun h => .nil
theorem en_Evaluator_warn_all {x0 x1 x2 : V} : ENm 208 5 "Evaluator" "warn_all" [x0, x1, x2] [] [("self", some x0), ("notes", some x1), ("call", some x2), ("note", none)] := .of 3 0 fun h => .nil
theorem en_Evaluator_warn_all_1 {x0 x1 : V} : ENm 208 5 "Evaluator" "warn_all" [x0, x1] [] [("self", some x0), ("notes", some x1), ("call", some .none), ("note", none)] := .of 3 1 fun h => .nil
theorem en_Null_init {x0 : V} : ENm 43 0 "Null" "__init__" [x0] [] [("self", some x0)] := .of 4 0 fun h => .nil
theorem en_Missing_init {x0 : V} : ENm 44 0 "Missing" "__init__" [x0] [] [("self", some x0)] := .of 5 0 fun h => .nil
theorem en_Vector_init {x0 x1 x2 x3 : V} : ENm 45 0 "Vector" "__init__" [x0, x1, x2, x3] [] [("self", some x0), ("kind", some x1), ("items", some x2), ("attrs", some x3)] := .of 6 0 fun h => .nil
theorem en_Vector_init_1 {x0 x1 x2 : V} : ENm 45 0 "Vector" "__init__" [x0, x1, x2] [] [("self", some x0), ("kind", some x1), ("items", some x2), ("attrs", some .none)] := .of 6 1 fun h => .nil
theorem en_null : ENf 50 "null" [] [g_ "Null"] [] := .of 10 0 fun h => h.gD 4 .nil
theorem en_missing : ENf 51 "missing" [] [g_ "Missing"] [] := .of 11 0 fun h => h.gD 3 .nil
theorem en_logical {x0 : V} : ENf 52 "logical" [x0] [g_ "Vector", t_ "list"] [("items", some x0)] := .of 12 0 fun h => h.gD 6 (h.gT 2 .nil)
theorem en_integer {x0 : V} : ENf 53 "integer" [x0] [g_ "Vector", t_ "list"] [("items", some x0)] := .of 13 0 fun h => h.gD 6 (h.gT 2 .nil)
theorem en_character {x0 : V} : ENf 54 "character" [x0] [g_ "Vector", t_ "list"] [("items", some x0)] := .of 14 0 fun h => h.gD 6 (h.gT 2 .nil)
theorem en_flag {x0 : V} : ENf 57 "flag" [x0] [g_ "Vector"] [("b", some x0)] := .of 15 0 fun h => h.gD 6 .nil
theorem en_is_vector {x0 : V} : ENf 60 "is_vector" [x0] [b_ "isinstance", g_ "Vector"] [("v", some x0)] := .of 16 0 fun h => h.gB 0 (h.gD 6 .nil)
theorem en_is_atomic {x0 : V} : ENf 61 "is_atomic" [x0] [] [("v", some x0)] := .of 17 0 fun h => .nil
theorem en_share {x0 : V} : ENf 64 "share" [x0] [b_ "isinstance", g_ "Vector"] [("v", some x0)] := .of 18 0 fun h => h.gB 0 (h.gD 6 .nil)
theorem en_get_attr {x0 x1 : V} : ENf 66 "get_attr" [x0, x1] [] [("v", some x0), ("name", some x1)] := .of 19 0 fun h => .nil
theorem en_label_text {x0 x1 : V} : ENf 69 "label_text" [x0, x1] [t_ "str", g_ "number_text"] [("kind", some x0), ("item", some x1)] := .of 20 0 fun h => h.gT 6 (h.gD 88 .nil)
theorem en_label_texts {x0 : V} : ENf 71 "label_texts" [x0] [g_ "get_attr", g_ "class_attr", g_ "is_atomic", g_ "label_texts"] [("value", some x0), ("levels", none), ("texts", none)] := .of 21 0 fun h => h.gD 54 (h.gD 34 (h.gD 59 (h.gD 73 .nil)))
theorem en_class_attr {x0 : V} : ENf 86 "class_attr" [x0] [g_ "get_attr", t_ "list"] [("v", some x0), ("found", none)] := .of 22 0 fun h => h.gD 54 (h.gT 2 .nil)
theorem en_names_of {x0 : V} : ENf 83 "names_of" [x0] [b_ "sorted", g_ "dim_of", b_ "len", g_ "dimnames_of", g_ "get_attr", t_ "list"] [("v", some x0), ("tag", none), ("dims", none), ("rows", none), ("names", none)] := .of 23 0 fun h => h.gB 5 (h.gD 38 (h.gB 1 (h.gD 39 (h.gD 54 (h.gT 2 .nil)))))
theorem en_dim_of {x0 : V} : ENf 84 "dim_of" [x0] [g_ "get_attr", t_ "list"] [("v", some x0), ("dims", none)] := .of 24 0 fun h => h.gD 54 (h.gT 2 .nil)
theorem en_Matching_init {x0 x1 x2 : V} : ENm 88 0 "Matching" "__init__" [x0, x1, x2] [b_ "len"] [("self", some x0), ("formals", some x1), ("tags", some x2)] := .of 7 0 fun h => h.gB 1 .nil
theorem en_Matching_exact {x0 : V} : ENm 88 1 "Matching" "exact" [x0] [t_ "range", b_ "len", g_ "Refusal", g_ "doubled_text"] [("self", some x0), ("name", none), ("place", none)] := .of 8 0 fun h => h.gT 4 (h.gB 1 (h.gD 5 (h.gD 40 .nil)))
theorem en_Matching_partial {x0 : V} : ENm 88 2 "Matching" "partial" [x0] [] [("self", some x0), ("name", none)] := .of 9 0 fun h => .nil
theorem en_Matching_partial_of {x0 x1 : V} : ENm 88 3 "Matching" "partial_of" [x0, x1] [t_ "range", b_ "len", g_ "Refusal", g_ "doubled_text"] [("self", some x0), ("name", some x1), ("place", none), ("tag", none)] := .of 10 0 fun h => h.gT 4 (h.gB 1 (h.gD 5 (h.gD 40 .nil)))
theorem en_Matching_positional {x0 : V} : ENm 88 4 "Matching" "positional" [x0] [b_ "len"] [("self", some x0), ("place", none), ("name", none)] := .of 11 0 fun h => h.gB 1 .nil
theorem en_Matching_is_free {x0 x1 : V} : ENm 88 5 "Matching" "is_free" [x0, x1] [] [("self", some x0), ("place", some x1)] := .of 12 0 fun h => .nil
theorem en_Matching_rest {x0 : V} : ENm 88 6 "Matching" "rest" [x0] [t_ "range", b_ "len"] [("self", some x0)] := .of 13 0 fun h => h.gT 4 (h.gB 1 .nil)
theorem en_match_names {x0 x1 x2 : V} : ENf 92 "match_names" [x0, x1, x2] [g_ "Matching", b_ "len", g_ "Refusal", g_ "unused_text"] [("formals", some x0), ("args", some x1), ("show", some x2), ("matching", none), ("rest", none)] := .of 25 0 fun h => h.gD 2 (h.gB 1 (h.gD 5 (h.gD 117 .nil)))
theorem en_match_names_1 {x0 x1 : V} : ENf 92 "match_names" [x0, x1] [g_ "Matching", b_ "len", g_ "Refusal", g_ "unused_text"] [("formals", some x0), ("args", some x1), ("show", some .none), ("matching", none), ("rest", none)] := .of 25 1 fun h => h.gD 2 (h.gB 1 (h.gD 5 (h.gD 117 .nil)))
theorem en_needed {x0 x1 : V} : ENf 93 "needed" [x0, x1] [g_ "Refusal"] [("value", some x0), ("name", some x1)] := .of 26 0 fun h => h.gD 5 .nil
theorem en_take {x0 x1 x2 : V} : ENf 94 "take" [x0, x1, x2] [g_ "match_names", t_ "list"] [("args", some x0), ("formals", some x1), ("show", some x2), ("places", none), ("rest", none), ("values", none), ("name", none)] := .of 27 0 fun h => h.gD 81 (h.gT 2 .nil)
theorem en_take_1 {x0 x1 : V} : ENf 94 "take" [x0, x1] [g_ "match_names", t_ "list"] [("args", some x0), ("formals", some x1), ("show", some .none), ("places", none), ("rest", none), ("values", none), ("name", none)] := .of 27 1 fun h => h.gD 81 (h.gT 2 .nil)
theorem en_common_kind {x0 : V} : ENf 98 "common_kind" [x0] [b_ "max", g_ "kind_order"] [("kinds", some x0), ("names", none), ("most", none), ("kind", none)] := .of 28 0 fun h => h.gB 3 (h.gD 71 .nil)
theorem en_kind_order {x0 : V} : ENf 97 "kind_order" [x0] [] [("kind", some x0), ("kinds", none)] := .of 29 0 fun h => .nil
theorem en_to_text {x0 x1 : V} : ENf 106 "to_text" [x0, x1] [t_ "str", g_ "number_text"] [("kind", some x0), ("item", some x1)] := .of 30 0 fun h => h.gT 6 (h.gD 88 .nil)
theorem en_item_as {x0 x1 x2 x3 : V} : ENf 107 "item_as" [x0, x1, x2, x3] [g_ "is_atomic_kind", g_ "share", g_ "Vector", g_ "list_item_as", g_ "to_logical", g_ "to_integer", g_ "to_double", g_ "to_text"] [("kind", some x0), ("item", some x1), ("to", some x2), ("notes", some x3)] := .of 31 0 fun h => h.gD 60 (h.gD 107 (h.gD 6 (h.gD 76 (h.gD 114 (h.gD 113 (h.gD 112 (h.gD 115 .nil)))))))
theorem en_is_atomic_kind {x0 : V} : ENf 108 "is_atomic_kind" [x0] [] [("kind", some x0)] := .of 32 0 fun h => .nil
theorem en_with_names {x0 x1 : V} : ENf 112 "with_names" [x0, x1] [g_ "share", g_ "character"] [("v", some x0), ("names", some x1)] := .of 33 0 fun h => h.gD 107 (h.gD 33 .nil)
theorem en_as_kind {x0 x1 x2 : V} : ENf 113 "as_kind" [x0, x1, x2] [b_ "isinstance", g_ "Vector", g_ "as_vector_kind", g_ "with_names", t_ "list", g_ "names_of"] [("v", some x0), ("kind", some x1), ("notes", some x2), ("items", none)] := .of 34 0 fun h => h.gB 0 (h.gD 6 (h.gD 20 (h.gD 121 (h.gT 2 (h.gD 84 .nil)))))
theorem en_whole_subscripts {x0 : V} : ENf 116 "whole_subscripts" [x0] [g_ "to_whole"] [("ix", some x0), ("found", none), ("item", none)] := .of 35 0 fun h => h.gD 116 .nil
theorem en_logical_places {x0 x1 : V} : ENf 117 "logical_places" [x0, x1] [b_ "len", t_ "range", b_ "max"] [("items", some x0), ("n", some x1), ("count", none), ("places", none), ("i", none), ("item", none)] := .of 36 0 fun h => h.gB 1 (h.gT 4 (h.gB 3 .nil))
theorem en_whole_places {x0 x1 : V} : ENf 118 "whole_places" [x0, x1] [b_ "len", g_ "Refusal", t_ "range"] [("items", some x0), ("n", some x1), ("places", none), ("left_out", none), ("lacks", none), ("item", none)] := .of 37 0 fun h => h.gB 1 (h.gD 5 (h.gT 4 .nil))
theorem en_first_places {x0 : V} : ENf 119 "first_places" [x0] [t_ "range", b_ "len"] [("names", some x0), ("table", none), ("i", none), ("name", none)] := .of 38 0 fun h => h.gT 4 (h.gB 1 .nil)
theorem en_name_places {x0 x1 : V} : ENf 120 "name_places" [x0, x1] [g_ "first_places"] [("texts", some x0), ("names", some x1), ("table", none), ("places", none), ("item", none)] := .of 39 0 fun h => h.gD 48 .nil
theorem en_extending_places {x0 x1 x2 : V} : ENf 121 "extending_places" [x0, x1, x2] [g_ "first_places", b_ "len"] [("texts", some x0), ("n", some x1), ("names", some x2), ("table", none), ("places", none), ("added", none), ("item", none), ("place", none)] := .of 40 0 fun h => h.gD 48 (h.gB 1 .nil)
theorem en_positions {x0 x1 x2 x3 : V} : ENf 122 "positions" [x0, x1, x2, x3] [t_ "list", t_ "range", g_ "logical_places", g_ "whole_places", g_ "whole_subscripts", g_ "extending_places", g_ "name_places", g_ "Refusal"] [("ix", some x0), ("n", some x1), ("names", some x2), ("extend", some x3), ("kind", none)] := .of 41 0 fun h => h.gT 2 (h.gT 4 (h.gD 78 (h.gD 119 (h.gD 120 (h.gD 45 (h.gD 83 (h.gD 5 .nil)))))))
theorem en_one_name {x0 x1 x2 : V} : ENf 124 "one_name" [x0, x1, x2] [g_ "partial_place", g_ "first_places"] [("item", some x0), ("names", some x1), ("exact", some x2)] := .of 42 0 fun h => h.gD 95 (h.gD 48 .nil)
theorem en_one_whole {x0 x1 : V} : ENf 125 "one_whole" [x0, x1] [g_ "Refusal"] [("item", some x0), ("n", some x1)] := .of 43 0 fun h => h.gD 5 .nil
theorem en_one_place {x0 x1 x2 x3 : V} : ENf 126 "one_place" [x0, x1, x2, x3] [g_ "one_name", g_ "Refusal", b_ "len", g_ "one_whole", g_ "whole_subscripts"] [("ix", some x0), ("n", some x1), ("names", some x2), ("exact", some x3), ("kind", none)] := .of 44 0 fun h => h.gD 90 (h.gD 5 (h.gB 1 (h.gD 92 (h.gD 120 .nil))))
theorem en_is_list_kind {x0 : V} : ENf 129 "is_list_kind" [x0] [] [("kind", some x0)] := .of 45 0 fun h => .nil
theorem en_one_item {x0 x1 : V} : ENf 131 "one_item" [x0, x1] [g_ "is_list_kind", g_ "Vector"] [("v", some x0), ("place", some x1)] := .of 46 0 fun h => h.gD 64 (h.gD 6 .nil)
theorem en_vector_element {x0 x1 x2 : V} : ENf 132 "vector_element" [x0, x1, x2] [b_ "len", g_ "one_place", g_ "names_of", g_ "is_list_kind", g_ "Null", g_ "Vector", g_ "Refusal", g_ "one_item"] [("v", some x0), ("ix", some x1), ("exact", some x2), ("n", none), ("place", none)] := .of 47 0 fun h => h.gB 1 (h.gD 91 (h.gD 84 (h.gD 64 (h.gD 4 (h.gD 6 (h.gD 5 (h.gD 89 .nil)))))))
theorem en_element_step {x0 x1 x2 : V} : ENf 135 "element_step" [x0, x1, x2] [g_ "Null", b_ "len", g_ "Refusal", g_ "environment_item", g_ "one_place", g_ "is_vector", g_ "refuse_subset", g_ "vector_element"] [("v", some x0), ("ix", some x1), ("exact", some x2), ("tags", none), ("place", none)] := .of 48 0 fun h => h.gD 4 (h.gB 1 (h.gD 5 (h.gD 44 (h.gD 91 (h.gD 67 (h.gD 102 (h.gD 118 .nil)))))))
theorem en_is_long_index {x0 : V} : ENf 137 "is_long_index" [x0] [g_ "is_vector", g_ "is_list_kind", b_ "len"] [("ix", some x0)] := .of 49 0 fun h => h.gD 67 (h.gD 64 (h.gB 1 .nil))
theorem en_element {x0 x1 x2 : V} : ENf 138 "element" [x0, x1, x2] [b_ "len", g_ "Refusal", g_ "Null", g_ "is_vector", g_ "refuse_subset", g_ "one_item", g_ "array_element_place", g_ "is_long_index", g_ "is_list_kind", g_ "element_step", g_ "index_parts", t_ "range"] [("v", some x0), ("indexes", some x1), ("exact", some x2), ("ix", none), ("parts", none), ("i", none)] := .of 50 0 fun h => h.gB 1 (h.gD 5 (h.gD 4 (h.gD 67 (h.gD 102 (h.gD 89 (h.gD 16 (h.gD 65 (h.gD 64 (h.gD 42 (h.gD 56 (h.gT 4 .nil)))))))))))
theorem en_is_true {x0 x1 : V} : ENf 140 "is_true" [x0, x1] [g_ "as_kind", b_ "len", g_ "Refusal"] [("v", some x0), ("usual", some x1), ("found", none)] := .of 51 0 fun h => h.gD 18 (h.gB 1 (h.gD 5 .nil))
theorem en_make_unique {x0 x1 : V} : ENf 142 "make_unique" [x0, x1] [t_ "str"] [("names", some x0), ("sep", some x1), ("taken", none), ("name", none), ("seen", none), ("counts", none), ("found", none), ("number", none), ("fresh", none)] := .of 52 0 fun h => h.gT 6 .nil
theorem en_is_frame {x0 : V} : ENf 144 "is_frame" [x0] [g_ "class_attr", g_ "names_of", b_ "len", g_ "is_vector", g_ "frame_rows"] [("v", some x0), ("names", none), ("column", none)] := .of 53 0 fun h => h.gD 34 (h.gD 84 (h.gB 1 (h.gD 67 (h.gD 51 .nil))))
theorem en_is_factor {x0 : V} : ENf 145 "is_factor" [x0] [g_ "class_attr", g_ "is_atomic"] [("v", some x0)] := .of 54 0 fun h => h.gD 34 (h.gD 59 .nil)
theorem en_new_frame {x0 x1 x2 : V} : ENf 146 "new_frame" [x0, x1, x2] [g_ "Vector", g_ "character"] [("columns", some x0), ("names", some x1), ("row_labels", some x2), ("made", none)] := .of 55 0 fun h => h.gD 6 (h.gD 33 .nil)
theorem en_plain_rows {x0 : V} : ENf 147 "plain_rows" [x0] [g_ "integer", t_ "list", t_ "range"] [("count", some x0)] := .of 56 0 fun h => h.gD 57 (h.gT 2 (h.gT 4 .nil))
theorem en_frame_rows {x0 : V} : ENf 148 "frame_rows" [x0] [b_ "len"] [("df", some x0)] := .of 57 0 fun h => h.gB 1 .nil
theorem en_column_names {x0 : V} : ENf 149 "column_names" [x0] [g_ "names_of"] [("df", some x0), ("names", none)] := .of 58 0 fun h => h.gD 84 .nil
theorem en_row_names {x0 : V} : ENf 150 "row_names" [x0] [g_ "frame_rows", g_ "label_texts"] [("df", some x0)] := .of 59 0 fun h => h.gD 51 (h.gD 73 .nil)
theorem en_kept_attrs {x0 : V} : ENf 151 "kept_attrs" [x0] [b_ "len"] [("column", some x0), ("kept", none), ("name", none)] := .of 60 0 fun h => h.gB 1 .nil
theorem en_pick_items {x0 x1 : V} : ENf 153 "pick_items" [x0, x1] [b_ "len", g_ "lacking", g_ "Vector", g_ "kept_attrs"] [("column", some x0), ("places", some x1), ("items", none), ("count", none), ("place", none)] := .of 61 0 fun h => h.gB 1 (h.gD 74 (h.gD 6 (h.gD 69 .nil)))
theorem en_picked_labels {x0 x1 : V} : ENf 154 "picked_labels" [x0, x1] [b_ "len", g_ "Vector", g_ "row_names", g_ "character", g_ "make_unique"] [("df", some x0), ("places", some x1), ("labels", none), ("count", none), ("seen", none), ("lacks", none), ("place", none), ("texts", none), ("found", none)] := .of 62 0 fun h => h.gB 1 (h.gD 6 (h.gD 103 (h.gD 33 (h.gD 80 .nil))))
theorem en_pick_rows {x0 x1 : V} : ENf 155 "pick_rows" [x0, x1] [g_ "new_frame", g_ "column_names", g_ "picked_labels"] [("df", some x0), ("places", some x1), ("columns", none)] := .of 63 0 fun h => h.gD 86 (h.gD 35 (h.gD 98 .nil))
theorem en_is_absent {x0 : V} : ENf 156 "is_absent" [x0] [] [("ix", some x0)] := .of 64 0 fun h => .nil
theorem en_row_places {x0 x1 : V} : ENf 157 "row_places" [x0, x1] [g_ "frame_rows", g_ "is_absent", t_ "list", t_ "range", g_ "positions", g_ "row_names"] [("df", some x0), ("ix", some x1), ("count", none)] := .of 65 0 fun h => h.gD 51 (h.gD 58 (h.gT 2 (h.gT 4 (h.gD 100 (h.gD 103 .nil)))))
theorem en_column_places {x0 x1 : V} : ENf 158 "column_places" [x0, x1] [b_ "len", g_ "is_absent", t_ "list", t_ "range", g_ "positions", g_ "column_names", g_ "Refusal"] [("df", some x0), ("ix", some x1), ("count", none), ("places", none), ("place", none)] := .of 66 0 fun h => h.gB 1 (h.gD 58 (h.gT 2 (h.gT 4 (h.gD 100 (h.gD 35 (h.gD 5 .nil))))))
theorem en_select_columns {x0 x1 : V} : ENf 159 "select_columns" [x0, x1] [g_ "column_places", g_ "column_names", g_ "make_unique", g_ "new_frame"] [("df", some x0), ("ix", some x1), ("places", none), ("names", none), ("picked", none)] := .of 67 0 fun h => h.gD 36 (h.gD 35 (h.gD 80 (h.gD 86 .nil)))
theorem en_subset_frame {x0 x1 x2 x3 : V} : ENf 160 "subset_frame" [x0, x1, x2, x3] [g_ "select_columns", g_ "is_absent", g_ "row_places", b_ "len", g_ "pick_items", g_ "pick_rows", g_ "frame_rows", g_ "Vector", t_ "list", g_ "character", g_ "column_names"] [("df", some x0), ("i", some x1), ("j", some x2), ("drop", some x3), ("chosen", none), ("places", none), ("made", none)] := .of 68 0 fun h => h.gD 105 (h.gD 58 (h.gD 104 (h.gB 1 (h.gD 96 (h.gD 97 (h.gD 51 (h.gD 6 (h.gT 2 (h.gD 33 (h.gD 35 .nil))))))))))
theorem en_kind_items {x0 x1 x2 : V} : ENf 163 "kind_items" [x0, x1, x2] [g_ "as_list", g_ "as_kind"] [("v", some x0), ("kind", some x1), ("notes", some x2)] := .of 69 0 fun h => h.gD 19 (h.gD 18 .nil)
theorem en_put_places {x0 x1 x2 x3 : V} : ENf 164 "put_places" [x0, x1, x2, x3] [g_ "is_factor", g_ "factor_codes", g_ "character", g_ "label_texts", g_ "common_kind", g_ "kind_items", g_ "Vector", t_ "list", g_ "kept_attrs", t_ "range", b_ "len"] [("column", some x0), ("places", some x1), ("value", some x2), ("notes", some x3), ("kind", none), ("items", none), ("made", none), ("step", none)] := .of 70 0 fun h => h.gD 61 (h.gD 46 (h.gD 33 (h.gD 73 (h.gD 37 (h.gD 70 (h.gD 6 (h.gT 2 (h.gD 69 (h.gT 4 (h.gB 1 .nil))))))))))
theorem en_fitted_column {x0 x1 : V} : ENf 166 "fitted_column" [x0, x1] [g_ "is_vector", g_ "Refusal", t_ "str", b_ "len", g_ "Vector", g_ "kept_attrs", g_ "pick_items", t_ "range"] [("value", some x0), ("rows", some x1), ("count", none)] := .of 71 0 fun h => h.gD 67 (h.gD 5 (h.gT 6 (h.gB 1 (h.gD 6 (h.gD 69 (h.gD 96 (h.gT 4 .nil)))))))
theorem en_part_rows {x0 x1 : V} : ENf 167 "part_rows" [x0, x1] [g_ "frame_rows", g_ "is_absent", t_ "list", t_ "range", g_ "positions", g_ "row_names", g_ "Refusal", b_ "max"] [("df", some x0), ("ix", some x1), ("count", none), ("places", none), ("added", none), ("after", none), ("place", none)] := .of 72 0 fun h => h.gD 51 (h.gD 58 (h.gT 2 (h.gT 4 (h.gD 100 (h.gD 103 (h.gD 5 (h.gB 3 .nil)))))))
theorem en_part_columns {x0 x1 : V} : ENf 168 "part_columns" [x0, x1] [g_ "column_names", g_ "is_absent", t_ "list", t_ "range", b_ "len", g_ "positions", g_ "Refusal", b_ "max", t_ "str"] [("df", some x0), ("ix", some x1), ("names", none), ("places", none), ("added", none), ("wide", none), ("place", none)] := .of 73 0 fun h => h.gD 35 (h.gD 58 (h.gT 2 (h.gT 4 (h.gB 1 (h.gD 100 (h.gD 5 (h.gB 3 (h.gT 6 .nil))))))))
theorem en_longer_labels {x0 x1 x2 : V} : ENf 169 "longer_labels" [x0, x1, x2] [b_ "len", g_ "integer", t_ "list", t_ "range", g_ "row_names", t_ "str", g_ "character"] [("df", some x0), ("after", some x1), ("added", some x2), ("labels", none), ("count", none), ("texts", none), ("place", none), ("step", none)] := .of 74 0 fun h => h.gB 1 (h.gD 57 (h.gT 2 (h.gT 4 (h.gD 103 (h.gT 6 (h.gD 33 .nil))))))
theorem en_spread_list {x0 x1 x2 : V} : ENf 170 "spread_list" [x0, x1, x2] [b_ "len", g_ "Refusal", t_ "range", g_ "is_vector"] [("value", some x0), ("rows", some x1), ("columns", some x2), ("found", none), ("count", none), ("step", none), ("one", none), ("size", none)] := .of 75 0 fun h => h.gB 1 (h.gD 5 (h.gT 4 (h.gD 67 .nil)))
theorem en_assign_frame {x0 x1 x2 x3 x4 : V} : ENf 172 "assign_frame" [x0, x1, x2, x3, x4] [g_ "part_rows", g_ "part_columns", g_ "without_columns", b_ "len", g_ "is_vector", g_ "Refusal", g_ "spread_list", g_ "spread_items", g_ "frame_rows", g_ "pick_items", t_ "list", t_ "range", g_ "empty_column", g_ "is_absent", g_ "fitted_column", g_ "put_places", g_ "new_frame", g_ "longer_labels"] [("df", some x0), ("i", some x1), ("j", some x2), ("value", some x3), ("notes", some x4), ("rows", none), ("after", none), ("new_rows", none), ("columns", none), ("names", none), ("spread", none), ("values", none), ("made", none), ("column", none), ("step", none), ("place", none)] := .of 76 0 fun h => h.gD 94 (h.gD 93 (h.gD 122 (h.gB 1 (h.gD 67 (h.gD 5 (h.gD 109 (h.gD 108 (h.gD 51 (h.gD 96 (h.gT 2 (h.gT 4 (h.gD 43 (h.gD 58 (h.gD 49 (h.gD 101 (h.gD 86 (h.gD 79 .nil)))))))))))))))))
theorem en_first_frame {x0 : V} : ENf 175 "first_frame" [x0] [b_ "len", g_ "Refusal", g_ "is_frame"] [("args", some x0)] := .of 77 0 fun h => h.gB 1 (h.gD 5 (h.gD 63 .nil))
theorem en_index_arguments {x0 : V} : ENf 176 "index_arguments" [x0] [g_ "first_frame"] [("args", some x0), ("df", none), ("options", none), ("indexes", none), ("tag", none), ("value", none)] := .of 78 0 fun h => h.gD 47 .nil
theorem en_b_subset_frame {x0 x1 x2 : V} : ENf 177 "b_subset_frame" [x0, x1, x2] [g_ "index_arguments", b_ "len", g_ "select_columns", g_ "Refusal", g_ "is_true", g_ "subset_frame"] [("interp", some x0), ("args", some x1), ("env", some x2), ("df", none), ("indexes", none), ("options", none), ("drop", none)] := .of 79 0 fun h => h.gD 55 (h.gB 1 (h.gD 105 (h.gD 5 (h.gD 66 (h.gD 110 .nil)))))
theorem en_b_element_frame {x0 x1 x2 : V} : ENf 178 "b_element_frame" [x0, x1, x2] [g_ "index_arguments", g_ "is_true", b_ "len", g_ "element", g_ "row_places", g_ "frame_rows", g_ "Refusal", g_ "integer"] [("interp", some x0), ("args", some x1), ("env", some x2), ("df", none), ("indexes", none), ("options", none), ("exact", none), ("column", none), ("places", none)] := .of 80 0 fun h => h.gD 55 (h.gD 66 (h.gB 1 (h.gD 41 (h.gD 104 (h.gD 51 (h.gD 5 (h.gD 57 .nil)))))))
theorem en_setter_arguments {x0 : V} : ENf 179 "setter_arguments" [x0] [g_ "index_arguments", b_ "len", g_ "Refusal"] [("args", some x0), ("df", none), ("indexes", none), ("options", none)] := .of 81 0 fun h => h.gD 55 (h.gB 1 (h.gD 5 .nil))
theorem en_is_flag_matrix {x0 x1 : V} : ENf 180 "is_flag_matrix" [x0, x1] [g_ "dim_of", g_ "frame_rows", b_ "len"] [("ix", some x0), ("df", some x1)] := .of 82 0 fun h => h.gD 38 (h.gD 51 (h.gB 1 .nil))
theorem en_assign_flags {x0 x1 x2 x3 : V} : ENf 181 "assign_flags" [x0, x1, x2, x3] [g_ "frame_rows", g_ "is_vector", b_ "len", g_ "Refusal", t_ "range", g_ "put_places", g_ "Vector", g_ "new_frame", g_ "column_names"] [("df", some x0), ("ix", some x1), ("value", some x2), ("notes", some x3), ("rows", none), ("columns", none), ("used", none), ("place", none), ("flags", none), ("places", none), ("column", none), ("items", none)] := .of 83 0 fun h => h.gD 51 (h.gD 67 (h.gB 1 (h.gD 5 (h.gT 4 (h.gD 101 (h.gD 6 (h.gD 86 (h.gD 35 .nil))))))))
theorem en_b_set_frame {x0 x1 x2 : V} : ENf 182 "b_set_frame" [x0, x1, x2] [g_ "setter_arguments", b_ "len", g_ "assign_frame", g_ "is_flag_matrix", g_ "assign_flags", g_ "Refusal"] [("interp", some x0), ("args", some x1), ("env", some x2), ("df", none), ("indexes", none), ("value", none), ("notes", none), ("made", none)] := .of 84 0 fun h => h.gD 106 (h.gB 1 (h.gD 22 (h.gD 62 (h.gD 21 (h.gD 5 .nil)))))
theorem en_b_dim_frame {x0 x1 x2 : V} : ENf 183 "b_dim_frame" [x0, x1, x2] [g_ "first_frame", g_ "integer", g_ "frame_rows", b_ "len"] [("interp", some x0), ("args", some x1), ("env", some x2), ("df", none)] := .of 85 0 fun h => h.gD 47 (h.gD 57 (h.gD 51 (h.gB 1 .nil)))
theorem en_axis_texts {x0 x1 : V} : ENf 184 "axis_texts" [x0, x1] [g_ "is_frame", g_ "character", g_ "row_names", g_ "column_names", g_ "is_vector", g_ "dimnames_of", b_ "len", g_ "null"] [("v", some x0), ("axis", some x1), ("names", none)] := .of 86 0 fun h => h.gD 63 (h.gD 33 (h.gD 103 (h.gD 35 (h.gD 67 (h.gD 39 (h.gB 1 (h.gD 87 .nil)))))))
theorem en_b_rownames {x0 x1 x2 : V} : ENf 185 "b_rownames" [x0, x1, x2] [g_ "axis_texts", g_ "needed", g_ "take"] [("interp", some x0), ("args", some x1), ("env", some x2)] := .of 87 0 fun h => h.gD 23 (h.gD 85 (h.gD 111 .nil))
theorem en_b_colnames {x0 x1 x2 : V} : ENf 186 "b_colnames" [x0, x1, x2] [g_ "axis_texts", g_ "needed", g_ "take"] [("interp", some x0), ("args", some x1), ("env", some x2)] := .of 88 0 fun h => h.gD 23 (h.gD 85 (h.gD 111 .nil))
noncomputable def gl_frame_with_rows (K : Frag) : List (Str × V) := [("frame_rows", .ref (gv K "frame_rows")), ("new_frame", .ref (gv K "new_frame")), ("column_names", .ref (gv K "column_names")), ("plain_rows", .ref (gv K "plain_rows")), ("as_kind", .ref (gv K "as_kind")), ("character", .ref (gv K "character")), ("label_texts", .ref (gv K "label_texts")), ("len", .bi "len"), ("Refusal", .ref (gv K "Refusal")), ("Vector", .ref (gv K "Vector"))]
theorem gvs_frame_with_rows {K : Frag} (h : KOk K) : GVs K (gl_frame_with_rows K) := h.gD 51 (h.gD 86 (h.gD 35 (h.gD 99 (h.gD 18 (h.gD 33 (h.gD 73 (h.gB 1 (h.gD 5 (h.gD 6 .nil)))))))))
theorem en_frame_with_rows {x0 x1 : V} : ENf 187 "frame_with_rows" [x0, x1] [g_ "frame_rows", g_ "new_frame", g_ "column_names", g_ "plain_rows", g_ "as_kind", g_ "character", g_ "label_texts", b_ "len", g_ "Refusal", g_ "Vector"] [("df", some x0), ("value", some x1), ("rows", none), ("labels", none), ("seen", none), ("item", none)] := .of 89 0 gvs_frame_with_rows
theorem en_frame_with_columns {x0 x1 : V} : ENf 188 "frame_with_columns" [x0, x1] [b_ "len", g_ "label_texts", g_ "Refusal", g_ "new_frame"] [("df", some x0), ("value", some x1), ("names", none)] := .of 90 0 fun h => h.gB 1 (h.gD 73 (h.gD 5 (h.gD 86 .nil)))
theorem en_both_arguments {x0 : V} : ENf 190 "both_arguments" [x0] [g_ "take", g_ "needed", g_ "is_atomic", g_ "Refusal"] [("args", some x0), ("v", none), ("value", none)] := .of 91 0 fun h => h.gD 111 (h.gD 85 (h.gD 59 (h.gD 5 .nil)))
noncomputable def gl_b_set_rownames (K : Frag) : List (Str × V) := [("both_arguments", .ref (gv K "both_arguments")), ("is_frame", .ref (gv K "is_frame")), ("frame_with_rows", .ref (gv K "frame_with_rows")), ("array_with_names", .ref (gv K "array_with_names"))]
theorem gvs_b_set_rownames {K : Frag} (h : KOk K) : GVs K (gl_b_set_rownames K) := h.gD 32 (h.gD 63 (h.gD 53 (h.gD 17 .nil)))
theorem en_b_set_rownames {x0 x1 x2 : V} : ENf 191 "b_set_rownames" [x0, x1, x2] [g_ "both_arguments", g_ "is_frame", g_ "frame_with_rows", g_ "array_with_names"] [("interp", some x0), ("args", some x1), ("env", some x2), ("v", none), ("value", none)] := .of 92 0 gvs_b_set_rownames
theorem en_b_set_colnames {x0 x1 x2 : V} : ENf 192 "b_set_colnames" [x0, x1, x2] [g_ "both_arguments", g_ "is_frame", g_ "frame_with_columns", g_ "array_with_names"] [("interp", some x0), ("args", some x1), ("env", some x2), ("v", none), ("value", none)] := .of 93 0 fun h => h.gD 32 (h.gD 63 (h.gD 52 (h.gD 17 .nil)))
theorem en_Refusal_init {x0 x1 : V} : ENm 3 0 "Refusal" "__init__" [x0, x1] [] [("self", some x0), ("message", some x1)] := .of 14 0 fun h => .nil
theorem KOk.kpn {K : Frag} (h : KOk K) {x : Str} (e : defNames.contains x = true) : KP K (.ref (gv K x)) := .inl ⟨_, rfl, (h.g x (List.contains_iff_mem.mp e)).2⟩
theorem ifT {b : Bool} {A B : Prop} (e : b = true) (h : A) : if b = true then A else B := by rw [if_pos e]; exact h
theorem ifF {b : Bool} {A B : Prop} (e : b = false) (h : B) : if b = true then A else B := by rw [if_neg (by rw [e]; simp)]; exact h
theorem ifD {P : Prop} [Decidable P] {A B : Prop} (h1 : P → A) (h2 : ¬ P → B) : if decide P = true then A else B := by
 by_cases h : P
 · rw [if_pos (by simpa using h)]; exact h1 h
 · rw [if_neg (by simpa using h)]; exact h2 h
theorem ifB {b : Bool} {A B : Prop} (h1 : b = true → A) (h2 : b = false → B) : if b = true then A else B := by
 cases b with
 | true => exact h1 rfl
 | false => exact h2 rfl
section
variable {Q : Out → Loc → Sig → Prop} {k : Loc → Sig → Prop} {ρ : Loc} {σ : Sig} {v : V}
theorem Then_next (h : k ρ σ) : Then Q k .next ρ σ := h
theorem Then_ret (h : Q (.ret v) ρ σ) : Then Q k (.ret v) ρ σ := h
theorem Then_cont (h : Q .cont ρ σ) : Then Q k .cont ρ σ := h
theorem Then_brk (h : Q .brk ρ σ) : Then Q k .brk ρ σ := h
theorem LoopQ_next (h : k ρ σ) : LoopQ k Q .next ρ σ := h
theorem LoopQ_cont (h : k ρ σ) : LoopQ k Q .cont ρ σ := h
theorem LoopQ_ret (h : Q (.ret v) ρ σ) : LoopQ k Q (.ret v) ρ σ := h
end
noncomputable def Vec (K : Frag) (σ : Sig) (x : Addr) (k : Str) (l : Addr) (xs : List V) (a : V) : Prop :=
 ∃ d, σ x = some (.inst (gv K "Vector") d) ∧ σ d = some (.vecd (.str k) (.ref l) a) ∧ σ l = some (.list xs)
theorem Vec.mono {K : Frag} {σ σ' : Sig} {x : Addr} {k : Str} {l : Addr} {xs : List V} {a : V} (h : Vec K σ x k l xs a) (le : Le σ σ') : Vec K σ' x k l xs a :=
 by obtain ⟨d, h1, h2, h3⟩ := h; exact ⟨d, le _ _ h1, le _ _ h2, le _ _ h3⟩
theorem Vec.list {K : Frag} {σ : Sig} {x : Addr} {k : Str} {l : Addr} {xs : List V} {a : V} (h : Vec K σ x k l xs a) : σ l = some (.list xs) := by obtain ⟨d, h1, h2, h3⟩ := h; exact h3
theorem KOk.at {K : Frag} (hK : KOk K) {C m : Str} (i : Nat) (e : atTab[i]? = some (C, m)) : AttrOk K (gv K C) m := (hK.a _ (List.mem_of_getElem? e)).1
theorem KOk.st {K : Frag} (hK : KOk K) {C m : Str} (i : Nat) (e : atTab[i]? = some (C, m)) : StoreOk K (gv K C) m := (hK.a _ (List.mem_of_getElem? e)).2
section
variable {n : Nat} {c : Cx} {ρ : Loc} {σ : Sig} {x l : Addr} {k : Str} {xs : List V} {a : V} {Q : V → Sig → Prop}
theorem V_kind (hK : KOk K) (ok : c.Ok prog w K n) (h : Vec K σ x k l xs a) (hq : Q (.str k) σ) : GETA prog w c ρ σ (.ref x) "kind" Q :=
 by obtain ⟨d, h1, h2, h3⟩ := h; exact A_getV ok h1 h2 (hK.at 37 rfl) (fun b => .head) rfl hq
theorem V_items (hK : KOk K) (ok : c.Ok prog w K n) (h : Vec K σ x k l xs a) (hq : Q (.ref l) σ) : GETA prog w c ρ σ (.ref x) "items" Q :=
 by obtain ⟨d, h1, h2, h3⟩ := h; exact A_getV ok h1 h2 (hK.at 36 rfl) (fun b => .tail (by dsimp only; decide +kernel) .head) rfl hq
theorem V_attrs (hK : KOk K) (ok : c.Ok prog w K n) (h : Vec K σ x k l xs a) (ha : notBi a = true) (hq : Q a σ) : GETA prog w c ρ σ (.ref x) "attrs" Q :=
 by obtain ⟨d, h1, h2, h3⟩ := h; exact A_getV ok h1 h2 (hK.at 35 rfl) (fun b => .tail (by dsimp only; decide +kernel) (.tail (by dsimp only; decide +kernel) .head)) ha hq
theorem V_isinst (ok : c.Ok prog w K n) (h : Vec K σ x k l xs a) (hq : Q (.bool true) σ) : CALL prog w c ρ σ (.bi "isinstance") [.ref x, .ref (gv K "Vector")] [] Q :=
 by obtain ⟨d, h1, h2, h3⟩ := h; exact I_instV ok h1 h2 hq
theorem V_setShared (hK : KOk K) (ok : c.Ok prog w K n) (h : Vec K σ x k l xs a) {Q : Sig → Prop} (hq : Q σ) : SETA prog w c ρ σ (.ref x) "shared" (.bool true) Q := by
 revert h; refine ex1 fun d => an3 fun h1 h2 h3 => ?_
 refine A_setV (a' := a) ok h1 h2 (hK.st 39 rfl) (fun b => ⟨true, .tail (by dsimp only; decide +kernel) (.tail (by dsimp only; decide +kernel) (.tail (by dsimp only; decide +kernel) .head))⟩) ?_
 rw [Sig.set_self h2]; exact hq
theorem V_setAttrs (hK : KOk K) (ok : c.Ok prog w K n) {d : Addr} {ki it a a' : V} (h1 : σ x = some (.inst (gv K "Vector") d)) (h2 : σ d = some (.vecd ki it a)) {Q : Sig → Prop} (hq : Q (σ.set d (.vecd ki it a'))) : SETA prog w c ρ σ (.ref x) "attrs" a' Q :=
 A_setV ok h1 h2 (hK.st 35 rfl) (fun b => ⟨b, .tail (by dsimp only; decide +kernel) (.tail (by dsimp only; decide +kernel) .head)⟩) hq
end
section
variable {n : Nat} {c : Cx} {ρ : Loc} {σ τ : Sig}
theorem notInter (ok : c.Ok prog w K n) : interactive c.env = false := by
 unfold interactive; rw [ok.kind]; rfl
theorem CODE.drop {f : V} {xs : List V} {kw : List (Str × V)} {Q : V → Sig → Prop} (h : CODE prog w c ρ σ f xs kw fun v σ' => ∃ τ, Le τ σ' ∧ Q v τ) : CODE prog w c ρ σ f xs kw Q := by
 intro g vs kv h1 h2 h3 s F
 refine codeAny_mono (h g vs kv h1 h2 h3 s F) fun r s' hr => ?_
 cases r with
 | error e => exact hr
 | ok f =>
  cases f with
  | ret v => revert hr; refine ex1 fun σ' => an2 fun F' => ex1 fun τ => ?_; rintro ⟨le, hq⟩; exact ⟨τ, F'.drop le, hq⟩
  | next => exact hr
  | brk => exact hr
  | cont => exact hr
theorem TE.dropQ {α : Type} {t : Sem α} {Q : α → Sig → Prop} (h : TE prog w c ρ σ t fun v σ' => ∃ τ, Le τ σ' ∧ Q v τ) : TE prog w c ρ σ t Q := fun s F =>
 wpAny_mono (h s F) (fun _ _ => ex1 fun _ => an2 fun F' => ex1 fun τ => an2 fun le hq => ⟨τ, F'.drop le, hq⟩) fun _ _ x => x
theorem EX.dropQ {e : PySem.Expr} {Q : V → Sig → Prop} (h : EX prog w c ρ σ e fun v σ' => ∃ τ, Le τ σ' ∧ Q v τ) : EX prog w c ρ σ e Q := TE.dropQ h
theorem STS.dropQ {e : List PySem.Stmt} {Q : Out → Loc → Sig → Prop} (h : STS prog w c ρ σ e fun v ρ' σ' => ∃ τ, Le τ σ' ∧ Q v ρ' τ) : STS prog w c ρ σ e Q := fun s F =>
 wpAny_mono (h s F) (fun _ _ => ex2 fun _ _ => an2 fun F' => ex1 fun τ => an2 fun le hq => ⟨_, τ, F'.drop le, hq⟩) fun _ _ x => x
theorem STS.lose {e : List PySem.Stmt} {Q : Out → Loc → Sig → Prop} (le : Le τ σ) (h : STS prog w c ρ τ e Q) : STS prog w c ρ σ e Q := fun s F => h s (F.drop le)
theorem EX.lose {e : PySem.Expr} {Q : V → Sig → Prop} (le : Le τ σ) (h : EX prog w c ρ τ e Q) : EX prog w c ρ σ e Q := fun s F => h s (F.drop le)
theorem CMP.lose {op : CmpOp} {x y : V} {Q : V → Sig → Prop} (le : Le τ σ) (h : CMP prog w c ρ τ op x y Q) : CMP prog w c ρ σ op x y Q := fun a b h1 h2 s F => h a b h1 h2 s (F.drop le)
noncomputable def inOk (x : V) (xs : List V) : Bool := scal x && xs.all scal && decide (xs.length ≤ 1000)
structure InTup (x : V) (xs : List V) (P : Prop) : Prop where
 intro ::
 ok : inOk x xs = true
 go : P
theorem in_tup (ok : c.Ok prog w K n) {x : V} {xs : List V} {Q : V → Sig → Prop} (h : InTup x xs (Q (.bool (isIn x xs)) σ)) : xs.length ≤ 100000 ∧ ∀ a, σ a = none → CMP prog w c ρ (σ.set a (.tup xs)) .In x (.ref a) Q := by
 obtain ⟨h1, h2⟩ := h
 simp only [inOk, Bool.and_eq_true, List.all_eq_true, decide_eq_true_eq] at h1
 refine ⟨by omega, fun a ha => ?_⟩
 intro u v hu hv
 exact TE.dropQ (C_inT ok Ya h1.1.1 h1.1.2 (Q := fun v σ' => ∃ τ, Le τ σ' ∧ Q v τ) ⟨σ, Yc ha, h2⟩ u v hu hv)
theorem nin_tup (ok : c.Ok prog w K n) {x : V} {xs : List V} {Q : V → Sig → Prop} (h : InTup x xs (Q (.bool (!isIn x xs)) σ)) : xs.length ≤ 100000 ∧ ∀ a, σ a = none → CMP prog w c ρ (σ.set a (.tup xs)) .NotIn x (.ref a) Q := by
 obtain ⟨h1, h2⟩ := h
 simp only [inOk, Bool.and_eq_true, List.all_eq_true, decide_eq_true_eq] at h1
 refine ⟨by omega, fun a ha => ?_⟩
 intro u v hu hv
 exact TE.dropQ (C_ninT ok Ya h1.1.1 h1.1.2 (Q := fun v σ' => ∃ τ, Le τ σ' ∧ Q v τ) ⟨σ, Yc ha, h2⟩ u v hu hv)
theorem X_inTup (ok : c.Ok prog w K n) {l : PySem.Expr} {es : List PySem.Expr} {cx : Nat} {p pos : Pos} {Q : V → Sig → Prop} (h : EX prog w c ρ σ l fun x σ₁ => EXS prog w c ρ σ₁ es fun xs σ₂ => InTup x xs (Q (.bool (isIn x xs)) σ₂)) : EX prog w c ρ σ (.Compare l [.In] [.Tuple es cx p] pos) Q :=
 X_cmp (TE.mono h fun x σ₁ hx => X_tuple ok fun pos => TE.mono (hx pos) fun xs σ₂ hxs => in_tup ok hxs) (by with_unfolding_all rfl)
theorem T_inTup (ok : c.Ok prog w K n) {l : PySem.Expr} {es : List PySem.Expr} {cx : Nat} {p pos : Pos} {Q : Bool → Sig → Prop} (h : EX prog w c ρ σ l fun x σ₁ => EXS prog w c ρ σ₁ es fun xs σ₂ => InTup x xs (Q (isIn x xs) σ₂)) : TST prog w c ρ σ (.Compare l [.In] [.Tuple es cx p] pos) Q :=
 T_cmp (TE.mono h fun x σ₁ hx => X_tuple ok fun pos => TE.mono (hx pos) fun xs σ₂ hxs => in_tup ok ⟨hxs.ok, U_bool hxs.go⟩) (by with_unfolding_all rfl)
theorem T_ninTup (ok : c.Ok prog w K n) {l : PySem.Expr} {es : List PySem.Expr} {cx : Nat} {p pos : Pos} {Q : Bool → Sig → Prop} (h : EX prog w c ρ σ l fun x σ₁ => EXS prog w c ρ σ₁ es fun xs σ₂ => InTup x xs (Q (!isIn x xs) σ₂)) : TST prog w c ρ σ (.Compare l [.NotIn] [.Tuple es cx p] pos) Q :=
 T_cmp (TE.mono h fun x σ₁ hx => X_tuple ok fun pos => TE.mono (hx pos) fun xs σ₂ hxs => nin_tup ok ⟨hxs.ok, U_bool hxs.go⟩) (by with_unfolding_all rfl)
end
theorem KOk.atn {K : Frag} (hK : KOk K) {C m : Str} (e : atTab.contains (C, m) = true) : AttrOk K (gv K C) m := (hK.a _ (List.contains_iff_mem.mp e)).1
theorem KOk.stn {K : Frag} (hK : KOk K) {C m : Str} (e : atTab.contains (C, m) = true) : StoreOk K (gv K C) m := (hK.a _ (List.contains_iff_mem.mp e)).2
section
variable {n : Nat} {c : Cx} {ρ : Loc} {σ τ : Sig}
noncomputable def fresh (σ : Sig) (x C d : Addr) (fs : List (Str × V)) : Sig := (σ.set d (.flds fs)).set x (.inst C d)
theorem fresh_d {x C d : Addr} {fs : List (Str × V)} (hne : x ≠ d) : fresh σ x C d fs d = some (.flds fs) := by unfold fresh; rw [Yd (Ne.symm hne), Ya]
theorem fresh_x {x C d : Addr} {fs : List (Str × V)} : fresh σ x C d fs x = some (.inst C d) := Ya
theorem fresh_put {x C d : Addr} {fs : List (Str × V)} {o : AObj} (hne : x ≠ d) : (fresh σ x C d fs).set d o = (σ.set d o).set x (.inst C d) := by
 unfold fresh; rw [Sig.set_comm hne, Sig.set_set]
theorem A_setI (ok : c.Ok prog w K n) {x C d : Addr} {fs fs' : List (Str × V)} {nm : Str} {v : V} {Q : Sig → Prop} (hne : x ≠ d) (ha : StoreOk K C nm) (hs : SetF fs nm v fs') (hl : fs.length < 900) (h : Q (fresh σ x C d fs')) : SETA prog w c ρ (fresh σ x C d fs) (.ref x) nm v Q :=
 A_set ok fresh_x (fresh_d hne) ha hs hl (by rw [fresh_put hne]; exact h)
theorem A_getI (ok : c.Ok prog w K n) {x C d : Addr} {fs : List (Str × V)} {nm : Str} {v : V} {Q : V → Sig → Prop} (hne : x ≠ d) (ha : AttrOk K C nm) (hs : GetF fs nm v) (hb : notBi v = true) (h : Q v (fresh σ x C d fs)) : GETA prog w c ρ (fresh σ x C d fs) (.ref x) nm Q :=
 A_get ok fresh_x (fresh_d hne) ha hs hb h
theorem fresh_le {x C d : Addr} {fs : List (Str × V)} (hx : σ x = none) (hd : σ d = none) (hne : x ≠ d) : Le σ (fresh σ x C d fs) :=
 (Yc hd).trans (Yc (by rw [Yd hne]; exact hx))
noncomputable def Yj (K : Frag) (σ : Sig) (x d : Addr) (k l a : V) : Sig := (σ.set d (.vecd k l a)).set x (.inst (gv K "Vector") d)
structure Fresh2 (σ : Sig) (x d : Addr) : Prop where
 fx : σ x = none
 fd : σ d = none
 ne : x ≠ d
theorem newVec_le {x d : Addr} {k l a : V} (f : Fresh2 σ x d) : Le σ (Yj K σ x d k l a) := (Yc f.fd).trans (Yc (by rw [Yd f.ne]; exact f.fx))
theorem newVec_vec {x d l : Addr} {k : Str} {a : V} {xs : List V} (f : Fresh2 σ x d) (hl : σ l = some (.list xs)) : Vec K (Yj K σ x d (.str k) (.ref l) a) x k l xs a := by
 refine ⟨d, Ya, ?_, newVec_le f _ _ hl⟩
 unfold Yj
 rw [Yd (Ne.symm f.ne), Ya]
end
section
variable {n : Nat} {c : Cx} {ρ : Loc} {σ τ : Sig}
noncomputable def Cv (prog : Program) (w : World) (σ σ' : Sig) : Prop := ∀ c ρ s, Fm prog w c ρ σ s → Fm prog w c ρ σ' s
theorem STS.conv {e : List PySem.Stmt} {Q : Out → Loc → Sig → Prop} (h : STS prog w c ρ σ e fun v ρ' σ' => ∃ τ, Cv prog w σ' τ ∧ Q v ρ' τ) : STS prog w c ρ σ e Q := fun s F =>
 wpAny_mono (h s F) (fun _ _ => ex2 fun _ _ => an2 fun F' => ex1 fun τ => an2 fun le hq => ⟨_, τ, le _ _ _ F', hq⟩) fun _ _ x => x
theorem Cv.refl : Cv prog w σ σ := fun _ _ _ F => F
theorem Cv.drop (le : Le τ σ) : Cv prog w σ τ := fun _ _ _ F => F.drop le
theorem Cv.vec {x d : Addr} {k i a : V} {b : Bool} (hne : x ≠ d) : Cv prog w (fresh σ x (gv K "Vector") d (vecFlds k i a b)) (Yj K σ x d k i a) := fun _ _ _ F => by
 have := F.veil (fresh_d hne)
 rw [fresh_put hne] at this
 exact this
end
theorem dlook_hd {k : Str} {v : V} {r : List (Str × V)} : dlook ((k, v) :: r) k = some v := by simp [dlook]
theorem dlook_tl {p : Str × V} {k : Str} {o : Option V} {r : List (Str × V)} (h : (p.1 == k) = false) (h2 : dlook r k = o) : dlook (p :: r) k = o := by
 rw [← h2]
 unfold dlook
 rw [List.find?_cons_of_neg]
 rw [beq_eq_false_iff_ne] at h
 simpa using h
section
variable {n : Nat} {c : Cx} {ρ : Loc} {σ τ : Sig}
theorem C_inS' (ok : c.Ok prog w K n) {k : Str} {l : Addr} {g : List (Str × V)} {o : Option V} {Q : V → Sig → Prop} (hl : σ l = some (.dicS g)) (hd : dlook g k = o) (h : Q (.bool o.isSome) σ) : CMP prog w c ρ σ .In (.str k) (.ref l) Q := C_inS ok hl (by rw [hd]; exact h)
theorem C_ninS' (ok : c.Ok prog w K n) {k : Str} {l : Addr} {g : List (Str × V)} {o : Option V} {Q : V → Sig → Prop} (hl : σ l = some (.dicS g)) (hd : dlook g k = o) (h : Q (.bool (!o.isSome)) σ) : CMP prog w c ρ σ .NotIn (.str k) (.ref l) Q := C_ninS ok hl (by rw [hd]; exact h)
theorem Q_get1' (ok : c.Ok prog w K n) {k : Str} {l : Addr} {g : List (Str × V)} {o : Option V} {Q : V → Sig → Prop} (hl : σ l = some (.dicS g)) (hd : dlook g k = o) (h : Q (o.getD .none) σ) : CALL prog w c ρ σ (.bi "dict.get") [.ref l, .str k] [] Q := Q_get1 ok hl (by rw [hd]; exact h)
end
inductive Cols (K : Frag) (σ : Sig) : List V → List (Str × List V) → Prop
 | nil : Cols K σ [] []
 | cons {x l : Addr} {k : Str} {xs : List V} {vs cs} : Vec K σ x k l xs .none → Cols K σ vs cs → Cols K σ (.ref x :: vs) ((k, xs) :: cs)
theorem Cols.mono {K : Frag} {σ σ' : Sig} {vs : List V} {cs : List (Str × List V)} (h : Cols K σ vs cs) (le : Le σ σ') : Cols K σ' vs cs := by
 induction h with
 | nil => exact .nil
 | cons h _ ih => exact .cons (h.mono le) ih
theorem Cols.get {K : Frag} {σ : Sig} {vs : List V} {cs : List (Str × List V)} (h : Cols K σ vs cs) : ∀ {i : Nat} {v : V}, vs[i]? = some v → ∃ x l k xs, v = .ref x ∧ cs[i]? = some (k, xs) ∧ Vec K σ x k l xs .none := by
 induction h with
 | nil => intro i v e; cases e
 | cons h _ ih =>
  intro i v e
  cases i with
  | zero => cases e; exact ⟨_, _, _, _, rfl, rfl, h⟩
  | succ i => exact ih (by simpa using e)
theorem Cols.len {K : Frag} {σ : Sig} {vs : List V} {cs : List (Str × List V)} (h : Cols K σ vs cs) : vs.length = cs.length := by
 induction h with
 | nil => rfl
 | cons _ _ ih => simp [ih]
structure Frm (K : Frag) (σ : Sig) (x : Addr) (l a nx nl cx cl rx rl : Addr) (vs : List V) (cols : List (Str × List V)) (names : List V) (mk : Str) (marks : List V) : Prop where
 self : Vec K σ x "list" l vs (.ref a)
 at' : σ a = some (.dicS [("names", .ref nx), ("class", .ref cx), ("row.names", .ref rx)])
 nm : Vec K σ nx "character" nl names .none
 cl : Vec K σ cx "character" cl [.str "data.frame"] .none
 rn : Vec K σ rx mk rl marks .none
 cs : Cols K σ vs cols
 /-- sizes -/
 wide : vs.length ≤ 1000
 high : marks.length ≤ 1000
 nlen : names.length = vs.length
 clen : ∀ p ∈ cols, p.2.length = marks.length
theorem Frm.mono {K : Frag} {σ σ' : Sig} {x l a nx nl cx cl rx rl : Addr} {vs : List V} {cols : List (Str × List V)} {names : List V} {mk : Str} {marks : List V} (h : Frm K σ x l a nx nl cx cl rx rl vs cols names mk marks) (le : Le σ σ') : Frm K σ' x l a nx nl cx cl rx rl vs cols names mk marks :=
 ⟨h.self.mono le, le _ _ h.at', h.nm.mono le, h.cl.mono le, h.rn.mono le, h.cs.mono le, h.wide, h.high, h.nlen, h.clen⟩
inductive Caps (c : Cx) (ρ : Loc) : List (Str × V) → Prop
 | nil : Caps c ρ []
 | cons {x v r} : HasV ρ x v → c.env.kindOf x = some .cell → Caps c ρ r → Caps c ρ ((x, v) :: r)
theorem Caps.all {c : Cx} {ρ : Loc} {l : List (Str × V)} (h : Caps c ρ l) : ∀ p ∈ l, (p.1, some p.2) ∈ ρ ∧ c.env.kindOf p.1 = some .cell := by
 induction h with
 | nil => intro p hp; cases hp
 | cons h1 h2 _ ih => intro p hp; rcases List.mem_cons.mp hp with rfl | hp; exact ⟨h1.mem, h2⟩; exact ih p hp
theorem compAt {K : Frag} {c : Cx} {ρ : Loc} {scope : Scope} {x : Str} {cap gl : List (Str × V)} (h1 : compOk scope x (cap.map (·.1)) (gl.map (·.1)) = true) (h2 : Caps c ρ cap) (h3 : GVs K gl) : CompAt K c ρ scope x cap gl := ⟨h1, h2.all, h3.all⟩
theorem kindOf_of {c : Cx} {sc : Scope} {x : Str} {k : NameKind} (h : c.env.scope = sc) (e : sc.names.lookup x = some k) : c.env.kindOf x = some k := by
 show c.env.scope.names.lookup x = some k
 rw [h]; exact e
theorem KOk.gdn {K : Frag} (h : KOk K) {x : Str} (e : defNames.contains x = true) : GV K x (.ref (gv K x)) :=
 let m := List.contains_iff_mem.mp e; ⟨.inl ⟨_, (h.g x m).1, rfl⟩, .inl ⟨_, rfl, (h.g x m).2⟩⟩
noncomputable def lab (k : Str) (v : V) : V := if k = "integer" then (match v with | .int i => .str (Str.ofString (toString i)) | v => v) else v
noncomputable def LabOk (k : Str) (v : V) : Prop := (k = "character" ∧ ∃ s, v = .str s) ∨ (k = "integer" ∧ ∃ i : Int, v = .int i ∧ i.natAbs < 1000000)
theorem HasV.capH {x : Str} {v : V} {r : List (Str × V)} : HasV (capRho ((x, v) :: r)) x v := HasV.head
theorem HasV.capT {x : Str} {v : V} {p : Str × V} {r : List (Str × V)} (h : HasV (capRho r) x v) : HasV (capRho (p :: r)) x v := HasV.tail h
section
variable {n : Nat} {c : Cx} {ρ : Loc} {σ τ : Sig}
theorem EVS_nil {Q : List V → Sig → Prop} (h : Q [] σ) : EVS prog w c ρ [] σ Q := h
theorem EVS_cons {e : PySem.Expr} {es : List PySem.Expr} {Q : List V → Sig → Prop} (h : EX prog w c ρ σ e fun x σ₁ => EVS prog w c ρ es σ₁ fun xs σ₂ => Q (x :: xs) σ₂) : EVS prog w c ρ (e :: es) σ Q := h
theorem Vec.other {x l d : Addr} {k k2 : Str} {xs : List V} {a i2 a2 : V} {o : AObj} (h : Vec K σ x k l xs a) (hd : σ d = some (.vecd (.str k2) i2 a2)) (hk : k ≠ k2) : Vec K (σ.set d o) x k l xs a := by
 revert h; refine ex1 fun d' => an3 fun h1 h2 h3 => ?_
 refine ⟨d', ?_, ?_, ?_⟩
 · rw [Yd]; exact h1
   rintro rfl; rw [h1] at hd; cases hd
 · rw [Yd]; exact h2
   rintro rfl; rw [h2] at hd; cases hd; exact hk rfl
 · rw [Yd]; exact h3
   rintro rfl; rw [h3] at hd; cases hd
theorem Le.setD {σ' : Sig} {d : Addr} {o : AObj} (le : Le σ σ') (hd : σ d = none) : Le σ (σ'.set d o) := fun b x e => by
 rw [Yd]; exact le b x e
 rintro rfl; rw [hd] at e; cases e
end
theorem SrcOf.mono {σ σ' : Sig} {v : V} {k : SK} {xs : List V} (h : SrcOf σ v k xs) (le : Le σ σ') : SrcOf σ' v k xs := by
 cases k with
 | list l => exact ⟨h.1, le _ _ h.2⟩
 | tup l => exact ⟨h.1, le _ _ h.2⟩
 | rng lo hi => revert h; refine an3 fun h1 => ?_; rintro ⟨l, h2, h3⟩; intro h4; exact ⟨h1, ⟨l, h2, le _ _ h3⟩, h4⟩
noncomputable def nats (ps : List Nat) : List V := ps.map fun p => V.int (p : Nat)
noncomputable def pickL (xs : List V) (ps : List Nat) : List V := ps.map fun p => xs.getD p .none
theorem nats_get {ps : List Nat} {i : Nat} {v : V} (h : (nats ps)[i]? = some v) : ∃ p, ps[i]? = some p ∧ v = .int (p : Nat) := by
 unfold nats at h
 rw [List.getElem?_map, Option.map_eq_some_iff] at h
 obtain ⟨p, h1, h2⟩ := h
 exact ⟨p, h1, h2.symm⟩
theorem Yi {ps : List Nat} : (nats ps).length = ps.length := by simp [nats]
theorem pickL_snoc {xs : List V} {ps : List Nat} {i p : Nat} (h : ps[i]? = some p) : pickL xs (ps.take (i + 1)) = pickL xs (ps.take i) ++ [xs.getD p .none] := by
 unfold pickL; rw [List.take_add_one, h]; simp
theorem getD_get {xs : List V} {p : Nat} (h : p < xs.length) : xs[((p : Nat) : Int).toNat]? = some (xs.getD p .none) := by
 simp [List.getD, h]
section
variable {n : Nat} {c : Cx} {ρ : Loc} {σ τ : Sig}
theorem X_andC {e₁ e₂ : PySem.Expr} {rest : List PySem.Expr} {pos : Pos} {Q : V → Sig → Prop} (h : EX prog w c ρ σ e₁ fun u σ₁ => TRU prog w c ρ σ₁ u fun b σ₂ => if b = true then EX prog w c ρ σ₂ (.BoolOp .And (e₂ :: rest) pos) Q else Q u σ₂) : EX prog w c ρ σ (.BoolOp .And (e₁ :: e₂ :: rest) pos) Q := fun s F =>
 PyProof.Rows.BoolOp_and (h.use F fun _ _ _ F₁ h₁ => TE.use (h₁ _ rfl) F₁ fun b _ _ F₂ h₂ => by cases b <;> simp only [Bool.false_eq_true, if_false, if_true] at h₂ ⊢; exact ⟨_, F₂, h₂⟩; exact h₂ _ F₂)
theorem X_boolOne {op : BoolOp} {e : PySem.Expr} {pos : Pos} {Q : V → Sig → Prop} (h : EX prog w c ρ σ e Q) : EX prog w c ρ σ (.BoolOp op [e] pos) Q := fun s F => PyProof.Rows.BoolOp_one (h s F)
theorem swapsT (ok : c.Ok prog w K n) {sc : Scope} (hs : c.env.scope = sc) {elt : PySem.Expr} {gens : List Comprehension} {scope : Scope} {pos p : Pos} {y : Str} {line : Nat}
 (h : (sc.names.lookup y == some .local && p.line == pos.line && !(scope.names.any fun (n, k) => n == y && (k == .local || k == .cell))) = true) :
 swapsWith (.ListComp elt gens scope pos) (some (.Name y p)) line c.env = pure true := by
 have e : swapsWith (.ListComp elt gens scope pos) (some (.Name y p)) line c.env = pure (c.env.blockKind == .function && c.env.kindOf y == some .local && p.line == pos.line && !(scope.names.any fun (n, k) => n == y && (k == .local || k == .cell))) := rfl
 rw [e]
 have b : (c.env.blockKind == .function) = true := by
  unfold Env.blockKind; rw [ok.kind]; rfl
 have k : c.env.kindOf y = sc.names.lookup y := by show c.env.scope.names.lookup y = _; rw [hs]
 rw [b, k, Bool.true_and, h]
theorem swapsF (ok : c.Ok prog w K n) {sc : Scope} (hs : c.env.scope = sc) {elt : PySem.Expr} {gens : List Comprehension} {scope : Scope} {pos p : Pos} {y : Str} {line : Nat}
 (h : (sc.names.lookup y == some .local && p.line == pos.line && !(scope.names.any fun (n, k) => n == y && (k == .local || k == .cell))) = false) :
 swapsWith (.ListComp elt gens scope pos) (some (.Name y p)) line c.env = pure false := by
 have e : swapsWith (.ListComp elt gens scope pos) (some (.Name y p)) line c.env = pure (c.env.blockKind == .function && c.env.kindOf y == some .local && p.line == pos.line && !(scope.names.any fun (n, k) => n == y && (k == .local || k == .cell))) := rfl
 rw [e]
 have b : (c.env.blockKind == .function) = true := by
  unfold Env.blockKind; rw [ok.kind]; rfl
 have k : c.env.kindOf y = sc.names.lookup y := by show c.env.scope.names.lookup y = _; rw [hs]
 rw [b, k, Bool.true_and, h]
end
theorem Cols.snoc {K : Frag} {σ : Sig} {vs : List V} {cs : List (Str × List V)} {x l : Addr} {k : Str} {xs : List V} (h : Cols K σ vs cs) (hv : Vec K σ x k l xs .none) : Cols K σ (vs ++ [.ref x]) (cs ++ [(k, xs)]) := by
 induction h with
 | nil => exact .cons hv .nil
 | cons h _ ih => exact .cons h ih
section
variable {n : Nat} {c : Cx} {ρ : Loc} {σ τ : Sig}
theorem X_neg {e : PySem.Expr} {pos : Pos} {Q : V → Sig → Prop} (h : EX prog w c ρ σ e fun x σ₁ => ∃ i, x = .int i ∧ Q (.int (-i)) σ₁) : EX prog w c ρ σ (.UnaryOp .USub e pos) Q := fun s F =>
 wpAny_UnaryOp (h.use F fun v s₁ σ₁ F₁ => ex1 fun i => an2 fun hi hq => by
  obtain ⟨t, rfl⟩ := E_int hi
  exact PyProof.Rows.neg_int ⟨σ₁, F₁.toks _, hq⟩)
theorem X_not {e : PySem.Expr} {pos : Pos} {Q : V → Sig → Prop} (h : EX prog w c ρ σ e fun x σ₁ => TRU prog w c ρ σ₁ x fun b σ₂ => Q (.bool (!b)) σ₂) : EX prog w c ρ σ (.UnaryOp .Not e pos) Q := fun s F =>
 wpAny_UnaryOp (h.use F fun v s₁ σ₁ F₁ h₁ => PyProof.Rows.not_of (TE.use (h₁ _ rfl) F₁ fun b s₂ σ₂ F₂ h₂ => ⟨σ₂, F₂, h₂⟩))
theorem EXO_none {Q : Option Int → Sig → Prop} (h : Q none σ) : EXO prog w c ρ σ none Q := h
theorem EXO_some {e : PySem.Expr} {Q : Option Int → Sig → Prop} (h : EX prog w c ρ σ e fun v σ' => ∃ i, v = .int i ∧ Q (some i) σ') : EXO prog w c ρ σ (some e) Q := h
end
theorem exInt {i : Int} {Q : Int → Prop} (h : Q i) : ∃ j, V.int i = V.int j ∧ Q j := ⟨i, rfl, h⟩
theorem ifTT {A B : Prop} (h : A) : if true = true then A else B := h
theorem ifFF {A B : Prop} (h : B) : if false = true then A else B := h
section
variable {n : Nat} {c : Cx} {ρ : Loc} {σ : Sig}
noncomputable def Obj0 (K : Frag) (σ : Sig) (x : Addr) (C : Str) (fs : List (Str × V)) : Prop := ∃ d, σ x = some (.inst (gv K C) d) ∧ σ d = some (.flds fs)
theorem Obj0.mono {x : Addr} {C : Str} {fs : List (Str × V)} {σ σ' : Sig} (h : Obj0 K σ x C fs) (le : Le σ σ') : Obj0 K σ' x C fs := by obtain ⟨d, h1, h2⟩ := h; exact ⟨d, le _ _ h1, le _ _ h2⟩
theorem O_get (hK : KOk K) (ok : c.Ok prog w K n) {x : Addr} {C nm : Str} {fs : List (Str × V)} {v : V} {Q : V → Sig → Prop} (h : Obj0 K σ x C fs) (hc : atTab.contains (C, nm) = true) (g : GetF fs nm v) (hn : notBi v = true) (hq : Q v σ) : GETA prog w c ρ σ (.ref x) nm Q :=
 by obtain ⟨d, h1, h2⟩ := h; exact A_get ok h1 h2 (hK.atn hc) g hn hq
theorem TGTS_nil {Q : Loc → Sig → Prop} (h : Q ρ σ) : TGTS prog w c [] [] ρ σ Q := h
theorem TGTS_cons {e : PySem.Expr} {es : List PySem.Expr} {x : V} {xs : List V} {Q : Loc → Sig → Prop} (h : TGT prog w c ρ σ e x fun ρ' σ' => TGTS prog w c es xs ρ' σ' Q) : TGTS prog w c (e :: es) (x :: xs) ρ σ Q := h
theorem dlookS_nil (k : Str) : dlook ([] : List (Str × V)) k = none := rfl
theorem Vec.setList {x l : Addr} {k : Str} {xs ys : List V} {a : V} (h : Vec K σ x k l xs a) : Vec K (σ.set l (.list ys)) x k l ys a := by
 revert h; refine ex1 fun d => an3 fun h1 h2 h3 => ?_
 refine ⟨d, ?_, ?_, Ya⟩
 · rw [Yd]; exact h1
   rintro rfl; rw [h1] at h3; cases h3
 · rw [Yd]; exact h2
   rintro rfl; rw [h2] at h3; cases h3
noncomputable def kinds7 : List Str := ["NULL", "logical", "integer", "double", "character", "list", "expression"]
noncomputable def kinds7V : List V := [.str "NULL", .str "logical", .str "integer", .str "double", .str "character", .str "list", .str "expression"]
noncomputable def kindAt (k : Str) (j : Nat) : Bool := kinds7[j]? == some k && (List.range j).all fun m => !(kinds7[m]? == some k)
theorem kindAt_spec {k : Str} {j : Nat} (h : kindAt k j = true) : kinds7[j]? = some k ∧ ∀ m, m < j → ∀ y, kinds7[m]? = some y → (y == k) = false := by
 simp only [kindAt, Bool.and_eq_true, beq_iff_eq, List.all_eq_true, List.mem_range, Bool.not_eq_true', beq_eq_false_iff_ne, ne_eq] at h
 refine ⟨h.1, fun m hm y hy => ?_⟩
 rw [beq_eq_false_iff_ne]
 rintro rfl
 exact h.2 m hm hy
theorem inOk_all {x : V} {xs : List V} (h : inOk x xs = true) : scal x = true ∧ ∀ y ∈ xs, scal y = true := by
 simp only [inOk, Bool.and_eq_true, List.all_eq_true, decide_eq_true_eq] at h
 exact ⟨h.1.1, h.1.2⟩
theorem C_inT' (ok : c.Ok prog w K n) {x : V} {l : Addr} {xs : List V} {b : Bool} {Q : V → Sig → Prop} (hl : σ l = some (.tup xs)) (ho : inOk x xs = true) (hb : isIn x xs = b) (h : Q (.bool b) σ) : CMP prog w c ρ σ .In x (.ref l) Q :=
 C_inT ok hl (inOk_all ho).1 (inOk_all ho).2 (by rw [hb]; exact h)
theorem C_inL' (ok : c.Ok prog w K n) {x : V} {l : Addr} {xs : List V} {b : Bool} {Q : V → Sig → Prop} (hl : σ l = some (.list xs)) (ho : inOk x xs = true) (hb : isIn x xs = b) (h : Q (.bool b) σ) : CMP prog w c ρ σ .In x (.ref l) Q :=
 C_inL ok hl (inOk_all ho).1 (inOk_all ho).2 (by rw [hb]; exact h)
end
theorem gn_0 {K : Frag} (hK : KOk K) : GV K "_law_grain" (.ref (gv K "_law_grain")) := hK.gd 9 rfl
theorem gn_1 {K : Frag} (hK : KOk K) : GV K "level_at" (.ref (gv K "level_at")) := hK.gd 75 rfl
theorem gn_2 {K : Frag} (hK : KOk K) : GV K "label_text" (.ref (gv K "label_text")) := hK.gd 72 rfl
theorem gn_3 {K : Frag} (hK : KOk K) : GV K "item_as" (.ref (gv K "item_as")) := hK.gd 68 rfl
theorem gn_4 {K : Frag} (hK : KOk K) : GV K "share" (.ref (gv K "share")) := hK.gd 107 rfl
theorem gn_5 {K : Frag} (hK : KOk K) : GV K "pick_items" (.ref (gv K "pick_items")) := hK.gd 96 rfl
theorem gn_6 {K : Frag} (hK : KOk K) : GV K "str" (.ty "str") := hK.gb 6 rfl kpt
theorem gn_7 {K : Frag} (hK : KOk K) : GV K "len" (.bi "len") := hK.gb 1 rfl kpb
inductive Stk where
 | nil | v (x : V) (s : Stk) | f (g : V) (s : Stk) | b (z : Bool) (s : Stk)
noncomputable def popV (s : Stk) (P : V → Stk → Prop) : Prop := match s with | .v x s => P x s | _ => False
noncomputable def popB (s : Stk) (P : Bool → Stk → Prop) : Prop := match s with | .b x s => P x s | _ => False
noncomputable def popTo : Stk → List V → (V → List V → Stk → Prop) → Prop
 | .v x s, acc, P => popTo s (x :: acc) P
 | .f g s, acc, P => P g acc s
 | _, _, _ => False
noncomputable def unp : Stk → List V → Option (V × List V × Stk)
 | .v x s, acc => unp s (x :: acc)
 | .f g s, acc => some (g, acc, s)
 | _, _ => none
noncomputable def pushAll : List V → Stk → Stk
 | [], s => s
 | x :: xs, s => pushAll xs (.v x s)
theorem popTo_push {P : V → List V → Stk → Prop} : ∀ {xs : List V} {s : Stk} {acc : List V}, popTo (pushAll xs s) acc P = popTo s (xs ++ acc) P
 | [], _, _ => rfl
 | x :: xs, s, acc => by
  show popTo (pushAll xs (.v x s)) acc P = _
  rw [popTo_push]; rfl
noncomputable def pushE (c : Cx) (ρ : Loc) : List PySem.Expr → Stk → Sig → (Stk → Sig → Prop) → Prop
 | [], s, σ, P => P s σ
 | e :: es, s, σ, P => EX prog w c ρ σ e fun x σ' => pushE c ρ es (.v x s) σ' P
noncomputable abbrev Kn := Stk → Loc → Sig → Prop
noncomputable def It : Type := Cx → (Out → Loc → Sig → Prop) → Kn → Kn
noncomputable def It.ev (e : PySem.Expr) : It := fun c Q k s ρ σ => EX prog w c ρ σ e fun x σ' => k (.v x s) ρ σ'
noncomputable def It.evs (es : List PySem.Expr) : It := fun c Q k s ρ σ => pushE c ρ es s σ fun s' σ' => k s' ρ σ'
noncomputable def It.tst (e : PySem.Expr) : It := fun c Q k s ρ σ => TST prog w c ρ σ e fun z σ' => k (.b z s) ρ σ'
noncomputable def It.all (op : BoolOp) (es : List PySem.Expr) : It := fun c Q k s ρ σ => ALLT prog w c ρ σ op es fun z σ' => k (.b z s) ρ σ'
noncomputable def It.tru : It := fun c Q k s ρ σ => popV s fun x s => TRU prog w c ρ σ x fun z σ' => k (.b z s) ρ σ'
noncomputable def It.notb : It := fun c Q k s ρ σ => popB s fun z s => k (.b (!z) s) ρ σ
noncomputable def It.notv : It := fun c Q k s ρ σ => popB s fun z s => k (.v (.bool (!z)) s) ρ σ
noncomputable def It.neg : It := fun c Q k s ρ σ => popV s fun x s => ∃ i, x = .int i ∧ k (.v (.int (-i)) s) ρ σ
noncomputable def It.pb (z : Bool) : It := fun c Q k s ρ σ => k (.b z s) ρ σ
noncomputable def It.pv (x : V) : It := fun c Q k s ρ σ => k (.v x s) ρ σ
noncomputable def It.attr (a : Str) : It := fun c Q k s ρ σ => popV s fun x s => GETA prog w c ρ σ x a fun y σ' => k (.v y s) ρ σ'
noncomputable def It.get2 (a : Str) : It := fun c Q k s ρ σ => popV s fun x s => GETA prog w c ρ σ x a fun y σ' => k (.v y (.v x s)) ρ σ'
noncomputable def It.bin (op : Operator) : It := fun c Q k s ρ σ => popV s fun y s => popV s fun x s => BIN prog w c ρ σ op x y fun z σ' => k (.v z s) ρ σ'
noncomputable def It.inp (op : Operator) : It := fun c Q k s ρ σ => popV s fun y s => popV s fun x s => INP prog w c ρ σ op x y fun z σ' => k (.v z s) ρ σ'
noncomputable def It.cmp (op : CmpOp) : It := fun c Q k s ρ σ => popV s fun y s => popV s fun x s => CMP prog w c ρ σ op x y fun z σ' => k (.v z s) ρ σ'
noncomputable def It.call : It := fun c Q k s ρ σ => popTo s [] fun g xs s => CALL prog w c ρ σ g xs [] fun y σ' => k (.v y s) ρ σ'
noncomputable def It.meth (nm : Str) (es : List PySem.Expr) : It := fun c Q k s ρ σ => popV s fun x s => ∃ f first, METH prog w K c ρ σ x nm f [first] ∧ pushE c ρ es (.v first (.f f s)) σ fun s' σ' => popTo s' [] fun g xs s => CALL prog w c ρ σ' g xs [] fun y σ' => k (.v y s) ρ σ'
noncomputable def It.sub (value slice : PySem.Expr) : It := fun c Q k s ρ σ => popV s fun i s => popV s fun x s => SUBT prog w c ρ σ value slice x i fun y σ' => k (.v y s) ρ σ'
noncomputable def It.mkf : It := fun c Q k s ρ σ => popV s fun x s => k (.f x s) ρ σ
noncomputable def It.inT (z t : Bool) : It := fun c Q k s ρ σ => popTo s [] fun x xs s => InTup x xs (k (if t then .b (isIn x xs != z) s else .v (.bool (isIn x xs != z)) s) ρ σ)
noncomputable def It.lst : It := fun c Q k s ρ σ => popTo s [] fun _ xs s => xs.length ≤ 100000 ∧ ∀ a, σ a = none → k (.v (.ref a) s) ρ (σ.set a (.list xs))
noncomputable def It.tup : It := fun c Q k s ρ σ => popTo s [] fun _ xs s => xs.length ≤ 100000 ∧ ∀ a, σ a = none → k (.v (.ref a) s) ρ (σ.set a (.tup xs))
noncomputable def It.and2 (y : PySem.Expr) : It := fun c Q k s ρ σ => popV s fun u s => TRU prog w c ρ σ u fun z σ' => if z = true then EX prog w c ρ σ' y fun x σ' => k (.v x s) ρ σ' else k (.v u s) ρ σ'
noncomputable def It.or2 (y : PySem.Expr) : It := fun c Q k s ρ σ => popV s fun u s => TRU prog w c ρ σ u fun z σ' => if z = true then k (.v u s) ρ σ' else EX prog w c ρ σ' y fun x σ' => k (.v x s) ρ σ'
noncomputable def It.br (a b : It) : It := fun c Q k s ρ σ => popB s fun z s => if z = true then a c Q k s ρ σ else b c Q k s ρ σ
noncomputable def It.sts (l : List PySem.Stmt) : It := fun c Q k s ρ σ => STS prog w c ρ σ l (Then Q (k s))
noncomputable def It.stm (t : PySem.Stmt) : It := fun c Q k s ρ σ => ST prog w c ρ σ t (Then Q (k s))
noncomputable def It.store (x : Str) : It := fun c Q k s ρ σ => popV s fun y s => ∃ ρ', SetV ρ x y ρ' ∧ k s ρ' σ
noncomputable def It.tgt (t : PySem.Expr) : It := fun c Q k s ρ σ => popV s fun y s => TGT prog w c ρ σ t y (k s)
noncomputable def It.seta (nm : Str) : It := fun c Q k s ρ σ => popV s fun x s => popV s fun y s => SETA prog w c ρ σ x nm y fun σ' => k s ρ σ'
noncomputable def It.setb (nm : Str) : It := fun c Q k s ρ σ => popV s fun y s => popV s fun x s => SETA prog w c ρ σ x nm y fun σ' => k s ρ σ'
noncomputable def It.seti : It := fun c Q k s ρ σ => popV s fun i s => popV s fun x s => popV s fun y s => SETI prog w c ρ σ x i y fun σ' => k s ρ σ'
noncomputable def It.ret : It := fun c Q _ s ρ σ => popV s fun y _ => Q (.ret y) ρ σ
noncomputable def It.pop : It := fun c Q k s ρ σ => popV s fun _ s => k s ρ σ
noncomputable def RUN (c : Cx) (Q : Out → Loc → Sig → Prop) : List It → Kn
 | [], .v x _, ρ, σ => Q (.ret x) ρ σ
 | [], .b z _, ρ, σ => Q (.ret (.bool z)) ρ σ
 | [], _, ρ, σ => Q .next ρ σ
 | i :: k, s, ρ, σ => i c Q (RUN c Q k) s ρ σ
noncomputable def QB (P : Bool → Sig → Prop) : Out → Loc → Sig → Prop := fun o _ σ => ∃ z, retOf o = .bool z ∧ P z σ
noncomputable def QT (P : Loc → Sig → Prop) : Out → Loc → Sig → Prop := fun _ ρ σ => P ρ σ
noncomputable def nonstar : PySem.Expr → Bool | .Starred .. => false | _ => true
noncomputable def noComp : PySem.Expr → Bool | .ListComp .. => false | .SetComp .. => false | .DictComp .. => false | _ => true
noncomputable def plainBase : PySem.Expr → Bool | .Name .. => true | .Attribute .. => true | .Subscript .. => true | .Call (.Attribute ..) _ _ _ => true | .Call (.Name ..) (_ :: _) _ _ => true | .Constant .. => true | .List .. => true | .BoolOp .. => true | _ => false
noncomputable def plainTest : PySem.Expr → Bool | .UnaryOp .. => false | .BoolOp .. => false | .IfExp .. => false | .Compare .. => false | _ => true
noncomputable def plainTgt : PySem.Expr → Bool | .Attribute .. => true | .Subscript .. => true | _ => false
theorem nonstar_each {e : PySem.Expr} {es : List PySem.Expr} {env : Env} (h : nonstar e = true) : starEach (e :: es) env = (false, eval e env) :: starEach es env := by
 cases e <;> first | rfl | (exact absurd h Bool.false_ne_true)
theorem nonstar_all {es : List PySem.Expr} {env : Env} {pos : Pos} (h : es.all nonstar = true) : (backTo pos (starEach es env)).all (!·.1) = true := by
 induction es with
 | nil => rfl
 | cons e es ih =>
  rw [List.all_cons, Bool.and_eq_true] at h
  rw [nonstar_each h.1]
  exact ih h.2
theorem nonstar_any {es : List PySem.Expr} {env : Env} {pos : Pos} (h : es.all nonstar = true) : (backTo pos (starEach es env)).any (·.1) = false := by
 induction es with
 | nil => rfl
 | cons e es ih =>
  rw [List.all_cons, Bool.and_eq_true] at h
  rw [nonstar_each h.1]
  exact ih h.2
theorem noComp_swaps {e : PySem.Expr} {t : Option PySem.Expr} {l : Nat} {env : Env} (h : noComp e = true) : swapsWith e t l env = pure false := by
 cases e <;> first | rfl | (exact absurd h Bool.false_ne_true)
theorem base_of {e : PySem.Expr} {a : Str} {env : Env} {x : Sem Value} (h : plainBase e = true) : attributeBase e a env x = x := by
 cases e with
 | Call f as ks p =>
  cases f with
  | Name i q => cases as with | nil => exact absurd h Bool.false_ne_true | cons => rfl
  | Attribute => rfl
  | _ => exact absurd h Bool.false_ne_true
 | _ => first | rfl | (exact absurd h Bool.false_ne_true)
theorem plain_test {e : PySem.Expr} {env : Env} (h : plainTest e = true) : isTrue e env (eval e env) = (do let v ← eval e env; standAt e.pos; holding [v] (truthy v)) := by
 cases e <;> first | rfl | (exact absurd h Bool.false_ne_true)
theorem plain_swap {t e : PySem.Expr} {env : Env} (h : plainTgt t = true) : swappedStores [t] e env = pure none := by
 cases t <;> first | rfl | (exact absurd h Bool.false_ne_true)
theorem plain_each {t : PySem.Expr} {env : Env} (h : plainTgt t = true) : (assignEach [t] env).map (·.2) = [assign t env] := by
 cases t <;> first | rfl | (exact absurd h Bool.false_ne_true)
section
variable {n : Nat} {c : Cx} {ρ ρ' : Loc} {σ : Sig} {Q : Out → Loc → Sig → Prop} {k : List It} {s : Stk} {p pos : Pos}
theorem pushE_EXS {es : List PySem.Expr} {P : Stk → Sig → Prop} (h : es.all nonstar = true) (hp : pushE c ρ es s σ P) : EXS prog w c ρ σ es fun xs σ' => P (pushAll xs s) σ' := by
 induction es generalizing s σ with
 | nil => exact XS_nil hp
 | cons e es ih =>
  rw [List.all_cons, Bool.and_eq_true] at h
  exact XS_cons (TE.mono hp fun x σ' hx => ih h.2 hx) (nonstar_each h.1)
theorem TS.mono {t : Sem Flow} {Q Q' : Out → Loc → Sig → Prop} (h : TS prog w c ρ σ t Q) (k : ∀ o ρ' σ', Q o ρ' σ' → Q' o ρ' σ') : TS prog w c ρ σ t Q' := fun s F =>
 wpAny_mono (h s F) (fun _ _ => ex2 fun ρ' σ' => an2 fun F' hq => ⟨ρ', σ', F', k _ _ _ hq⟩) fun _ _ x => x
theorem ST.mono {t : PySem.Stmt} {Q Q' : Out → Loc → Sig → Prop} (h : ST prog w c ρ σ t Q) (k : ∀ o ρ' σ', Q o ρ' σ' → Q' o ρ' σ') : ST prog w c ρ σ t Q' := TS.mono h k
theorem EXS.mono {es : List PySem.Expr} {P P' : List V → Sig → Prop} (h : EXS prog w c ρ σ es P) (k : ∀ xs σ', P xs σ' → P' xs σ') : EXS prog w c ρ σ es P' := fun pos => TE.mono (h pos) fun _ _ x => k _ _ x
noncomputable abbrev KV (c : Cx) (Q : Out → Loc → Sig → Prop) (k : List It) (s : Stk) (ρ : Loc) : V → Sig → Prop := fun x σ' => RUN c Q k (.v x s) ρ σ'
noncomputable abbrev KB (c : Cx) (Q : Out → Loc → Sig → Prop) (k : List It) (s : Stk) (ρ : Loc) : Bool → Sig → Prop := fun x σ' => RUN c Q k (.b x s) ρ σ'
noncomputable def LR (L R : Out → Loc → Sig → Prop) : Prop := ∀ o ρ σ, L o ρ σ → R o ρ σ
theorem LX {L R : Out → Loc → Sig → Prop} {o : Out} (h : LR L R) (k : L o ρ σ) : R o ρ σ := h _ _ _ k
theorem EX.run {e : PySem.Expr} {P : V → Sig → Prop} (h : RUN c (QE P) [.ev e] .nil ρ σ) : EX prog w c ρ σ e P := h
theorem TST.run {e : PySem.Expr} {P : Bool → Sig → Prop} (h : RUN c (QB P) [.tst e] .nil ρ σ) : TST prog w c ρ σ e P := TE.mono h fun _ _ => ex1 fun _ => an2 fun e hq => by cases e; exact hq
theorem STS.run {l : List PySem.Stmt} (h : RUN c Q [.sts l] .nil ρ σ) : STS prog w c ρ σ l Q := fun t F => wpAny_mono (h t F) (fun _ _ => ex2 fun ρ' σ' => an2 fun F' q => ⟨ρ', σ', F', by revert q; cases Out.of _ <;> exact id⟩) fun _ _ x => x
theorem STS.runL {l : List PySem.Stmt} {P : Loc → Sig → Prop} (h : ∀ R, LR (LoopQ P Q) R → RUN c R [.sts l] .nil ρ σ) : STS prog w c ρ σ l (LoopQ P Q) := STS.run (h _ fun _ _ _ x => x)
theorem ST.run {l : PySem.Stmt} (h : RUN c Q [.stm l] .nil ρ σ) : ST prog w c ρ σ l Q := fun t F => wpAny_mono (h t F) (fun _ _ => ex2 fun ρ' σ' => an2 fun F' q => ⟨ρ', σ', F', by revert q; cases Out.of _ <;> exact id⟩) fun _ _ x => x
theorem TGT.run {e : PySem.Expr} {x : V} {P : Loc → Sig → Prop} (h : RUN c (QT P) [.tgt e] (.v x .nil) ρ σ) : TGT prog w c ρ σ e x P := h
theorem R_endE {x : V} {P : V → Sig → Prop} (h : P x σ) : RUN c (QE P) [] (.v x s) ρ σ := h
theorem R_endB {x : Bool} {P : Bool → Sig → Prop} (h : P x σ) : RUN c (QB P) [] (.b x s) ρ σ := ⟨_, rfl, h⟩
theorem R_endT {P : Loc → Sig → Prop} (h : P ρ σ) : RUN c (QT P) [] .nil ρ σ := h
theorem R_end (h : Q .next ρ σ) : RUN c Q [] .nil ρ σ := h
theorem R_ex {e : PySem.Expr} (h : EX prog w c ρ σ e (KV c Q k s ρ)) : RUN c Q (.ev e :: k) s ρ σ := h
theorem R_tst {e : PySem.Expr} (h : TST prog w c ρ σ e (KB c Q k s ρ)) : RUN c Q (.tst e :: k) s ρ σ := h
theorem R_all {op : BoolOp} {es : List PySem.Expr} (h : ALLT prog w c ρ σ op es (KB c Q k s ρ)) : RUN c Q (.all op es :: k) s ρ σ := h
theorem R_st {t : PySem.Stmt} (h : ST prog w c ρ σ t (Then Q (RUN c Q k s))) : RUN c Q (.stm t :: k) s ρ σ := h
theorem R_sts {t : List PySem.Stmt} (h : STS prog w c ρ σ t (Then Q (RUN c Q k s))) : RUN c Q (.sts t :: k) s ρ σ := h
theorem R_tgt {t : PySem.Expr} {x : V} (h : TGT prog w c ρ σ t x (RUN c Q k s)) : RUN c Q (.tgt t :: k) (.v x s) ρ σ := h
theorem R_tr {x : V} (h : TRU prog w c ρ σ x (KB c Q k s ρ)) : RUN c Q (.tru :: k) (.v x s) ρ σ := h
theorem R_loc {x : Str} {v : V} (ok : c.Ok prog w K n) (hv : HasV ρ x v) (h : RUN c Q k (.v v s) ρ σ) : RUN c Q (.ev (.Name x p) :: k) s ρ σ := R_ex <| X_loc ok hv h
theorem R_glob {x : Str} {v : V} {gl : List (Str × V)} (ok : c.Ok prog w K n) (hgl : c.gl = gl) (hv : HasG gl x v) (h : RUN c Q k (.v v s) ρ σ) : RUN c Q (.ev (.Name x p) :: k) s ρ σ := R_ex <| X_glob ok hgl hv h
theorem R_int {i : Int} {m : Nat} (h : RUN c Q k (.v (.int i) s) ρ σ) : RUN c Q (.ev (.Constant (.int i) m p) :: k) s ρ σ := R_ex <| X_int h
theorem R_str {i : Str} {m : Nat} (h : RUN c Q k (.v (.str i) s) ρ σ) : RUN c Q (.ev (.Constant (.str i) m p) :: k) s ρ σ := R_ex <| X_str h
theorem R_bool {i : Bool} {m : Nat} (h : RUN c Q k (.v (.bool i) s) ρ σ) : RUN c Q (.ev (.Constant (.bool i) m p) :: k) s ρ σ := R_ex <| X_bool h
theorem R_none {m : Nat} (h : RUN c Q k (.v .none s) ρ σ) : RUN c Q (.ev (.Constant .none m p) :: k) s ρ σ := R_ex <| X_none h
theorem R_attr {e : PySem.Expr} {a : Str} (hb : plainBase e = true) (h : RUN c Q (.ev e :: .attr a :: k) s ρ σ) : RUN c Q (.ev (.Attribute e a p) :: k) s ρ σ := R_ex <| X_attr h (by rw [arm_eval_Attribute, base_of hb])
theorem R_evs_cons {e : PySem.Expr} {es : List PySem.Expr} (h : RUN c Q (.ev e :: .evs es :: k) s ρ σ) : RUN c Q (.evs (e :: es) :: k) s ρ σ := h
theorem R_evs_one {e : PySem.Expr} (h : RUN c Q (.ev e :: k) s ρ σ) : RUN c Q (.evs [e] :: k) s ρ σ := h
theorem R_evs_nil (h : RUN c Q k s ρ σ) : RUN c Q (.evs [] :: k) s ρ σ := h
theorem R_callG {x : Str} {np : Pos} {es : List PySem.Expr} {g : V} {gl : List (Str × V)} (ok : c.Ok prog w K n) (hgl : c.gl = gl) (hv : HasG gl x g) (hes : es.all nonstar = true) (h : RUN c Q (.evs es :: .call :: k) (.f g s) ρ σ) :
 RUN c Q (.ev (.Call (.Name x np) es [] pos) :: k) s ρ σ :=
 R_ex <| X_callG ok hgl hv (EXS.mono (pushE_EXS hes h) fun xs σ' hx => by
  have hx : popTo (pushAll xs (.f g s)) [] _ := hx
  rw [popTo_push] at hx
  rw [show xs = xs ++ [] by simp]; exact hx) (nonstar_any hes)
theorem R_callL {x : Str} {np : Pos} {es : List PySem.Expr} {g : V} (ok : c.Ok prog w K n) (hv : HasV ρ x g) (hk : KP K g) (hes : es.all nonstar = true) (h : RUN c Q (.evs es :: .call :: k) (.f g s) ρ σ) :
 RUN c Q (.ev (.Call (.Name x np) es [] pos) :: k) s ρ σ :=
 R_ex <| X_call ok (X_loc ok hv ⟨hk, EXS.mono (pushE_EXS hes h) fun xs σ' hx => by
  have hx : popTo (pushAll xs (.f g s)) [] _ := hx
  rw [popTo_push] at hx
  rw [show xs = xs ++ [] by simp]; exact hx⟩) (nonstar_any hes)
theorem R_meth {o : PySem.Expr} {nm : Str} {apos : Pos} {es : List PySem.Expr} (ok : c.Ok prog w K n) (hb : plainBase o = true) (hes : es.all nonstar = true) (hfew : Nat.ble es.length 20 = true) (hline : (apos.endLine == pos.line) = true)
 (h : RUN c Q (.ev o :: .meth nm es :: k) s ρ σ) : RUN c Q (.ev (.Call (.Attribute o nm apos) es [] pos) :: k) s ρ σ := by
 refine R_ex <| X_meth ok (TE.mono h fun x σ' hx => ?_) (base_of hb) (nonstar_any hes) ?_ hline
 · revert hx; refine ex2 fun f first => ?_; rintro ⟨hm, hx⟩
   refine ⟨f, first, hm, EXS.mono (pushE_EXS hes hx) fun xs σ' hx => ?_⟩
   rw [popTo_push] at hx
   rw [show xs = xs ++ [] by simp]; exact hx
 · have := Nat.le_of_ble_eq_true hfew
   have e0 : keywordEach [] c.env = [] := rfl
   simp only [methodCallForm, nonstar_all hes, e0, backToKw, List.map_nil, List.all_nil, List.isEmpty_nil, List.length_nil, Bool.and_true, Bool.true_and, decide_eq_true_eq, if_true]
   omega
theorem R_methG {nm : Str} {es : List PySem.Expr} {x f first : V} (hm : METH prog w K c ρ σ x nm f [first]) (h : RUN c Q (.evs es :: .call :: k) (.v first (.f f s)) ρ σ) : RUN c Q (.meth nm es :: k) (.v x s) ρ σ := ⟨f, first, hm, h⟩
theorem R_bin {l r : PySem.Expr} {op : Operator} (h : RUN c Q (.ev l :: .ev r :: .bin op :: k) s ρ σ) : RUN c Q (.ev (.BinOp l op r p) :: k) s ρ σ := R_ex <| X_bin h
theorem R_cmp {l r : PySem.Expr} {op : CmpOp} (hm : behindInMarks op r = false) (h : RUN c Q (.ev l :: .ev r :: .cmp op :: k) s ρ σ) : RUN c Q (.ev (.Compare l [op] [r] p) :: k) s ρ σ := R_ex <| X_cmp h hm
theorem bne_false' (z : Bool) : (z != false) = z := by cases z <;> rfl
theorem bne_true' (z : Bool) : (z != true) = !z := by cases z <;> rfl
theorem inT_EXS {es : List PySem.Expr} {l : PySem.Expr} {z t : Bool} (hes : es.all nonstar = true) (h : RUN c Q (.ev l :: .mkf :: .evs es :: .inT z t :: k) s ρ σ) :
 EX prog w c ρ σ l fun x σ₁ => EXS prog w c ρ σ₁ es fun xs σ₂ => InTup x xs (RUN c Q k (if t then .b (isIn x xs != z) s else .v (.bool (isIn x xs != z)) s) ρ σ₂) :=
 TE.mono h fun x σ₁ hx => EXS.mono (pushE_EXS hes hx) fun xs σ₂ hx => by
  have hx : popTo (pushAll xs (.f _ s)) [] _ := hx
  rw [popTo_push] at hx
  have hx : InTup _ (xs ++ []) (RUN c Q k (if t then .b (isIn _ (xs ++ []) != z) s else .v (.bool (isIn _ (xs ++ []) != z)) s) ρ σ₂) := hx
  rwa [List.append_nil] at hx
theorem R_inT {l : PySem.Expr} {es : List PySem.Expr} {cx : Nat} (ok : c.Ok prog w K n) (hes : es.all nonstar = true) (h : RUN c Q (.ev l :: .mkf :: .evs es :: .inT false false :: k) s ρ σ) : RUN c Q (.ev (.Compare l [.In] [.Tuple es cx p] pos) :: k) s ρ σ :=
 R_ex <| X_inTup ok (TE.mono (inT_EXS hes h) fun x σ₁ hx => EXS.mono hx fun xs σ₂ hx => ⟨hx.ok, by have := hx.go; rw [bne_false'] at this; exact this⟩)
theorem R_tinT {l : PySem.Expr} {es : List PySem.Expr} {cx : Nat} (ok : c.Ok prog w K n) (hes : es.all nonstar = true) (h : RUN c Q (.ev l :: .mkf :: .evs es :: .inT false true :: k) s ρ σ) : RUN c Q (.tst (.Compare l [.In] [.Tuple es cx p] pos) :: k) s ρ σ :=
 R_tst <| T_inTup ok (TE.mono (inT_EXS hes h) fun x σ₁ hx => EXS.mono hx fun xs σ₂ hx => ⟨hx.ok, by have := hx.go; rw [bne_false'] at this; exact this⟩)
theorem R_tninT {l : PySem.Expr} {es : List PySem.Expr} {cx : Nat} (ok : c.Ok prog w K n) (hes : es.all nonstar = true) (h : RUN c Q (.ev l :: .mkf :: .evs es :: .inT true true :: k) s ρ σ) : RUN c Q (.tst (.Compare l [.NotIn] [.Tuple es cx p] pos) :: k) s ρ σ :=
 R_tst <| T_ninTup ok (TE.mono (inT_EXS hes h) fun x σ₁ hx => EXS.mono hx fun xs σ₂ hx => ⟨hx.ok, by have := hx.go; rw [bne_true'] at this; exact this⟩)
theorem R_mkf {x : V} (h : RUN c Q k (.f x s) ρ σ) : RUN c Q (.mkf :: k) (.v x s) ρ σ := h
noncomputable def notSl (e : PySem.Expr) : Bool := e.ctorIdx != (PySem.Expr.Slice none none none ⟨0, 0, 0, 0⟩).ctorIdx
noncomputable def notCall : PySem.Expr → Bool | .Call .. => false | _ => true
theorem R_sub {a b : PySem.Expr} (e : notSl b = true) (h : RUN c Q (.ev a :: .ev b :: .sub a b :: k) s ρ σ) : RUN c Q (.ev (.Subscript a b p) :: k) s ρ σ := R_ex <| X_sub h
theorem R_not {e : PySem.Expr} (h : RUN c Q (.ev e :: .tru :: .notv :: k) s ρ σ) : RUN c Q (.ev (.UnaryOp .Not e p) :: k) s ρ σ := R_ex <| X_not h
theorem R_neg {e : PySem.Expr} (h : RUN c Q (.ev e :: .neg :: k) s ρ σ) : RUN c Q (.ev (.UnaryOp .USub e p) :: k) s ρ σ := R_ex <| X_neg h
theorem R_neg1 {i : Int} (h : RUN c Q k (.v (.int (-i)) s) ρ σ) : RUN c Q (.neg :: k) (.v (.int i) s) ρ σ := ⟨i, rfl, h⟩
theorem R_notv {z : Bool} (h : RUN c Q k (.v (.bool (!z)) s) ρ σ) : RUN c Q (.notv :: k) (.b z s) ρ σ := h
theorem R_notb {z : Bool} (h : RUN c Q k (.b (!z) s) ρ σ) : RUN c Q (.notb :: k) (.b z s) ρ σ := h
theorem R_and2 {x y : PySem.Expr} (h : RUN c Q (.ev x :: .and2 y :: k) s ρ σ) : RUN c Q (.ev (.BoolOp .And [x, y] p) :: k) s ρ σ := R_ex <| X_and2 h
theorem R_or2 {x y : PySem.Expr} (h : RUN c Q (.ev x :: .or2 y :: k) s ρ σ) : RUN c Q (.ev (.BoolOp .Or [x, y] p) :: k) s ρ σ := R_ex <| X_or2 h
theorem R_andC {x y : PySem.Expr} {r : List PySem.Expr} (h : RUN c Q (.ev x :: .and2 (.BoolOp .And (y :: r) p) :: k) s ρ σ) : RUN c Q (.ev (.BoolOp .And (x :: y :: r) p) :: k) s ρ σ := R_ex <| X_andC h
theorem R_boolOne {op : BoolOp} {e : PySem.Expr} (h : RUN c Q (.ev e :: k) s ρ σ) : RUN c Q (.ev (.BoolOp op [e] p) :: k) s ρ σ := R_ex <| X_boolOne h
theorem R_and2b {y : PySem.Expr} {z : Bool} (h : RUN c Q (.br (.ev y) (.pv (.bool z)) :: k) (.b z s) ρ σ) : RUN c Q (.and2 y :: k) (.v (.bool z) s) ρ σ := U_bool h
theorem R_or2b {y : PySem.Expr} {z : Bool} (h : RUN c Q (.br (.pv (.bool z)) (.ev y) :: k) (.b z s) ρ σ) : RUN c Q (.or2 y :: k) (.v (.bool z) s) ρ σ := U_bool h
theorem R_and2n {y : PySem.Expr} (h : RUN c Q k (.v .none s) ρ σ) : RUN c Q (.and2 y :: k) (.v .none s) ρ σ := U_none h
theorem R_or2n {y : PySem.Expr} (h : RUN c Q (.ev y :: k) s ρ σ) : RUN c Q (.or2 y :: k) (.v .none s) ρ σ := U_none h
theorem R_ife {t a b : PySem.Expr} (h : RUN c Q (.tst t :: .br (.ev a) (.ev b) :: k) s ρ σ) : RUN c Q (.ev (.IfExp t a b p) :: k) s ρ σ := R_ex <| X_ife h
theorem R_list {es : List PySem.Expr} (ok : c.Ok prog w K n) (hes : es.all nonstar = true) (h : RUN c Q (.evs es :: .lst :: k) (.f .none s) ρ σ) : RUN c Q (.ev (.List es p) :: k) s ρ σ :=
 R_ex <| X_list ok (EXS.mono (pushE_EXS hes h) fun xs σ' hx => by
  have hx : popTo (pushAll xs (.f .none s)) [] _ := hx
  rw [popTo_push] at hx
  rw [show xs = xs ++ [] by simp]; exact hx)
theorem R_tuple {es : List PySem.Expr} {cx : Nat} (ok : c.Ok prog w K n) (hes : es.all nonstar = true) (h : RUN c Q (.evs es :: .tup :: k) (.f .none s) ρ σ) : RUN c Q (.ev (.Tuple es cx p) :: k) s ρ σ :=
 R_ex <| X_tuple ok (EXS.mono (pushE_EXS hes h) fun xs σ' hx => by
  have hx : popTo (pushAll xs (.f .none s)) [] _ := hx
  rw [popTo_push] at hx
  rw [show xs = xs ++ [] by simp]; exact hx)
theorem R_slice {value : PySem.Expr} {lower upper : Option PySem.Expr} (e : notCall value = true) (ok : c.Ok prog w K n) (h : EX prog w c ρ σ value fun x σ₁ => EXO prog w c ρ σ₁ lower fun lo σ₂ => EXO prog w c ρ σ₂ upper fun hi σ₃ => ∃ l xs ys, x = .ref l ∧ σ₃ l = some (.list xs) ∧ xs.length ≤ 100000 ∧ SlR lo hi xs ys ∧ ∀ a, σ₃ a = none → RUN c Q k (.v (.ref a) s) ρ (σ₃.set a (.list ys))) :
 RUN c Q (.ev (.Subscript value (.Slice lower upper none p) pos) :: k) s ρ σ := R_ex <| X_slice ok h
theorem R_tcmp {l r : PySem.Expr} {op : CmpOp} (hm : behindInMarks op r = false) (h : RUN c Q (.ev l :: .ev r :: .cmp op :: .tru :: k) s ρ σ) : RUN c Q (.tst (.Compare l [op] [r] p) :: k) s ρ σ := R_tst <| T_cmp h hm
theorem R_tnot {e : PySem.Expr} (h : RUN c Q (.tst e :: .notb :: k) s ρ σ) : RUN c Q (.tst (.UnaryOp .Not e p) :: k) s ρ σ := R_tst <| T_not h
theorem R_tbool {op : BoolOp} {es : List PySem.Expr} (h : RUN c Q (.all op es :: k) s ρ σ) : RUN c Q (.tst (.BoolOp op es p) :: k) s ρ σ := R_tst <| T_bool h
theorem R_tval {e : PySem.Expr} (he : plainTest e = true) (h : RUN c Q (.ev e :: .tru :: k) s ρ σ) : RUN c Q (.tst e :: k) s ρ σ := R_tst <| T_val h (plain_test he)
theorem R_and1 {e : PySem.Expr} (h : RUN c Q (.tst e :: k) s ρ σ) : RUN c Q (.all .And [e] :: k) s ρ σ := R_all <| A_and (TE.mono h fun z σ' hz => by cases z <;> simp only [Bool.false_eq_true, if_false, if_true] <;> first | exact hz | exact A_and_nil hz)
theorem R_or1 {e : PySem.Expr} (h : RUN c Q (.tst e :: k) s ρ σ) : RUN c Q (.all .Or [e] :: k) s ρ σ := R_all <| A_or (TE.mono h fun z σ' hz => by cases z <;> simp only [Bool.false_eq_true, if_false, if_true] <;> first | exact hz | exact A_or_nil hz)
theorem R_and {e : PySem.Expr} {es : List PySem.Expr} (h : RUN c Q (.tst e :: .br (.all .And es) (.pb false) :: k) s ρ σ) : RUN c Q (.all .And (e :: es) :: k) s ρ σ := R_all <| A_and h
theorem R_or {e : PySem.Expr} {es : List PySem.Expr} (h : RUN c Q (.tst e :: .br (.pb true) (.all .Or es) :: k) s ρ σ) : RUN c Q (.all .Or (e :: es) :: k) s ρ σ := R_all <| A_or h
theorem R_trub {z : Bool} (h : RUN c Q k (.b z s) ρ σ) : RUN c Q (.tru :: k) (.v (.bool z) s) ρ σ := U_bool h
theorem R_trun (h : RUN c Q k (.b false s) ρ σ) : RUN c Q (.tru :: k) (.v .none s) ρ σ := U_none h
theorem R_pb {z : Bool} (h : RUN c Q k (.b z s) ρ σ) : RUN c Q (.pb z :: k) s ρ σ := h
theorem R_pv {x : V} (h : RUN c Q k (.v x s) ρ σ) : RUN c Q (.pv x :: k) s ρ σ := h
theorem R_T {a b : It} {z : Bool} (hz : z = true) (h : RUN c Q (a :: k) s ρ σ) : RUN c Q (.br a b :: k) (.b z s) ρ σ := by subst hz; exact h
theorem R_F {a b : It} {z : Bool} (hz : z = false) (h : RUN c Q (b :: k) s ρ σ) : RUN c Q (.br a b :: k) (.b z s) ρ σ := by subst hz; exact h
theorem R_TT {a b : It} (h : RUN c Q (a :: k) s ρ σ) : RUN c Q (.br a b :: k) (.b true s) ρ σ := h
theorem R_FF {a b : It} (h : RUN c Q (b :: k) s ρ σ) : RUN c Q (.br a b :: k) (.b false s) ρ σ := h
theorem R_B {a b : It} {z : Bool} (h1 : z = true → RUN c Q (a :: k) s ρ σ) (h2 : z = false → RUN c Q (b :: k) s ρ σ) : RUN c Q (.br a b :: k) (.b z s) ρ σ := by
 cases z with
 | true => exact h1 rfl
 | false => exact h2 rfl
theorem R_D {a b : It} {P : Prop} [Decidable P] (h1 : P → RUN c Q (a :: k) s ρ σ) (h2 : ¬ P → RUN c Q (b :: k) s ρ σ) : RUN c Q (.br a b :: k) (.b (decide P) s) ρ σ := R_B (fun e => h1 (of_decide_eq_true e)) fun e => h2 (of_decide_eq_false e)
theorem R_nil (h : RUN c Q k s ρ σ) : RUN c Q (.sts [] :: k) s ρ σ := R_sts <| S_nil h
theorem Then.then {k k' : Loc → Sig → Prop} {o : Out} (h : Then Q k o ρ σ) : Then (Then Q k') k o ρ σ := by cases o <;> exact h
theorem R_cons {t : PySem.Stmt} {r : List PySem.Stmt} (h : RUN c Q (.stm t :: .sts r :: k) s ρ σ) : RUN c Q (.sts (t :: r) :: k) s ρ σ :=
 R_sts <| S_cons fun u F => wpAny_mono (h u F) (fun _ _ => ex2 fun ρ' σ' => an2 fun F' q => ⟨ρ', σ', F', Then.then q⟩) fun _ _ x => x
theorem R_last {t : PySem.Stmt} (h : RUN c Q (.stm t :: k) s ρ σ) : RUN c Q (.sts [t] :: k) s ρ σ :=
 R_cons (ST.mono h fun o ρ' σ' hq => by cases o <;> first | exact hq | exact R_nil hq)
theorem R_ret {e : PySem.Expr} (h : RUN c Q (.ev e :: .ret :: k) s ρ σ) : RUN c Q (.stm (.Return (some e) p) :: k) s ρ σ := R_st <| S_ret h
theorem R_ret0 (h : Q (.ret .none) ρ σ) : RUN c Q (.stm (.Return none p) :: k) s ρ σ := R_st <| S_ret0 h
theorem R_retE {x : V} {P : V → Sig → Prop} (h : P x σ) : RUN c (QE P) (.ret :: k) (.v x s) ρ σ := h
theorem R_retv {x : V} (h : Q (.ret x) ρ σ) : RUN c Q (.ret :: k) (.v x s) ρ σ := h
theorem R_if {t : PySem.Expr} {a b : List PySem.Stmt} (h : RUN c Q (.tst t :: .br (.sts a) (.sts b) :: k) s ρ σ) : RUN c Q (.stm (.If t a b p) :: k) s ρ σ := R_st <| S_if h
theorem R_pass (h : RUN c Q k s ρ σ) : RUN c Q (.stm (.Pass p) :: k) s ρ σ := R_st <| S_pass h
theorem R_cont (h : Q .cont ρ σ) : RUN c Q (.stm (.Continue p) :: k) s ρ σ := R_st <| S_cont h
theorem R_expr {e : PySem.Expr} (ok : c.Ok prog w K n) (he : noComp e = true) (h : RUN c Q (.ev e :: .pop :: k) s ρ σ) : RUN c Q (.stm (.Expr e p) :: k) s ρ σ := R_st <| S_expr h (notInter ok) (noComp_swaps he)
theorem R_pop {x : V} (h : RUN c Q k s ρ σ) : RUN c Q (.pop :: k) (.v x s) ρ σ := h
theorem R_assign {x : Str} {p' : Pos} {e : PySem.Expr} (ok : c.Ok prog w K n) (he : noComp e = true) (h : RUN c Q (.ev e :: .store x :: k) s ρ σ) : RUN c Q (.stm (.Assign [.Name x p'] e p) :: k) s ρ σ := R_st <| S_assign ok h (noComp_swaps he)
theorem R_store {x : Str} {v : V} (hs : SetV ρ x v ρ') (h : RUN c Q k s ρ' σ) : RUN c Q (.store x :: k) (.v v s) ρ σ := ⟨ρ', hs, h⟩
theorem R_assignT {t e : PySem.Expr} (ht : plainTgt t = true) (he : noComp e = true) (h : RUN c Q (.ev e :: .tgt t :: k) s ρ σ) : RUN c Q (.stm (.Assign [t] e p) :: k) s ρ σ := R_st <| S_assignT h (noComp_swaps he) (plain_swap ht) (plain_each ht)
theorem R_assignU {e : PySem.Expr} {es : List PySem.Expr} {cx : Nat} (he : noComp e = true) (hst : swappedStores [.Tuple es cx pos] e c.env = pure none) (h : RUN c Q (.ev e :: .tgt (.Tuple es cx pos) :: k) s ρ σ) : RUN c Q (.stm (.Assign [.Tuple es cx pos] e p) :: k) s ρ σ := R_st <| S_assignT h (noComp_swaps he) hst rfl
theorem R_tname {x : Str} {v : V} (ok : c.Ok prog w K n) (hs : SetV ρ x v ρ') (h : RUN c Q k s ρ' σ) : RUN c Q (.tgt (.Name x p) :: k) (.v v s) ρ σ := R_tgt <| G_name ok hs h
theorem R_tattr {o : PySem.Expr} {nm : Str} {v : V} (h : RUN c Q (.ev o :: .seta nm :: k) (.v v s) ρ σ) : RUN c Q (.tgt (.Attribute o nm p) :: k) (.v v s) ρ σ := R_tgt <| G_attr h
theorem R_tsub {o i : PySem.Expr} {v : V} (h : RUN c Q (.ev o :: .ev i :: .seti :: k) (.v v s) ρ σ) : RUN c Q (.tgt (.Subscript o i p) :: k) (.v v s) ρ σ := R_tgt <| G_sub h
theorem R_aug {x : Str} {p' : Pos} {op : Operator} {e : PySem.Expr} {v : V} (ok : c.Ok prog w K n) (hv : HasV ρ x v) (h : RUN c Q (.ev e :: .inp op :: .store x :: k) (.v v s) ρ σ) : RUN c Q (.stm (.AugAssign (.Name x p') op e p) :: k) s ρ σ := R_st <| S_aug ok hv h
theorem R_augA {o e : PySem.Expr} {nm : Str} {tp : Pos} {op : Operator} (h : RUN c Q (.ev o :: .get2 nm :: .ev e :: .inp op :: .setb nm :: k) s ρ σ) : RUN c Q (.stm (.AugAssign (.Attribute o nm tp) op e p) :: k) s ρ σ := R_st <| S_augA h
theorem R_ifF {t : PySem.Expr} {a : List PySem.Stmt} {τ : Sig} (h : TST prog w c ρ σ t fun b σ' => b = false ∧ Le τ σ') (h2 : ∀ σ', Le τ σ' → RUN c Q k s ρ σ') : RUN c Q (.stm (.If t a [] p) :: k) s ρ σ :=
 R_st <| S_if (TE.mono h fun b σ' => an2 fun hb le => by subst hb; exact ifFF (S_nil (h2 σ' le)))
inductive CmpV : CmpOp → V → V → Bool → Prop
 | eqi {a b} : CmpV .Eq (.int a) (.int b) (decide (a = b))
 | nei {a b} : CmpV .NotEq (.int a) (.int b) (decide (a ≠ b))
 | lt {a b} : CmpV .Lt (.int a) (.int b) (decide (a < b))
 | le {a b} : CmpV .LtE (.int a) (.int b) (decide (a ≤ b))
 | gt {a b} : CmpV .Gt (.int a) (.int b) (decide (a > b))
 | ge {a b} : CmpV .GtE (.int a) (.int b) (decide (a ≥ b))
 | eqs {a b} : CmpV .Eq (.str a) (.str b) (decide (a = b))
 | nes {a b} : CmpV .NotEq (.str a) (.str b) (decide (a ≠ b))
 | is {x} : notBi x = true → CmpV .Is x .none (decide (x = .none))
 | isnot {x} : notBi x = true → CmpV .IsNot x .none (decide (x ≠ .none))
theorem cmpV_of {op : CmpOp} {x y : V} {z : Bool} {P : V → Sig → Prop} (e : CmpV op x y z) (h : P (.bool z) σ) : CMP prog w c ρ σ op x y P := by
 induction e with
 | eqi => exact C_eqi h
 | nei => exact C_nei h
 | lt => exact C_lt h
 | le => exact C_le h
 | gt => exact C_gt h
 | ge => exact C_ge h
 | eqs => exact C_eqs h
 | nes => exact C_nes h
 | is hb => exact C_is hb h
 | isnot hb => exact C_isnot hb h
theorem R_cmpv {op : CmpOp} {x y : V} {z : Bool} (e : CmpV op x y z) (h : RUN c Q k (.v (.bool z) s) ρ σ) : RUN c Q (.cmp op :: k) (.v y (.v x s)) ρ σ := cmpV_of (P := fun z σ' => RUN c Q k (.v z s) ρ σ') e h
theorem R_cmpt {op : CmpOp} {x y : V} {z : Bool} (e : CmpV op x y z) (h : RUN c Q k (.b z s) ρ σ) : RUN c Q (.cmp op :: .tru :: k) (.v y (.v x s)) ρ σ := R_cmpv e (R_trub h)
theorem R_addi {i j : Int} (h : RUN c Q k (.v (.int (i + j)) s) ρ σ) : RUN c Q (.bin .Add :: k) (.v (.int j) (.v (.int i) s)) ρ σ := B_add (Q := fun z σ' => RUN c Q k (.v z s) ρ σ') h
theorem R_subi {i j : Int} (h : RUN c Q k (.v (.int (i - j)) s) ρ σ) : RUN c Q (.bin .Sub :: k) (.v (.int j) (.v (.int i) s)) ρ σ := B_sub (Q := fun z σ' => RUN c Q k (.v z s) ρ σ') h
theorem R_inci {i j : Int} (h : RUN c Q k (.v (.int (i + j)) s) ρ σ) : RUN c Q (.inp .Add :: k) (.v (.int j) (.v (.int i) s)) ρ σ := I_add (Q := fun z σ' => RUN c Q k (.v z s) ρ σ') h
theorem R_cm {op : CmpOp} {x y : V} (h : CMP prog w c ρ σ op x y (KV c Q k s ρ)) : RUN c Q (.cmp op :: k) (.v y (.v x s)) ρ σ := h
theorem R_bn {op : Operator} {x y : V} (h : BIN prog w c ρ σ op x y (KV c Q k s ρ)) : RUN c Q (.bin op :: k) (.v y (.v x s)) ρ σ := h
theorem R_in {op : Operator} {x y : V} (h : INP prog w c ρ σ op x y (KV c Q k s ρ)) : RUN c Q (.inp op :: k) (.v y (.v x s)) ρ σ := h
theorem R_at {x : V} {a : Str} (h : GETA prog w c ρ σ x a (KV c Q k s ρ)) : RUN c Q (.attr a :: k) (.v x s) ρ σ := h
theorem R_gt {x : V} {a : Str} (h : GETA prog w c ρ σ x a (KV c Q k (.v x s) ρ)) : RUN c Q (.get2 a :: k) (.v x s) ρ σ := h
theorem R_sbt {x i : V} {a b : PySem.Expr} (h : SUBT prog w c ρ σ a b x i (KV c Q k s ρ)) : RUN c Q (.sub a b :: k) (.v i (.v x s)) ρ σ := h
theorem R_sa {x y : V} {a : Str} (h : SETA prog w c ρ σ x a y (RUN c Q k s ρ)) : RUN c Q (.seta a :: k) (.v x (.v y s)) ρ σ := h
theorem R_sb {x y : V} {a : Str} (h : SETA prog w c ρ σ x a y (RUN c Q k s ρ)) : RUN c Q (.setb a :: k) (.v y (.v x s)) ρ σ := h
theorem R_si {x y i : V} (h : SETI prog w c ρ σ x i y (RUN c Q k s ρ)) : RUN c Q (.seti :: k) (.v i (.v x (.v y s))) ρ σ := h
theorem R_kind {x l : Addr} {kk : Str} {xs : List V} {a : V} (hK : KOk K) (ok : c.Ok prog w K n) (hv : Vec K σ x kk l xs a) (h : RUN c Q k (.v (.str kk) s) ρ σ) : RUN c Q (.attr "kind" :: k) (.v (.ref x) s) ρ σ := V_kind (Q := fun z σ' => RUN c Q k (.v z s) ρ σ') hK ok hv h
theorem R_items {x l : Addr} {kk : Str} {xs : List V} {a : V} (hK : KOk K) (ok : c.Ok prog w K n) (hv : Vec K σ x kk l xs a) (h : RUN c Q k (.v (.ref l) s) ρ σ) : RUN c Q (.attr "items" :: k) (.v (.ref x) s) ρ σ := V_items (Q := fun z σ' => RUN c Q k (.v z s) ρ σ') hK ok hv h
theorem R_attrs {x l : Addr} {kk : Str} {xs : List V} {a : V} (hK : KOk K) (ok : c.Ok prog w K n) (hv : Vec K σ x kk l xs a) (ha : notBi a = true) (h : RUN c Q k (.v a s) ρ σ) : RUN c Q (.attr "attrs" :: k) (.v (.ref x) s) ρ σ := V_attrs (Q := fun z σ' => RUN c Q k (.v z s) ρ σ') hK ok hv ha h
theorem unp_of {s' : Stk} {acc : List V} {g : V} {xs : List V} {P : V → List V → Stk → Prop} (e : unp s' acc = some (g, xs, s)) (h : P g xs s) : popTo s' acc P := by
 induction s' generalizing acc with
 | v x s' ih => exact ih e
 | f g' s' => cases e; exact h
 | nil => cases e
 | b => cases e
theorem R_call {s' : Stk} {g : V} {xs : List V} (e : unp s' [] = some (g, xs, s)) (h : CALL prog w c ρ σ g xs [] (KV c Q k s ρ)) : RUN c Q (.call :: k) s' ρ σ := unp_of e h
theorem R_lst {s' : Stk} {g : V} {xs : List V} (e : unp s' [] = some (g, xs, s)) (hl : Nat.ble xs.length 100 = true) (h : ∀ a, σ a = none → RUN c Q k (.v (.ref a) s) ρ (σ.set a (.list xs))) : RUN c Q (.lst :: k) s' ρ σ := unp_of (P := fun _ xs s => xs.length ≤ 100000 ∧ ∀ a, σ a = none → RUN c Q k (.v (.ref a) s) ρ (σ.set a (.list xs))) e ⟨Nat.le_trans (Nat.le_of_ble_eq_true hl) (by decide), h⟩
theorem R_tup {s' : Stk} {g : V} {xs : List V} (e : unp s' [] = some (g, xs, s)) (hl : Nat.ble xs.length 100 = true) (h : ∀ a, σ a = none → RUN c Q k (.v (.ref a) s) ρ (σ.set a (.tup xs))) : RUN c Q (.tup :: k) s' ρ σ := unp_of (P := fun _ xs s => xs.length ≤ 100000 ∧ ∀ a, σ a = none → RUN c Q k (.v (.ref a) s) ρ (σ.set a (.tup xs))) e ⟨Nat.le_trans (Nat.le_of_ble_eq_true hl) (by decide), h⟩
theorem R_inv {s' : Stk} {x : V} {xs : List V} {z : Bool} (e : unp s' [] = some (x, xs, s)) (hi : inOk x xs = true) (h : RUN c Q k (.v (.bool (isIn x xs != z)) s) ρ σ) : RUN c Q (.inT z false :: k) s' ρ σ := unp_of (P := fun x xs s => InTup x xs (RUN c Q k (.v (.bool (isIn x xs != z)) s) ρ σ)) e ⟨hi, h⟩
theorem R_inb {s' : Stk} {x : V} {xs : List V} {z : Bool} (e : unp s' [] = some (x, xs, s)) (hi : inOk x xs = true) (h : RUN c Q k (.b (isIn x xs != z) s) ρ σ) : RUN c Q (.inT z true :: k) s' ρ σ := unp_of (P := fun x xs s => InTup x xs (RUN c Q k (.b (isIn x xs != z) s) ρ σ)) e ⟨hi, h⟩
end
inductive AVs (gl : List (Str × V)) (ρ : Loc) : List PySem.Expr → List V → Prop
 | nil : AVs gl ρ [] []
 | l {x : Str} {p : Pos} {v : V} {es xs} : HasV ρ x v → AVs gl ρ es xs → AVs gl ρ (.Name x p :: es) (v :: xs)
 | g {x : Str} {p : Pos} {v : V} {es xs} : HasG gl x v → AVs gl ρ es xs → AVs gl ρ (.Name x p :: es) (v :: xs)
 | i {i : Int} {m : Nat} {p : Pos} {es xs} : AVs gl ρ es xs → AVs gl ρ (.Constant (.int i) m p :: es) (.int i :: xs)
 | s {i : Str} {m : Nat} {p : Pos} {es xs} : AVs gl ρ es xs → AVs gl ρ (.Constant (.str i) m p :: es) (.str i :: xs)
 | b {i : Bool} {m : Nat} {p : Pos} {es xs} : AVs gl ρ es xs → AVs gl ρ (.Constant (.bool i) m p :: es) (.bool i :: xs)
 | n {m : Nat} {p : Pos} {es xs} : AVs gl ρ es xs → AVs gl ρ (.Constant .none m p :: es) (.none :: xs)
section
variable {n : Nat} {c : Cx} {ρ ρ' : Loc} {σ : Sig} {Q : Out → Loc → Sig → Prop} {k : List It} {s : Stk} {p q pos : Pos} {gl : List (Str × V)}
theorem AVs.star {es : List PySem.Expr} {xs : List V} (h : AVs gl ρ es xs) : es.all nonstar = true := by
 induction h with
 | nil => rfl
 | _ => assumption
theorem AVs.run {es : List PySem.Expr} {xs : List V} (ok : c.Ok prog w K n) (hgl : c.gl = gl) (h : AVs gl ρ es xs) : ∀ {s : Stk}, RUN c Q k (pushAll xs s) ρ σ → RUN c Q (.evs es :: k) s ρ σ := by
 induction h with
 | nil => exact fun r => r
 | l hv _ ih => exact fun r => R_evs_cons (R_loc ok hv (ih r))
 | g hv _ ih => exact fun r => R_evs_cons (R_glob ok hgl hv (ih r))
 | i _ ih => exact fun r => R_evs_cons (R_int (ih r))
 | s _ ih => exact fun r => R_evs_cons (R_str (ih r))
 | b _ ih => exact fun r => R_evs_cons (R_bool (ih r))
 | n _ ih => exact fun r => R_evs_cons (R_none (ih r))
theorem AVs.noC {e : PySem.Expr} {xs : List V} (h : AVs gl ρ [e] xs) : noComp e = true := by cases h <;> rfl
theorem unp_push {g : V} : ∀ {xs : List V} {s : Stk} {acc : List V}, unp (pushAll xs s) acc = unp s (xs ++ acc)
 | [], _, _ => rfl
 | x :: xs, s, acc => by
  show unp (pushAll xs (.v x s)) acc = _
  rw [unp_push (g := g)]; rfl
theorem unp_all {g : V} {xs : List V} {s : Stk} : unp (pushAll xs (.f g s)) [] = some (g, xs, s) := by
 rw [unp_push (g := g), List.append_nil]; rfl
theorem R_callA {x : Str} {np : Pos} {es : List PySem.Expr} {g : V} {xs : List V} (ok : c.Ok prog w K n) (hgl : c.gl = gl) (hv : HasG gl x g) (ha : AVs gl ρ es xs) (h : CALL prog w c ρ σ g xs [] (KV c Q k s ρ)) : RUN c Q (.ev (.Call (.Name x np) es [] pos) :: k) s ρ σ :=
 R_callG ok hgl hv ha.star (ha.run ok hgl (R_call unp_all h))
theorem R_tcmpA {l r : PySem.Expr} {op : CmpOp} {x y : V} {z : Bool} (ok : c.Ok prog w K n) (hgl : c.gl = gl) (hm : behindInMarks op r = false) (ha : AVs gl ρ [l, r] [x, y]) (e : CmpV op x y z) (h : RUN c Q k (.b z s) ρ σ) : RUN c Q (.tst (.Compare l [op] [r] p) :: k) s ρ σ :=
 R_tcmp hm (ha.run ok hgl (k := .cmp op :: .tru :: k) (s := s) (R_cmpt e h))
theorem R_retA {e : PySem.Expr} {x : V} {P : V → Sig → Prop} (ok : c.Ok prog w K n) (hgl : c.gl = gl) (ha : AVs gl ρ [e] [x]) (h : P x σ) : RUN c (QE P) (.stm (.Return (some e) p) :: k) s ρ σ :=
 R_ret (ha.run ok hgl (k := .ret :: k) (s := s) (R_retE h))
theorem R_attrN {x a : Str} {v : V} (ok : c.Ok prog w K n) (hv : HasV ρ x v) (h : RUN c Q (.attr a :: k) (.v v s) ρ σ) : RUN c Q (.ev (.Attribute (.Name x q) a p) :: k) s ρ σ := R_attr rfl (R_loc ok hv h)
theorem R_assignA {x : Str} {e : PySem.Expr} {v : V} (ok : c.Ok prog w K n) (hgl : c.gl = gl) (ha : AVs gl ρ [e] [v]) (hs : SetV ρ x v ρ') (h : RUN c Q k s ρ' σ) : RUN c Q (.stm (.Assign [.Name x q] e p) :: k) s ρ σ :=
 R_assign ok ha.noC (ha.run ok hgl (k := .store x :: k) (s := s) (R_store hs h))
theorem R_lstA {es : List PySem.Expr} {xs : List V} (ok : c.Ok prog w K n) (hgl : c.gl = gl) (ha : AVs gl ρ es xs) (hl : Nat.ble xs.length 100 = true) (h : ∀ a, σ a = none → RUN c Q k (.v (.ref a) s) ρ (σ.set a (.list xs))) : RUN c Q (.ev (.List es p) :: k) s ρ σ :=
 R_list ok ha.star (ha.run ok hgl (R_lst unp_all hl h))
theorem R_tupA {es : List PySem.Expr} {cx : Nat} {xs : List V} (ok : c.Ok prog w K n) (hgl : c.gl = gl) (ha : AVs gl ρ es xs) (hl : Nat.ble xs.length 100 = true) (h : ∀ a, σ a = none → RUN c Q k (.v (.ref a) s) ρ (σ.set a (.tup xs))) : RUN c Q (.ev (.Tuple es cx p) :: k) s ρ σ :=
 R_tuple ok ha.star (ha.run ok hgl (R_tup unp_all hl h))
end
section
variable {p0 p1 p2 p3 p4 p5 p6 p7 p8 p9 : Str × Option V} {q0 q1 q2 q3 q4 q5 q6 q7 q8 q9 : Str × V} {r : List (Str × Option V)} {u : List (Str × V)} {x : Str} {v : V} {o : Option V}
theorem hv0 : HasV ((x, some v) :: r) x v := .head
theorem hv1 : HasV (p0 :: (x, some v) :: r) x v := .tail .head
theorem hv2 : HasV (p0 :: p1 :: (x, some v) :: r) x v := .tail (.tail .head)
theorem hv3 : HasV (p0 :: p1 :: p2 :: (x, some v) :: r) x v := .tail (.tail (.tail .head))
theorem hv4 : HasV (p0 :: p1 :: p2 :: p3 :: (x, some v) :: r) x v := .tail (.tail (.tail (.tail .head)))
theorem hv5 : HasV (p0 :: p1 :: p2 :: p3 :: p4 :: (x, some v) :: r) x v := .tail (.tail (.tail (.tail (.tail .head))))
theorem hv6 : HasV (p0 :: p1 :: p2 :: p3 :: p4 :: p5 :: (x, some v) :: r) x v := .tail (.tail (.tail (.tail (.tail (.tail .head)))))
theorem hv7 : HasV (p0 :: p1 :: p2 :: p3 :: p4 :: p5 :: p6 :: (x, some v) :: r) x v := .tail (.tail (.tail (.tail (.tail (.tail (.tail .head))))))
theorem hv8 : HasV (p0 :: p1 :: p2 :: p3 :: p4 :: p5 :: p6 :: p7 :: (x, some v) :: r) x v := .tail (.tail (.tail (.tail (.tail (.tail (.tail (.tail .head)))))))
theorem hv9 : HasV (p0 :: p1 :: p2 :: p3 :: p4 :: p5 :: p6 :: p7 :: p8 :: (x, some v) :: r) x v := .tail (.tail (.tail (.tail (.tail (.tail (.tail (.tail (.tail .head))))))))
theorem hvn (h : HasV r x v) : HasV (p0 :: p1 :: p2 :: p3 :: p4 :: p5 :: p6 :: p7 :: p8 :: p9 :: r) x v := .tail (.tail (.tail (.tail (.tail (.tail (.tail (.tail (.tail (.tail (h))))))))))
theorem sv0 : SetV ((x, o) :: r) x v ((x, some v) :: r) := .head
theorem sv1 : SetV (p0 :: (x, o) :: r) x v (p0 :: (x, some v) :: r) := .tail .head
theorem sv2 : SetV (p0 :: p1 :: (x, o) :: r) x v (p0 :: p1 :: (x, some v) :: r) := .tail (.tail .head)
theorem sv3 : SetV (p0 :: p1 :: p2 :: (x, o) :: r) x v (p0 :: p1 :: p2 :: (x, some v) :: r) := .tail (.tail (.tail .head))
theorem sv4 : SetV (p0 :: p1 :: p2 :: p3 :: (x, o) :: r) x v (p0 :: p1 :: p2 :: p3 :: (x, some v) :: r) := .tail (.tail (.tail (.tail .head)))
theorem sv5 : SetV (p0 :: p1 :: p2 :: p3 :: p4 :: (x, o) :: r) x v (p0 :: p1 :: p2 :: p3 :: p4 :: (x, some v) :: r) := .tail (.tail (.tail (.tail (.tail .head))))
theorem sv6 : SetV (p0 :: p1 :: p2 :: p3 :: p4 :: p5 :: (x, o) :: r) x v (p0 :: p1 :: p2 :: p3 :: p4 :: p5 :: (x, some v) :: r) := .tail (.tail (.tail (.tail (.tail (.tail .head)))))
theorem sv7 : SetV (p0 :: p1 :: p2 :: p3 :: p4 :: p5 :: p6 :: (x, o) :: r) x v (p0 :: p1 :: p2 :: p3 :: p4 :: p5 :: p6 :: (x, some v) :: r) := .tail (.tail (.tail (.tail (.tail (.tail (.tail .head))))))
theorem sv8 : SetV (p0 :: p1 :: p2 :: p3 :: p4 :: p5 :: p6 :: p7 :: (x, o) :: r) x v (p0 :: p1 :: p2 :: p3 :: p4 :: p5 :: p6 :: p7 :: (x, some v) :: r) := .tail (.tail (.tail (.tail (.tail (.tail (.tail (.tail .head)))))))
theorem sv9 : SetV (p0 :: p1 :: p2 :: p3 :: p4 :: p5 :: p6 :: p7 :: p8 :: (x, o) :: r) x v (p0 :: p1 :: p2 :: p3 :: p4 :: p5 :: p6 :: p7 :: p8 :: (x, some v) :: r) := .tail (.tail (.tail (.tail (.tail (.tail (.tail (.tail (.tail .head))))))))
theorem svn {r' : List (Str × Option V)} (h : SetV r x v r') : SetV (p0 :: p1 :: p2 :: p3 :: p4 :: p5 :: p6 :: p7 :: p8 :: p9 :: r) x v (p0 :: p1 :: p2 :: p3 :: p4 :: p5 :: p6 :: p7 :: p8 :: p9 :: r') := .tail (.tail (.tail (.tail (.tail (.tail (.tail (.tail (.tail (.tail (h))))))))))
theorem hg0 : HasG ((x, v) :: u) x v := .head
theorem hg1 : HasG (q0 :: (x, v) :: u) x v := .tail .head
theorem hg2 : HasG (q0 :: q1 :: (x, v) :: u) x v := .tail (.tail .head)
theorem hg3 : HasG (q0 :: q1 :: q2 :: (x, v) :: u) x v := .tail (.tail (.tail .head))
theorem hg4 : HasG (q0 :: q1 :: q2 :: q3 :: (x, v) :: u) x v := .tail (.tail (.tail (.tail .head)))
theorem hg5 : HasG (q0 :: q1 :: q2 :: q3 :: q4 :: (x, v) :: u) x v := .tail (.tail (.tail (.tail (.tail .head))))
theorem hg6 : HasG (q0 :: q1 :: q2 :: q3 :: q4 :: q5 :: (x, v) :: u) x v := .tail (.tail (.tail (.tail (.tail (.tail .head)))))
theorem hg7 : HasG (q0 :: q1 :: q2 :: q3 :: q4 :: q5 :: q6 :: (x, v) :: u) x v := .tail (.tail (.tail (.tail (.tail (.tail (.tail .head))))))
theorem hg8 : HasG (q0 :: q1 :: q2 :: q3 :: q4 :: q5 :: q6 :: q7 :: (x, v) :: u) x v := .tail (.tail (.tail (.tail (.tail (.tail (.tail (.tail .head)))))))
theorem hg9 : HasG (q0 :: q1 :: q2 :: q3 :: q4 :: q5 :: q6 :: q7 :: q8 :: (x, v) :: u) x v := .tail (.tail (.tail (.tail (.tail (.tail (.tail (.tail (.tail .head))))))))
theorem hgn (h : HasG u x v) : HasG (q0 :: q1 :: q2 :: q3 :: q4 :: q5 :: q6 :: q7 :: q8 :: q9 :: u) x v := .tail (.tail (.tail (.tail (.tail (.tail (.tail (.tail (.tail (.tail (h))))))))))
theorem hvc {p0 : Str × Option V} (h : HasG u x v) : HasV (p0 :: capRho u) x v := .tail (by
 induction h with
 | head => exact .head
 | tail _ ih => exact .tail ih)
end
section
variable {n : Nat} {c : Cx} {ρ ρ' : Loc} {σ σ' σ₁ : Sig} {Q : Out → Loc → Sig → Prop} {k : List It} {s : Stk} {p pos : Pos}
theorem Le.tset {a : Addr} {o : AObj} (e : σ' a = none) (h : Le σ σ') : Le σ (σ'.set a o) := h.trans (Yc e)
theorem Le.t2 (e : Le σ' σ₁) (h : Le σ σ') : Le σ σ₁ := h.trans e
noncomputable def notAss (t : PySem.Stmt) : Bool := t.ctorIdx != (PySem.Stmt.Assign [] (.Constant .none 0 ⟨0, 0, 0, 0⟩) ⟨0, 0, 0, 0⟩).ctorIdx
theorem R_st' {t : PySem.Stmt} (e : notAss t = true) (h : ST prog w c ρ σ t (Then Q (RUN c Q k s))) : RUN c Q (.stm t :: k) s ρ σ := h
theorem STS.runc {t : PySem.Stmt} {r : List PySem.Stmt} (h : RUN c Q [.stm t, .sts r] .nil ρ σ) : STS prog w c ρ σ (t :: r) Q := STS.run (R_cons h)
theorem STS.runcL {P : Loc → Sig → Prop} {t : PySem.Stmt} {r : List PySem.Stmt} (h : ∀ R, LR (LoopQ P Q) R → RUN c R [.stm t, .sts r] .nil ρ σ) : STS prog w c ρ σ (t :: r) (LoopQ P Q) := STS.runL fun R hR => R_cons (h R hR)
theorem ST.runIf {t : PySem.Expr} {a b : List PySem.Stmt} (h : RUN c Q [.stm (.If t a b p)] .nil ρ σ) : ST prog w c ρ σ (.If t a b p) Q := ST.run h
theorem exSv {x : Str} {v : V} {P : Loc → Prop} (e : SetV ρ x v ρ') (h : P ρ') : ∃ ρ', SetV ρ x v ρ' ∧ P ρ' := ⟨ρ', e, h⟩
theorem SB_dicS' {value slice : PySem.Expr} {l : Addr} {g : List (Str × V)} {k : Str} {v : V} {Q : V → Sig → Prop} (hl : σ l = some (.dicS g)) (hx : dlook g k = some v) (hs : ∀ a b, ∃ ops, subscripted slice false a b = operate ops (getItem a b)) (h : Q v σ) : SUBT prog w c ρ σ value slice (.ref l) (.str k) Q := SB_dicS hl hx h hs
theorem SB_list' {value slice : PySem.Expr} {l : Addr} {xs : List V} {k : Int} {v : V} {Q : V → Sig → Prop} (hl : σ l = some (.list xs)) (h0 : 0 ≤ k) (hk : k < 2 ^ 63) (hx : xs[k.toNat]? = some v) (hs : ∀ a b, ∃ ops, subscripted slice false a b = operate ops (getItem a b)) (h : Q v σ) : SUBT prog w c ρ σ value slice (.ref l) (.int k) Q := SB_list hl h0 hk hx h hs
theorem SB_tup' {value slice : PySem.Expr} {l : Addr} {xs : List V} {k : Int} {v : V} {Q : V → Sig → Prop} (hl : σ l = some (.tup xs)) (h0 : 0 ≤ k) (hk : k < 2 ^ 63) (hx : xs[k.toNat]? = some v) (hs : ∀ a b, ∃ ops, subscripted slice false a b = operate ops (getItem a b)) (h : Q v σ) : SUBT prog w c ρ σ value slice (.ref l) (.int k) Q := SB_tup hl h0 hk hx h hs
theorem TGT.run' {e : PySem.Expr} {x : V} {P : Loc → Sig → Prop} (ht : plainTgt e = true) (h : RUN c (QT P) [.tgt e] (.v x .nil) ρ σ) : TGT prog w c ρ σ e x P := h
theorem vecm {x l : Addr} {kk : Str} {xs : List V} {a : V} (h : Vec K σ x kk l xs a) (le : Le σ σ') : Vec K σ' x kk l xs a := h.mono le
theorem dT {P : Prop} [Decidable P] (h : P) : decide P = true := decide_eq_true h
theorem dF {P : Prop} [Decidable P] (h : ¬ P) : decide P = false := decide_eq_false h
end
section
variable {n : Nat} {c c' : Cx} {ρ ρ' : Loc} {σ σ' : Sig} {s s' : Shared}
noncomputable def FRS (c : Cx) (σ : Sig) : Prop := ∃ l, c.A.frames = some (c.env :: l) ∧ c.env.frame = some c.env.locals ∧ ∀ v ∈ l, v.scope.kind ≠ .module ∧ ∃ L m, v.frame = some L ∧ σ L = some (.ns m)
theorem FRS.mono (h : FRS c σ) (le : Le σ σ') : FRS c σ' := by
 revert h; refine ex1 fun l => an3 fun a b d => ?_
 exact ⟨l, a, b, fun v hv => by obtain ⟨x, L, m, y, z⟩ := d v hv; exact ⟨x, L, m, y, le _ _ z⟩⟩
theorem Fm.slots (F : Fm prog w c ρ σ s) (ok : c.Ok prog w K n) {S : List Addr} {h' : Heap} (hS : ∀ b ∈ S, b = c.env.locals ∨ ∃ m, σ b = some (.ns m)) (hs : Heap.SlotsOnly S s.heap h') : Fm prog w c ρ σ { s with heap := h' } := by
 have up : s.heap.UpToSlots h' := fun b o e _ => hs.2.2 b o e
 refine ⟨F.names, ?_, ?_, ?_, ?_, F.free, F.gens, F.os⟩
 · obtain ⟨m, a, b⟩ := F.ns; exact ⟨m, up.ns a, b⟩
 · intro p hp hk
   refine (ex2 fun a v => an3 fun x => ?_) (F.cl p hp hk); rintro ⟨o, y, y'⟩; intro z
   refine ⟨a, v, x, ⟨o, (hs.2.1 a fun q => ?_).trans y, y'⟩, z⟩
   rcases hS a q with rfl | ⟨m, hm⟩
   · exact (ok.fresh.2 _ _ x).2 rfl
   · exact (F.free a _ hm).2.2 _ x
 · intro b o e
   refine (hs.2.1 b fun q => ?_).trans (F.keep b o e)
   rcases hS b q with rfl | ⟨m, hm⟩
   · rw [ok.fresh.1] at e; cases e
   · rw [(F.free b _ hm).1] at e; cases e
 · intro a o e
   by_cases q : a ∈ S
   · rcases hS a q with rfl | ⟨m, hm⟩
     · exact absurd rfl (F.free _ _ e).2.1
     · rw [hm] at e; cases e
       exact up.ns (F.own a _ hm)
   · exact (F.own a o e).same (hs.2.1 a q)
theorem FRS.fun (F : Fm prog w c ρ σ s) (ok : c.Ok prog w K n) {l : List Env} (h1 : c.env.frame = some c.env.locals) (h2 : ∀ v ∈ l, v.scope.kind ≠ .module ∧ ∃ L m, v.frame = some L ∧ σ L = some (.ns m)) :
 s.heap.FunFrames (hideP (fun _ => true) s.heap) (c.env :: l) ∧ ∀ b ∈ (c.env :: l).filterMap (·.frame), b = c.env.locals ∨ ∃ m, σ b = some (.ns m) := by
 have no : ∀ L, (hideP (fun _ => true) s.heap).get? L = none := fun L => by rw [hideP_get]; rfl
 have go : ∀ l : List Env, (∀ v ∈ l, v.scope.kind ≠ .module ∧ ∃ L m, v.frame = some L ∧ σ L = some (.ns m)) → s.heap.FunFrames (hideP (fun _ => true) s.heap) l := by
  intro l
  induction l with
  | nil => intro _; trivial
  | cons v r ih =>
   intro hl
   refine (an2 fun a => ex2 fun L m => ?_) (hl v List.mem_cons_self); rintro ⟨b, d⟩
   refine (ex3 fun o es ep => an3 fun e hd _ => ?_) (F.own L _ d)
   exact ⟨a, ⟨L, o, b, no L, e, fun vs q => by rw [hd] at q; cases q⟩, ih fun u hu => hl u (List.mem_cons_of_mem _ hu)⟩
 refine ⟨?_, ?_⟩
 · obtain ⟨m, ⟨o, es, ep, e, hd, _⟩, _⟩ := F.ns
   exact ⟨by rw [ok.kind]; decide, ⟨_, o, h1, no _, e, fun vs q => by rw [hd] at q; cases q⟩, go l h2⟩
 · intro b hb
   obtain ⟨v, hv, hf⟩ := List.mem_filterMap.mp hb
   rcases List.mem_cons.mp hv with rfl | hv
   · rw [h1] at hf; cases hf; exact .inl rfl
   · refine (an2 fun _ => ex2 fun L m => ?_) (h2 v hv); rintro ⟨x, y⟩
     rw [x] at hf; cases hf; exact .inr ⟨m, y⟩
theorem mapFields_dict (o : Obj) (f : Array Value → Array Value) : (o.mapFields f).dict = o.dict := by
 obtain ⟨a, b, d, e⟩ := o; cases d <;> rfl
structure ExcB (σ₀ : Sig) (msg : Str) (d e : Addr) (σ : Sig) : Prop where
 le : Le σ₀ σ
 ne : σ₀ e = none
 msg : σ d = some (.flds [("message", .str msg)])
structure ExcAt (σ₀ : Sig) (msg : Str) (C : Value) (d : Addr) (e : Addr) (fl : Value) (σ : Sig) : Prop extends ExcB σ₀ msg d e σ where
 ex : ∃ oe vs T oT ts, σ e = some (.raw oe) ∧ oe.cls = C ∧ oe.dict = some d ∧ oe.data = .fields vs ∧ vs[1]? = some (.ref T) ∧ T ≠ e ∧ σ T = some (.raw oT) ∧ oT.data = .fields ts ∧ ts[3]? = some fl ∧ σ₀ T = none
theorem Le.none {σ₀ σ : Sig} (h : Le σ₀ σ) {a : Addr} (e : σ a = none) : σ₀ a = none := by
 cases q : σ₀ a with
 | none => rfl
 | some x => rw [h a x q] at e; cases e
theorem Le.setIn {σ₀ σ : Sig} (h : Le σ₀ σ) {a : Addr} {o : AObj} (e : σ₀ a = Option.none) : Le σ₀ (σ.set a o) := fun b x q => by
 rw [Yd (fun r => by rw [r, e] at q; cases q)]; exact h b x q
theorem ExcB.set {σ₀ σ : Sig} {msg : Str} {d e a : Addr} (h : ExcB σ₀ msg d e σ) (h0 : σ₀ a = none) (hr : a ≠ d) {o : AObj} : ExcB σ₀ msg d e (σ.set a o) :=
 ⟨h.le.setIn h0, h.ne, by rw [Yd (Ne.symm hr)]; exact h.msg⟩
theorem entry_core {σ₀ : Sig} {msg : Str} (ok : c.Ok prog w K n) (F : Fm prog w c ρ σ s) (fr : FRS c σ₀) {oe : Obj} {vs : Array Value} {e : Addr} {C : Value} {d : Addr} {head : Value} {nx : Bool} {Q : Unit → Shared → Prop} {EE : Value → Shared → Prop}
 (hb : ExcB σ₀ msg d e σ) (he : σ e = some (.raw oe)) (hc : oe.cls = C) (hdi : oe.dict = some d) (hd : oe.data = .fields vs) (hsz : 1 < vs.size)
 (k : ∀ s' σ', Fm prog w c ρ σ' s' → ExcAt σ₀ msg C d e (rawInt c.env.locals) σ' → Q () s') :
 wpAny (model prog w) c.A (do let a ← frameOf c.env; let pl ← entryPlaceOf c.env.locals nx; let b ← EntryCells.newEntry head a .none (rawInt c.env.locals) .none pl; setField (.ref e) 1 b) Q EE s := by
 refine (ex1 fun l => an3 fun f1 f2 f3 => ?_) (fr.mono hb.le)
 obtain ⟨g1, g2⟩ := FRS.fun F ok f2 f3
 refine wpAny_bind (wpAny_frameOf_fun f1 g1 f2 fun h₁ hs₁ => ?_)
 have F₁ := F.slots ok g2 hs₁
 refine wpAny_bind (wpAny_entryPlaceOf fun pl hpl => ?_)
 unfold EntryCells.newEntry newFields
 refine wpAny_bind (wpAny_newObj_type ?_ (hpl.sizeOk5 _ _ _ _ _))
 generalize hoT : ({ cls := .type "traceback", dict := none, data := .fields ([head, .ref c.env.locals, .none, rawInt c.env.locals, .none] ++ (if pl.isEmpty then List.replicate 6 Value.none else pl)).toArray } : Obj) = oT
 have hTd : ∃ ts, oT.data = .fields ts ∧ ts[3]? = some (rawInt c.env.locals) := by
  subst hoT
  exact ⟨_, rfl, by first | (simp; done) | (rcases hpl with rfl | ⟨_, _, _, _, _, _, _, rfl⟩ <;> simp)⟩
 obtain ⟨ts, ht1, ht2⟩ := hTd
 obtain ⟨F₂, hn⟩ := F₁.alloc (o := oT) (o' := .raw oT) (t := s.toks) ok (Obj.isFreed_of_fields ht1) (Heap.get?_push_size _ (Obj.isFreed_of_fields ht1))
 dsimp only at F₂ hn ⊢
 have hTe : h₁.objs.size ≠ e := fun q => by rw [q, he] at hn; cases hn
 have hTd : h₁.objs.size ≠ d := fun q => by rw [q, hb.msg] at hn; cases hn
 have hde : e ≠ d := fun q => by rw [q, hb.msg] at he; cases he
 have he₂ : (σ.set h₁.objs.size (.raw oT)) e = some (.raw oe) := by rw [Yd (Ne.symm hTe)]; exact he
 have hg := F₂.own e _ he₂
 refine wpAny_setField hg hd hsz ?_
 have F₃ := F₂.upd (h' := (h₁.push oT).update e (Obj.mapFields (·.setIfInBounds 1 (.ref h₁.objs.size)))) (t := s.toks) (o' := .raw (oe.mapFields (·.setIfInBounds 1 (.ref h₁.objs.size)))) he₂ (Heap.SameBut.update ..)
  (Heap.get?_update_self _ hg (Obj.isFreed_of_fields (Obj.data_mapFields hd _)))
 exact k _ _ F₃ ⟨(hb.set (hb.le.none hn) hTd).set hb.ne hde, _, _, h₁.objs.size, oT, ts, Ya, (Obj.cls_mapFields _ _).trans hc, (mapFields_dict _ _).trans hdi, Obj.data_mapFields hd _, by simp [hsz], hTe, by rw [Yd hTe]; exact Ya, ht1, ht2, hb.le.none hn⟩
noncomputable def HX (L : Addr) (σ₀ : Sig) (msg : Str) (C : Value) (d e : Addr) (σ : Sig) : Prop :=
 (ExcB σ₀ msg d e σ ∧ ∃ oe vs, σ e = some (.raw oe) ∧ oe.cls = C ∧ oe.dict = some d ∧ oe.data = .fields vs ∧ vs[1]? = some .none) ∨ ExcAt σ₀ msg C d e .none σ ∨ ExcAt σ₀ msg C d e (rawInt L) σ
theorem note_any {σ₀ : Sig} {msg : Str} (ok : c.Ok prog w K n) (F : Fm prog w c ρ σ s) (fr : FRS c σ₀) {e : Addr} {C : Value} {d : Addr} {Q : Unit → Shared → Prop} {EE : Value → Shared → Prop} (h : HX c.env.locals σ₀ msg C d e σ)
 (k : ∀ s' σ', Fm prog w c ρ σ' s' → ExcAt σ₀ msg C d e (rawInt c.env.locals) σ' → Q () s') :
 wpAny (model prog w) c.A (noteFrame (.ref e) c.env) Q EE s := by
 have f2 := fr
 revert f2; refine ex1 fun _ => an3 fun _ f2 _ => ?_
 rcases h with ⟨hb, oe, vs, h1, h2, h3, h4, h5⟩ | he | he
 · unfold noteFrame
   simp only [f2]
   refine wpAny_bind (wpAny_field (F.own e _ h1) h4 h5 ?_)
   rw [if_neg (by decide)]
   exact entry_core ok F fr hb h1 h2 h3 h4 (Array.getElem?_eq_some_iff.mp h5).1 k
 · refine (ex5 fun oe vs T oT ts => an8 fun h1 h2 h3 h4 h5 h6 h7 => an3 fun h8 h9 h10 => ?_) he.ex
   unfold noteFrame
   simp only [f2]
   refine wpAny_bind (wpAny_field (F.own e _ h1) h4 h5 ?_)
   rw [if_pos (show (Value.ref T != Value.none) = true from by simp)]
   refine wpAny_bind (wpAny_field (F.own T _ h7) h8 h9 ?_)
   rw [if_neg (show ¬ ((Value.none == rawInt c.env.locals) = true) from by simp [rawInt])]
   refine wpAny_bind (wpAny_setField (F.own T _ h7) h8 (Array.getElem?_eq_some_iff.mp h9).1 ?_)
   have F₃ := F.upd (h' := s.heap.update T (Obj.mapFields (·.setIfInBounds 3 .none))) (t := s.toks) (o' := .raw (oT.mapFields (·.setIfInBounds 3 .none))) h7 (Heap.SameBut.update ..)
    (Heap.get?_update_self _ (F.own T _ h7) (Obj.isFreed_of_fields (Obj.data_mapFields h8 _)))
   exact entry_core ok F₃ fr (he.toExcB.set h10 fun q => by rw [q, he.msg] at h7; cases h7) (by rw [Yd (Ne.symm h6)]; exact h1) h2 h3 h4 (Array.getElem?_eq_some_iff.mp h5).1 k
 · refine (ex5 fun oe vs T oT ts => an8 fun h1 h2 h3 h4 h5 h6 h7 => an3 fun h8 h9 h10 => ?_) he.ex
   unfold noteFrame
   simp only [f2]
   refine wpAny_bind (wpAny_field (F.own e _ h1) h4 h5 ?_)
   rw [if_pos (show (Value.ref T != Value.none) = true from by simp)]
   refine wpAny_bind (wpAny_field (F.own T _ h7) h8 h9 ?_)
   rw [if_pos (show (rawInt c.env.locals == rawInt c.env.locals) = true from by simp)]
   exact wpAny_pure (k s σ F he)
theorem fly_any {σ₀ : Sig} {msg : Str} (F : Fm prog w c ρ σ s) {e : Addr} {C fl : Value} {d : Addr} {A : Around} {Q : Unit → Shared → Prop} {EE : Value → Shared → Prop} (he : ExcAt σ₀ msg C d e fl σ)
 (k : ∀ s' σ', Fm prog w c ρ σ' s' → ExcAt σ₀ msg C d e .none σ' → Q () s') :
 wpAny (model prog w) A (setFlight (.ref e) none) Q EE s := by
 refine (ex5 fun oe vs T oT ts => an8 fun h1 h2 h3 h4 h5 h6 h7 => an3 fun h8 h9 h10 => ?_) he.ex
 have sz : 3 < ts.size := (Array.getElem?_eq_some_iff.mp h9).1
 unfold setFlight
 refine wpAny_bind (wpAny_field (F.own e _ h1) h4 h5 ?_)
 rw [if_pos (show (Value.ref T != Value.none) = true from by simp)]
 refine wpAny_setField (F.own T _ h7) h8 sz ?_
 have F₃ := F.upd (h' := s.heap.update T (Obj.mapFields (·.setIfInBounds 3 .none))) (t := s.toks) (o' := .raw (oT.mapFields (·.setIfInBounds 3 .none))) h7 (Heap.SameBut.update ..)
  (Heap.get?_update_self _ (F.own T _ h7) (Obj.isFreed_of_fields (Obj.data_mapFields h8 _)))
 exact k _ _ F₃ ⟨he.toExcB.set h10 (fun q => by rw [q, he.msg] at h7; cases h7), oe, vs, T, _, _, by rw [Yd (Ne.symm h6)]; exact h1, h2, h3, h4, h5, h6, Ya, Obj.data_mapFields h8 _, by simp [sz], h10⟩
theorem fly_out {σ₀ : Sig} {msg : Str} (F : Fm prog w c ρ σ s) {e L : Addr} {C fl : Value} {d : Addr} {A : Around} {Q : Unit → Shared → Prop} {EE : Value → Shared → Prop} (he : ExcAt σ₀ msg C d e fl σ)
 (k : ∀ s' σ', Fm prog w c ρ σ' s' → ExcAt σ₀ msg C d e (rawInt L) σ' → Q () s') :
 wpAny (model prog w) A (setFlight (.ref e) (some L)) Q EE s := by
 refine (ex5 fun oe vs T oT ts => an8 fun h1 h2 h3 h4 h5 h6 h7 => an3 fun h8 h9 h10 => ?_) he.ex
 have sz : 3 < ts.size := (Array.getElem?_eq_some_iff.mp h9).1
 unfold setFlight
 refine wpAny_bind (wpAny_field (F.own e _ h1) h4 h5 ?_)
 rw [if_pos (show (Value.ref T != Value.none) = true from by simp)]
 refine wpAny_setField (F.own T _ h7) h8 sz ?_
 have F₃ := F.upd (h' := s.heap.update T (Obj.mapFields (·.setIfInBounds 3 (rawInt L)))) (t := s.toks) (o' := .raw (oT.mapFields (·.setIfInBounds 3 (rawInt L)))) h7 (Heap.SameBut.update ..)
  (Heap.get?_update_self _ (F.own T _ h7) (Obj.isFreed_of_fields (Obj.data_mapFields h8 _)))
 exact k _ _ F₃ ⟨he.toExcB.set h10 (fun q => by rw [q, he.msg] at h7; cases h7), oe, vs, T, _, _, by rw [Yd (Ne.symm h6)]; exact h1, h2, h3, h4, h5, h6, Ya, Obj.data_mapFields h8 _, by simp [sz], h10⟩
theorem came_back {σ₀ : Sig} {msg : Str} (F : Fm prog w c ρ σ s) (hf : c.env.frame = some c.env.locals) {e : Addr} {C fl : Value} {d : Addr} {A : Around} {EE : Value → Shared → Prop} (he : ExcAt σ₀ msg C d e fl σ)
 (k : ∀ s' σ', Fm prog w c ρ σ' s' → ExcAt σ₀ msg C d e (rawInt c.env.locals) σ' → EE (.ref e) s') : cameBackBy (model prog w) A c.env EE (.ref e) s := by
 refine (ex5 fun oe vs T oT ts => an8 fun h1 h2 h3 h4 h5 h6 h7 => an3 fun h8 h9 h10 => ?_) he.ex
 unfold cameBackBy
 refine wpAny_bind (wpAny_field (F.own e _ h1) h4 h5 ?_)
 rw [if_neg (show ¬ ((Value.ref T == Value.none) = true) from by simp)]
 rw [hf]
 first
  | exact fly_out F he k
  | exact wpAny_bind (wpAny_pure (fly_out F he k))
theorem leave_any {σ₀ : Sig} {msg : Str} (ok : c.Ok prog w K n) (F : Fm prog w c ρ σ s) (fr : FRS c σ₀) {e : Addr} {C : Value} {d : Addr} {Q : Unit → Shared → Prop} {EE : Value → Shared → Prop} (h : HX c.env.locals σ₀ msg C d e σ)
 (k : ∀ s' σ', Fm prog w c ρ σ' s' → ExcAt σ₀ msg C d e .none σ' → Q () s') : wpAny (model prog w) c.A (leaving c.env (.ref e)) Q EE s := by
 unfold leaving
 exact wpAny_bind (note_any ok F fr h fun s₁ σ₁ F₁ x₁ => fly_any F₁ x₁ k)
end
section
variable {n : Nat} {c c' : Cx} {ρ ρ' : Loc} {σ σ' τ : Sig} {s s' : Shared}
theorem ENTER {A : Around} {name qual : Str} {params : Arguments} {body : List PySem.Stmt} {scope : Scope} {dV kV doc pm cdv ct oc : Value} {an od : Option Addr} {osl : Array (Option Value)} {f : Addr} {vs : List Value} {kv : List (Str × Value)}
 {binds : List (Str × Value)} {bs : List (Str × V)} {rest : List Str} {gl : List (Str × V)} {R : Result → Shared → Prop} (hB : Base prog w K (hideP (fun a => (σ a).isSome) s.heap)) (hown : ∀ a o, σ a = some o → Rep prog w o a s.heap) (hg : s.gens = #[])
 (hh : A.handled = none) (hd : A.depth + 1 + n < 900) (hu : A.units + 3 + 8 * n < 8000)
 (ho : K.lookup f = some ⟨oc, od, .func (fnOf name qual params body scope dV kV doc pm an cdv ct), osl⟩) (hcd : codeIn K cdv qual = true)
 (hbt : BindsTo s (fnOf name qual params body scope dV kV doc pm an cdv ct) ⟨vs, kv⟩ binds) (hbm : binds.map (fun p => (p.1, E p.2)) = bs)
 (hsc : scopeOk scope (bs.map (·.1) ++ rest) (gl.map (·.1)) = true) (hgl : ∀ p ∈ gl, GV K p.1 p.2)
 (h : ∀ (c' : Cx) (s₁ : Shared), c'.Ok prog w K n → c'.env.scope = scope → c'.gl = gl → c'.A = A.deeper c'.env → c'.env.frame = some c'.env.locals → c'.h₀ = hideP (fun a => (σ a).isSome) s.heap → c'.os = s.os → Fm prog w c' (bindsRho bs rest) σ s₁ →
  wpAny (model prog w) c'.A (execs body c'.env) (fun f s' => R (.ok (.ret (match f with | .ret v => v | _ => .none))) s')
   (fun e s' => wpAny (model prog w) c'.A (leaving c'.env e) (fun _ s'' => R (.error e) s'') (fun e' s'' => R (.error e') s'') s') s₁) :
 codeAny (model prog w) A (.call (.ref f) ⟨vs, kv⟩) R s := by
 simp only [scopeOk, Bool.and_eq_true, Bool.not_eq_true', beq_iff_eq, decide_eq_true_eq, List.all_eq_true, Bool.or_eq_true, bne_iff_ne, ne_eq] at hsc
 obtain ⟨⟨⟨⟨⟨⟨sk, sg⟩, sco⟩, snd⟩, sl⟩, sce⟩, sgl⟩ := hsc
 have X : K.In s.heap := fun a o e => (hidden (hB.inK a o e)).2
 have hnames : binds.map (·.1) = bs.map (·.1) := by rw [← hbm, List.map_map]; rfl
 have ndb : (binds.map (·.1)).Nodup := by rw [hnames]; exact (List.nodup_append.mp snd).1
 refine codeAny_call_function (fd := fnOf name qual params body scope dV kV doc pm an cdv ct) (body := body) (by show A.depth < 1000; omega) (X _ _ ho) rfl sco sg rfl (codeRec_of X hcd) (hbt _ _ _ _ ?_)
 have kinds : ∀ x ∈ binds, scope.names.lookup x.1 = some .local ∨ (scope.names.lookup x.1 = some .cell ∧ ((cellsFrom (s.heap.objs.size + 1) scope.names []).lookup x.1).isSome = true) := by
  intro x hx
  have hm : x.1 ∈ bs.map (·.1) ++ rest := List.mem_append_left _ (hnames ▸ List.mem_map_of_mem hx)
  rcases (sl _ hm).1 with q | q
  · exact .inl q
  · exact .inr ⟨q, cellsFrom_some _ _ _ (.inl q)⟩
 refine wpAny_newFunctionEnv_cells sk kinds fun env he s' x => ?_
 subst he
 have up : ∀ b o, (hideP (fun a => (σ a).isSome) s.heap).get? b = some o → s'.heap.get? b = some o := fun b o e => x.toInCall.keep b o (hidden e).2
 refine ⟨hB.nolimit.keeps up, codeAny_func ?_⟩
 refine (ex2 fun h₁ tk => ?_) x.toInCall.same; rintro rfl
 let c' : Cx := { A := A.deeper (newEnv scope s.heap.objs.size mainGlobals (cellsFrom (s.heap.objs.size + 1) scope.names []) (qual ++ ".<locals>.") (some f) cdv none builtinsNs), env := newEnv scope s.heap.objs.size mainGlobals (cellsFrom (s.heap.objs.size + 1) scope.names []) (qual ++ ".<locals>.") (some f) cdv none builtinsNs, h₀ := hideP (fun a => (σ a).isSome) s.heap, os := s.os, lns := bs.map (·.1) ++ rest, gl := gl }
 have hL : c'.env.locals = s.heap.objs.size := rfl
 have hcs : ∀ y a, c'.env.cells.lookup y = some a → s.heap.objs.size < a := fun y a hy => x.above y a (PySem.mem_of_lookup hy)
 have hns : ∀ a, s.heap.objs.size ≤ a → c'.h₀.get? a = none := by
  intro a ha
  cases q : c'.h₀.get? a with
  | none => rfl
  | some o =>
   have e : c'.h₀.objs.size = s.heap.objs.size := hideP_size _ _
   exact absurd (Nat.lt_of_lt_of_le (e ▸ Heap.lt_size q) ha) (Nat.lt_irrefl _)
 have ok' : c'.Ok prog w K n := by
  refine ⟨hB, sk, ⟨rfl, rfl⟩, snd, ?_, fun y hy => ?_, fun p hp => ⟨?_, ?_, hgl p hp⟩, ⟨hns _ (Nat.le_of_eq hL.symm), fun y a hy => ⟨hns a (Nat.le_of_lt (hcs y a hy)), by rw [hL]; exact Nat.ne_of_gt (hcs y a hy)⟩⟩, ?_, ?_, hh, ?_, ?_⟩
  · intro y hy
    rcases (sl y hy).1 with q | q
    · exact .inl q
    · obtain ⟨a, ha⟩ := Option.isSome_iff_exists.mp (cellsFrom_some scope.names (s.heap.objs.size + 1) [] (.inl q))
      exact .inr ⟨q, a, ha⟩
  · exact beq_eq_false_iff_ne.mpr (sl y hy).2
  · exact (sgl _ (List.mem_map_of_mem hp)).1
  · exact beq_eq_false_iff_ne.mpr (sgl _ (List.mem_map_of_mem hp)).2
  · intro y a hy
    rcases cellsFrom_of scope.names _ _ _ _ (PySem.mem_of_lookup hy) with q | q
    · rcases sce _ q with z | z
      · exact absurd rfl z
      · exact ⟨List.contains_iff_mem.mp z.1, z.2⟩
    · cases q
  · intro y z a hy hz
    exact name_of_addr x.apart (PySem.mem_of_lookup hy) (PySem.mem_of_lookup hz)
  · show A.depth + 1 + n < 900; omega
  · show A.units + 3 + 8 * n < 8000; omega
 have F' : Fm prog w c' (bindsRho bs rest) σ { s with heap := h₁, toks := tk } := by
  refine ⟨by simp [bindsRho, List.map_map, Function.comp_def]; rfl, ⟨_, x.toInCall.ns, fun p hp hk => ?_⟩, fun p hp hk => ?_, fun b o e => x.toInCall.keep b o (hidden e).2, fun a o e => (hown a o e).keeps x.toInCall.keep, fun a o e => ?_, hg, rfl⟩
  · rcases List.mem_append.mp hp with hp | hp
    · obtain ⟨q, hq, rfl⟩ := List.mem_map.mp hp
      rw [← hbm] at hq
      obtain ⟨b, hb', rfl⟩ := List.mem_map.mp hq
      exact congrArg (Option.map E) (bindL_get hk binds _ ndb hb')
    · obtain ⟨y, hy, rfl⟩ := List.mem_map.mp hp
      exact congrArg (Option.map E) (bindL_not binds _ (by rw [hnames]; exact fun q => (List.nodup_append.mp snd).2.2 y q y hy rfl))
  · have kc : ∃ a, c'.env.cells.lookup p.1 = some a := Option.isSome_iff_exists.mp (cellsFrom_some scope.names (s.heap.objs.size + 1) [] (.inl hk))
    obtain ⟨a, ha⟩ := kc
    refine ⟨a, _, ha, x.cell _ _ ha, ?_⟩
    rcases List.mem_append.mp hp with hp | hp
    · obtain ⟨q, hq, rfl⟩ := List.mem_map.mp hp
      rw [← hbm] at hq
      obtain ⟨b, hb', rfl⟩ := List.mem_map.mp hq
      exact congrArg (Option.map E) (bindC_get hk binds _ ndb hb')
    · obtain ⟨y, hy, rfl⟩ := List.mem_map.mp hp
      exact congrArg (Option.map E) (bindC_not binds _ (by rw [hnames]; exact fun q => (List.nodup_append.mp snd).2.2 y q y hy rfl))
  · have hl : a < s.heap.objs.size := by obtain ⟨ob, e'⟩ := (hown a o e).get; exact Heap.lt_size e'
    refine ⟨?_, by rw [hL]; exact Nat.ne_of_lt hl, fun y hy => absurd (hcs y a hy) (Nat.not_lt.mpr (Nat.le_of_lt hl))⟩
    show (hideP _ _).get? a = none
    rw [hideP_get, e]; rfl
 exact h c' _ ok' rfl rfl rfl rfl rfl rfl F'
theorem lay_names (F : Fm prog w c ρ σ s) (ok : c.Ok prog w K n) : ∃ m, (s.heap.Ns c.env.locals m ∧ ∀ p ∈ ρ, c.env.kindOf p.1 = some .local → (m p.1).map E = p.2) ∧ σ c.env.locals = none ∧
 (∀ a o, (σ.set c.env.locals (.ns m)) a = some o → Rep prog w o a s.heap) ∧ Base prog w K (hideP (fun a => ((σ.set c.env.locals (.ns m)) a).isSome) s.heap) := by
 obtain ⟨m, h1, h2⟩ := F.ns
 have no : σ c.env.locals = none := by
  cases q : σ c.env.locals with
  | none => rfl
  | some x => exact absurd rfl (F.free _ x q).2.1
 refine ⟨m, ⟨h1, h2⟩, no, fun a o e => ?_, ok.base.keeps fun b o e => ?_⟩
 · by_cases q : a = c.env.locals
   · subst q; rw [Ya] at e; cases e; exact h1
   · rw [Yd q] at e; exact F.own a o e
 · rw [hideP_get]
   have hb : b ≠ c.env.locals := fun q => by rw [q, ok.fresh.1] at e; cases e
   rw [Yd hb]
   cases q : σ b with
   | none => exact F.keep b o e
   | some x => rw [(F.free b x q).1] at e; cases e
theorem Fm.back2 (F : Fm prog w c ρ σ s) (ok : c.Ok prog w K n) {m : Str → Option Value} (hm : ∀ p ∈ ρ, c.env.kindOf p.1 = some .local → (m p.1).map E = p.2) (F' : Fm prog w c' ρ' σ' s') (h0 : c'.h₀ = hideP (fun a => ((σ.set c.env.locals (.ns m)) a).isSome) s.heap)
 (hL : σ' c.env.locals = some (.ns m)) (hos : c'.os = c.os) : Fm prog w c ρ (σ'.del c.env.locals) s' := by
 have show_ : ∀ b o, σ b = none → b ≠ c.env.locals → s.heap.get? b = some o → c'.h₀.get? b = some o := fun b o h1 h2 h3 => by rw [h0, hideP_get, Yd h2, h1]; exact h3
 have cell : ∀ x a v, c.env.cells.lookup x = some a → s.heap.IsCell a v → c'.h₀.IsCell a v := by
  rintro x a v hx ⟨o, e, d⟩
  refine ⟨o, show_ a o ?_ (ok.fresh.2 x a hx).2 e, d⟩
  cases q : σ a with
  | none => rfl
  | some y => exact absurd hx ((F.free a y q).2.2 x)
 have old : ∀ b o, c.h₀.get? b = some o → c'.h₀.get? b = some o := by
  intro b o e
  refine show_ b o ?_ (fun q => by rw [q, ok.fresh.1] at e; cases e) (F.keep b o e)
  cases q : σ b with
  | none => rfl
  | some x => rw [(F.free b x q).1] at e; cases e
 refine ⟨F.names, ⟨m, F'.own _ _ hL, hm⟩, fun p hp hk => ?_, fun b o e => F'.keep b o (old b o e), fun a o e => ?_, fun a o e => ?_, F'.gens, F'.os.trans hos⟩
 · refine (ex2 fun a v => an3 fun x y z => ?_) (F.cl p hp hk)
   exact ⟨a, v, x, (cell _ _ _ x y).keeps F'.keep, z⟩
 · by_cases q : a = c.env.locals
   · subst q; rw [Yq] at e; cases e
   · rw [Ye q] at e; exact F'.own a o e
 · by_cases q : a = c.env.locals
   · subst q; rw [Yq] at e; cases e
   · rw [Ye q] at e
     have hn := (F'.free a o e).1
     refine ⟨?_, q, ?_⟩
     · cases r : c.h₀.get? a with
       | none => rfl
       | some ob => rw [old a ob r] at hn; cases hn
     · intro x hx
       obtain ⟨hl, hk⟩ := ok.cin x a hx
       rw [← F.names] at hl
       obtain ⟨p, hp, rfl⟩ := List.mem_map.mp hl
       refine (ex2 fun b v => an3 fun h1 h2 _ => ?_) (F.cl p hp hk)
       rw [hx] at h1; cases h1
       obtain ⟨ob, e', _⟩ := cell _ _ _ hx h2
       rw [e'] at hn; cases hn
end
section
variable {n : Nat} {c c' : Cx} {ρ ρ' : Loc} {σ σ' τ : Sig} {s s' : Shared}
structure Called (prog : Program) (w : World) (c c' : Cx) (ρ : Loc) (σ σp : Sig) (L : Addr) (m : Str → Option Value) : Prop where
 frs : FRS c' σp
 le : Le σ σp
 at_ : σp L = some (.ns m)
 no : σ L = none
 back : ∀ ρ' σ' s', Fm prog w c' ρ' σ' s' → σ' L = some (.ns m) → Fm prog w c ρ (σ'.del L) s'
theorem Called.leD {L : Addr} {m : Str → Option Value} {σp : Sig} (h : Called prog w c c' ρ σ σp L m) (k : Le σp σ') : Le σ (σ'.del L) := fun a x e => by
 rw [Ye (fun q => by rw [q, h.no] at e; cases e)]; exact k _ _ (h.le _ _ e)
theorem FENTER {name qual : Str} {params : Arguments} {body : List PySem.Stmt} {scope : Scope} {dfs : List V} {f : Addr} {xs : List V} (names : List Str) (k : Nat) (rest : List Str) (gl : List (Str × V)) {R : Result → Shared → Prop} (ok : c.Ok prog w K n) (hn : 1 ≤ n) (fr : FRS c σ)
 (ho : FnOk K f name qual params body scope dfs) (hp : plainParams params names = true) (hl : names.length = xs.length + k) (hk : k ≤ dfs.length) (hdl : dfs.length ≤ names.length)
 (hsc : scopeOk scope (names ++ rest) (gl.map (·.1)) = true) (hgl : ∀ p ∈ gl, GV K p.1 p.2) (F : Fm prog w c ρ σ s) {g : Value} {vs : List Value} (hg : E g = .ref f) (hvs : vs.map E = xs)
 (h : ∀ (c' : Cx) (σp : Sig) (L : Addr) (m : Str → Option Value) (s₁ : Shared), c'.Ok prog w K (n - 1) → c'.env.scope = scope → c'.gl = gl → Called prog w c c' ρ σ σp L m → Fm prog w c' (bindsRho (names.zip (xs ++ dfs.drop (dfs.length - k))) rest) σp s₁ →
  wpAny (model prog w) c'.A (execs body c'.env) (fun f s' => R (.ok (.ret (match f with | .ret v => v | _ => .none))) s')
   (fun e s' => wpAny (model prog w) c'.A (leaving c'.env e) (fun _ s'' => R (.error e) s'') (fun e' s'' => R (.error e') s'') s') s₁) :
 codeAny (model prog w) c.A (.call g ⟨vs, []⟩) R s := by
 obtain ⟨n, rfl⟩ : ∃ m, n = m + 1 := ⟨n - 1, by omega⟩
 rw [Nat.add_sub_cancel] at h
 obtain rfl := E_ref hg
 refine (ex9 fun oc od osl dV kV doc pm an cdv => ex1 fun ct => an3 fun e1 e2 e3 => ?_) ho.ex
 simp only [plainParams, Bool.and_eq_true, List.isEmpty_iff, Option.isNone_iff_eq_none, beq_iff_eq, decide_eq_true_eq] at hp
 obtain ⟨⟨⟨⟨⟨p1, p2⟩, p3⟩, p4⟩, p5⟩, p6⟩ := hp
 have zl : (names.zip (xs ++ dfs.drop (dfs.length - k))).map (·.1) = names := by
  rw [List.map_fst_zip]; rw [List.length_append, List.length_drop]; omega
 have X : K.In s.heap := ok.base.inK.keeps F.keep
 have hlen : vs.length = xs.length := by rw [← hvs]; simp
 have hb : ∃ binds, BindsTo s (fnOf name qual params body scope dV kV doc pm an cdv ct) ⟨vs, []⟩ binds ∧ binds.map (fun p => (p.1, E p.2)) = names.zip (xs ++ dfs.drop (dfs.length - k)) := by
  rcases e3 with ⟨rfl, rfl⟩ | ⟨T, o, ds, m, rfl, e4, e5, e6⟩
  · refine ⟨names.zip (vs ++ ([] : List Value).drop (([] : List Value).length - k)), bind_gen p1 p5 p2 p3 p4 p6 (by omega) (by simpa using hk) (by simp) fun M A EE Q hq => wpAny_pure (hq none rfl), ?_⟩
    rw [zip_E, List.map_append, hvs]; simp
  · have hdl' : ds.toList.length = dfs.length := by rw [← e6]; simp
    refine ⟨names.zip (vs ++ ds.toList.drop (ds.toList.length - k)), bind_gen p1 p5 p2 p3 p4 p6 (by omega) (by omega) (by omega) fun M A EE Q hq => wpAny_seqItems (X _ _ e4) e5 (hq _ rfl), ?_⟩
    rw [zip_E, List.map_append, hvs, List.map_drop, e6, hdl']
 obtain ⟨binds, hbt, hbm⟩ := hb
 refine (ex1 fun m => an4 ?_) (lay_names F ok); rintro ⟨_, hm⟩; intro hno hown hB
 refine ENTER (σ := σ.set c.env.locals (.ns m)) (bs := names.zip (xs ++ dfs.drop (dfs.length - k))) (rest := rest) (gl := gl) hB hown F.gens ok.hd (by have := ok.dep; omega) (by have := ok.uni; omega) e1 e2 hbt hbm (by rw [zl]; exact hsc) hgl
  fun c' s₁ ok' h1 h2 h3 h4 h5 h6 F' => h c' (σ.set c.env.locals (.ns m)) c.env.locals m s₁ ok' h1 h2 ⟨?_, fun a x e => ?_, Ya, hno, fun ρ' σ' s' F'' hL => F.back2 ok hm F'' h5 hL (h6.trans F.os)⟩ F'
 · revert fr; refine ex1 fun l => an3 fun f1 f2 f3 => ?_
   refine ⟨c.env :: l, by rw [h3]; exact Around.frames_deeper f1, h4, fun v hv => ?_⟩
   rcases List.mem_cons.mp hv with rfl | hv
   · exact ⟨by rw [ok.kind]; decide, _, m, f2, Ya⟩
   · refine (an2 fun a => ex2 fun L m' => ?_) (f3 v hv); rintro ⟨b, d⟩
     by_cases q : L = c.env.locals
     · exact ⟨a, L, m, b, by rw [q]; exact Ya⟩
     · exact ⟨a, L, m', b, by rw [Yd q]; exact d⟩
 · rw [Yd (fun q => by rw [q, hno] at e; cases e)]; exact e
noncomputable def XR (prog : Program) (w : World) (C : Addr) (msg : Str) (c : Cx) (σ₀ : Sig) (x : Value) (s : Shared) : Prop :=
 ∃ e d ρ σ, x = .ref e ∧ Fm prog w c ρ σ s ∧ HX c.env.locals σ₀ msg (.ref C) d e σ
theorem HX.b {L : Addr} {σ₀ : Sig} {msg : Str} {C : Value} {d e : Addr} (h : HX L σ₀ msg C d e σ) : ExcB σ₀ msg d e σ := h.elim (·.1) fun h => h.elim (·.toExcB) (·.toExcB)
noncomputable def XCODE (prog : Program) (w : World) (C : Addr) (msg : Str) (c : Cx) (ρ : Loc) (σ : Sig) (f : V) (xs : List V) : Prop :=
 ∀ g vs, E g = f → vs.map E = xs → ∀ s, Fm prog w c ρ σ s → codeAny (model prog w) c.A (.call g ⟨vs, []⟩)
  (fun r s' => match r with | .ok _ => False | .error x => ∃ e d σ', x = .ref e ∧ Fm prog w c ρ σ' s' ∧ ExcAt σ msg (.ref C) d e .none σ') s
noncomputable def BS (prog : Program) (w : World) (c : Cx) (ρ : Loc) (σ : Sig) (body : List PySem.Stmt) (Q : Out → Loc → Sig → Prop) (P : Value → Shared → Prop) : Prop :=
 ∀ s, Fm prog w c ρ σ s → wpAny (model prog w) c.A (execs body c.env) (fun f s' => ∃ ρ' σ', Fm prog w c ρ' σ' s' ∧ Q (Out.of f) ρ' σ') P s
noncomputable def BX (prog : Program) (w : World) (c : Cx) (ρ : Loc) (σ : Sig) (st : PySem.Stmt) (P : Value → Shared → Prop) : Prop :=
 ∀ s, Fm prog w c ρ σ s → wpAny (model prog w) c.A (exec st c.env) (fun _ _ => False) P s
theorem ExcAt.del {σ₀ σp : Sig} {msg : Str} {C fl : Value} {d e L : Addr} {m : Str → Option Value} (h : ExcAt σp msg C d e fl σ') (le : Le σ σp) (no : σ L = none) (hL : σp L = some (.ns m)) : ExcAt σ msg C d e fl (σ'.del L) := by
 obtain ⟨⟨a1, a2, a3⟩, oe, vs, T, oT, ts, h1, h2, h3, h4, h5, h6, h7, h8, h9, h10⟩ := h
 have hL' := a1 _ _ hL
 have none : ∀ a, σp a = none → σ a = none := fun a q => le.none q
 refine ⟨⟨fun a x e => ?_, none _ a2, ?_⟩, oe, vs, T, oT, ts, ?_, h2, h3, h4, h5, h6, ?_, h8, h9, none _ h10⟩
 · rw [Ye (fun q => by rw [q, no] at e; cases e)]; exact a1 _ _ (le _ _ e)
 · rw [Ye (fun q => by rw [q, hL'] at a3; cases a3)]; exact a3
 · rw [Ye (fun q => by rw [q, hL'] at h1; cases h1)]; exact h1
 · rw [Ye (fun q => by rw [q, hL'] at h7; cases h7)]; exact h7
theorem XFN {C : Addr} {msg : Str} {name qual : Str} {params : Arguments} {body : List PySem.Stmt} {scope : Scope} {dfs : List V} {f : Addr} {xs : List V} (names : List Str) (k : Nat) (rest : List Str) (gl : List (Str × V)) (ok : c.Ok prog w K n) (hn : 1 ≤ n) (fr : FRS c σ)
 (ho : FnOk K f name qual params body scope dfs) (hp : plainParams params names = true) (hl : names.length = xs.length + k) (hk : k ≤ dfs.length) (hdl : dfs.length ≤ names.length)
 (hsc : scopeOk scope (names ++ rest) (gl.map (·.1)) = true) (hgl : ∀ p ∈ gl, GV K p.1 p.2)
 (h : ∀ (c' : Cx) (σp : Sig), c'.Ok prog w K (n - 1) → c'.env.scope = scope → c'.gl = gl → FRS c' σp → Le σ σp →
  BS prog w c' (bindsRho (names.zip (xs ++ dfs.drop (dfs.length - k))) rest) σp body (fun _ _ _ => False) (XR prog w C msg c' σp)) : XCODE prog w C msg c ρ σ (.ref f) xs := by
 intro g vs hg hvs s F
 refine FENTER names k rest gl ok hn fr ho hp hl hk hdl hsc hgl F hg hvs fun c' σp L m s₁ ok' h1 h2 cl F₁ => ?_
 refine wpAny_mono (h c' σp ok' h1 h2 cl.frs cl.le s₁ F₁) (fun _ _ => ex2 fun _ _ => an2 fun _ z => z.elim) fun x s₂ hx => ?_
 revert hx; refine ex4 fun e d ρ₂ σ₂ => an3 ?_; rintro rfl; intro F₂ hx
 refine leave_any ok' F₂ cl.frs hx fun s₃ σ₃ F₃ x₃ => ?_
 exact ⟨e, d, _, rfl, cl.back _ _ _ F₃ (x₃.le _ _ cl.at_), x₃.del (σ₀ := σ) cl.le cl.no cl.at_⟩
theorem YFN {name qual : Str} {params : Arguments} {body : List PySem.Stmt} {scope : Scope} {dfs : List V} {f : Addr} {xs : List V} (names : List Str) (k : Nat) (rest : List Str) (gl : List (Str × V)) {Q : V → Sig → Prop} (ok : c.Ok prog w K n) (hn : 1 ≤ n) (fr : FRS c σ)
 (ho : FnOk K f name qual params body scope dfs) (hp : plainParams params names = true) (hl : names.length = xs.length + k) (hk : k ≤ dfs.length) (hdl : dfs.length ≤ names.length)
 (hsc : scopeOk scope (names ++ rest) (gl.map (·.1)) = true) (hgl : ∀ p ∈ gl, GV K p.1 p.2)
 (h : ∀ (c' : Cx) (σp : Sig), c'.Ok prog w K (n - 1) → c'.env.scope = scope → c'.gl = gl → FRS c' σp → Le σ σp →
  STS prog w c' (bindsRho (names.zip (xs ++ dfs.drop (dfs.length - k))) rest) σp body (QE fun v σ' => Le σp σ' ∧ Q v σ)) : CODE prog w c ρ σ (.ref f) xs [] Q := by
 intro g vs kv hg hvs hkv s F
 obtain rfl : kv = [] := by cases kv with | nil => rfl | cons => cases hkv
 refine FENTER names k rest gl ok hn fr ho hp hl hk hdl hsc hgl F hg hvs fun c' σp L m s₁ ok' h1 h2 cl F₁ => ?_
 refine wpAny_mono (h c' σp ok' h1 h2 cl.frs cl.le s₁ F₁) (fun fl s₂ => ex2 fun ρ₂ σ₂ => an3 fun F₂ le hq => ?_) fun _ _ z => z.elim
 have F₃ := (cl.back _ _ _ F₂ (le _ _ cl.at_)).drop (τ := σ) (cl.leD le)
 refine ⟨σ, F₃, ?_⟩
 cases fl <;> exact hq
end
section
variable {n : Nat} {c c' : Cx} {ρ ρ' : Loc} {σ σ' τ : Sig} {s s' : Shared}
theorem refuse_tail (self : Value) : ∀ {h : Heap} {l : List Value}, OwnTail h excB l → refuseLoop self "__setattr__" l = pure () := by
 intro h l T
 induction T with
 | base => kernel_rfl
 | own _ _ _ _ ih => rw [refuseLoop_ref]; exact ih
theorem ExcIn.cls {C fI : Addr} (x : ExcIn K C fI) : ∃ cd bm, clsIn K C = some cd ∧ cd.mro = .ref C :: bm ∧ tailIn K excB bm = true ∧ cd.hasDict = true := by
 refine (ex9 fun nm q N bs bm sn sub ab col => ex6 fun dd k0 k1 k2 k3 k5 => ?_) x.obj; rintro ⟨h, t⟩
 exact ⟨_, bm, by unfold clsIn; rw [h], rfl, t, rfl⟩
theorem E_set (X : K.In s.heap) {C fI : Addr} (x : ExcIn K C fI) (F : Fm prog w c ρ σ s) (ok : c.Ok prog w K n) {e : Addr} {oe : Obj} {vs : Array Value} {u : Value} {v : V} {Q : Unit → Shared → Prop} {EE : Value → Shared → Prop}
 (he : σ e = some (.raw oe)) (hc : oe.cls = .ref C) (hd : oe.data = .fields vs) (hn : oe.dict = none) (hu : E u = v)
 (k : ∀ s' d, Fm prog w c ρ ((σ.set d (.flds [("message", v)])).set e (.raw { oe with dict := some d })) s' → σ d = none → Q () s') : wpAny (model prog w) c.A (setAttr (.ref e) "message" u) Q EE s := by
 refine (ex2 fun cd bm => an4 fun hcl hm ht hh => ?_) x.cls
 have I : PySem.W.InstAt s.heap e oe C none := ⟨F.own e _ he, hc, by unfold notCls; rw [hd], by rw [hn]; trivial⟩
 have T := tail_of_in X ht
 refine set_plain X I x.sa ?_
 have SF := PySem.F.store_object
 have sub : Looks (model prog w) s.heap (isInstance (.ref e) (.type "object")) true := I.type.andThen (looks_mroIn X (by unfold mroIn; rw [hcl, Option.bind_some, hm, if_neg (by simp), List.contains_cons, T.hasType (X := "object") (b := true) (by decide +kernel), Bool.or_true]))
 refine codeAny_call_builtin SF.slot.plain SF.entry (@check_slot (model prog w) _ _ { s with toks := s.toks + 1 } "object.__setattr__" "object" "__setattr__" (.ref e) [.str "message" s.toks, u] [] _ SF.kind SF.split sub (SF.args (.ref e) (.str "message" s.toks) u) ?_)
 have hmro : Looks (model prog w) s.heap (mroOf (.ref C)) cd.mro := (looks_clsIn X hcl).andThen .now
 rw [osa_eq, refuse_eq]
 refine wpAny_bind (wpAny_bind (I.type _ _ _ _ (fun _ _ e => e) (wpAny_bind (hmro _ _ _ _ (fun _ _ e => e) ?_))))
 rw [hm, refuseLoop_ref, refuse_tail _ T]
 refine wpAny_pure (wpAny_bind (I.type _ _ _ _ (fun _ _ e => e) (wpAny_bind (looks_findIn X x.attr _ _ _ _ (fun _ _ e => e) (wpAny_bind (wpAny_pure ?_))))))
 dsimp only
 refine wpAny_bind (wpAny_pure (wpAny_bind (wpAny_bind (wpAny_loadPart I.at_ ?_))))
 obtain ⟨oc, odi, oda, osl⟩ := oe
 dsimp only at hc hd hn k he ⊢
 subst hc hd hn
 dsimp only
 refine wpAny_bind (looks_clsIn X hcl _ _ _ _ (fun _ _ e => e) ?_)
 rw [hh]
 show wpAny _ _ (do
  let d ← alloc emptyDict
  update e fun o => { cls := o.cls, dict := some d, data := o.data, slots := o.slots }
  dictMade (.ref C) e d) _ _ _
 refine wpAny_bind (wpAny_alloc (wpAny_bind ?_))
 obtain ⟨F1, n1⟩ := F.alloc (o := emptyDict) (o' := .flds []) (t := s.toks + 1) ok rfl ⟨[], 0, Heap.get?_push_size _ rfl, .nil⟩
 dsimp only at F1 n1 ⊢
 generalize hdd : s.heap.objs.size = d at F1 n1 ⊢
 have hne : d ≠ e := fun q => by rw [q, he] at n1; cases n1
 have he1 : (σ.set d (.flds [])) e = some (.raw ⟨.ref C, none, .fields vs, osl⟩) := by rw [Yd (Ne.symm hne)]; exact he
 have g1 := F1.own e _ he1
 refine wpAny_update g1 (wpAny_pure ?_)
 have F2 := F1.upd (t := s.toks + 1) (h' := (s.heap.push emptyDict).update e fun o => { cls := o.cls, dict := some d, data := o.data, slots := o.slots }) (o' := .raw ⟨.ref C, some d, .fields vs, osl⟩) he1 (Heap.SameBut.update ..) (Heap.get?_update_self _ g1 rfl)
 dsimp only at F2
 have hd2 : ((σ.set d (.flds [])).set e (.raw ⟨.ref C, some d, .fields vs, osl⟩)) d = some (.flds []) := by rw [Yd hne, Ya]
 refine (ex2 fun es kk => ?_) (F2.own d _ hd2); rintro ⟨D, fe⟩
 dsimp only at D
 refine wpAny_bind (wpAny_pure (wpAny_bind ?_))
 unfold nsSet
 refine wpAny_bind (wpAny_bind (wpAny_askSetting (wpAny_pure (wpAny_bind (wpAny_mkText (wpAny_bind (wpAny_loadPart D ?_)))))))
 show wpAny _ _ (if aRefKeyMayBeTheName ("message" : Str) es.toArray then _ else _) _ _ _
 have c0 : aRefKeyMayBeTheName ("message" : Str) es.toArray = false := by
  rw [aRefKeyMayBeTheName_at, List.any_toArray, List.any_toArray, fe.noRef, Bool.and_false]
 rw [c0, if_neg Bool.false_ne_true]
 have hput := putName_dict ("message" : Str) (PyData.keyHash w.params ("message" : Str)) (.str "message" (s.toks + 1)) u es kk
 have U := Heap.get?_update_self (Obj.putName ("message" : Str) (PyData.keyHash w.params ("message" : Str)) (.str "message" (s.toks + 1)) u) D (by rw [hput]; rfl)
 rw [hput] at U
 refine wpAny_updatePart D ?_
 refine wpAny_bind (wpAny_lookBehind U (by
  show Data.pastItsLine (.dict _ _) = none
  exact pastItsLine_dict (by rw [List.size_toArray, sizeLine_eq]; have := putL_len (x := ("message" : Str)) (hsh := PyData.keyHash w.params ("message" : Str)) (k := .str "message" (s.toks + 1)) (u := u) es; have := fe.len; simp only [List.length_nil] at this; omega)) ?_)
 have F3 := F2.upd (t := s.toks + 1 + 1) (o' := .flds [("message", v)]) hd2 (Heap.SameBut.update ..) ⟨_, _, U, fe.put hu .nil⟩
 have e3 : ((σ.set d (.flds [])).set e (.raw ⟨.ref C, some d, .fields vs, osl⟩)).set d (.flds [("message", v)]) = (σ.set d (.flds [("message", v)])).set e (.raw ⟨.ref C, some d, .fields vs, osl⟩) := by
  rw [Sig.set_comm (Ne.symm hne), Sig.set_set]
 rw [e3] at F3
 exact wpAny_pure (k _ d F3 n1)
theorem E_get (X : K.In s.heap) {C fI : Addr} (x : ExcIn K C fI) (F : Fm prog w c ρ σ s) {A : Around} {e d : Addr} {oe : Obj} {vs : Array Value} {v : V} {expr : Bool} {Q : Value → Shared → Prop} {EE : Value → Shared → Prop}
 (he : σ e = some (.raw oe)) (hc : oe.cls = .ref C) (hd : oe.data = .fields vs) (hdi : oe.dict = some d) (hm : σ d = some (.flds [("message", v)])) (hv : notBi v = true)
 (k : ∀ u t, E u = v → Q u { s with toks := t }) : wpAny (model prog w) A (getAttr (.ref e) "message" expr) Q EE s := by
 refine (ex2 fun es kk => ?_) (F.own d _ hm); rintro ⟨D, fe⟩
 refine (ex2 fun cd bm => an4 fun hcl hmr ht hh => ?_) x.cls
 have T := tail_of_in X ht
 have I : PySem.W.InstAt s.heap e oe C (some (dictOf es kk)) := ⟨F.own e _ he, hc, by unfold notCls; rw [hd], by rw [hdi]; exact D⟩
 obtain ⟨u, hu, huv⟩ := fe.getL .head
 have L0 := I.type (M := model prog w)
 have L1 := looks_findIn (M := model prog w) X x.ga
 have L2 := looks_findIn (M := model prog w) X x.hk
 have L3 := looks_find (M := model prog w) X I (findObj_own (by unfold hasDictIn; rw [hcl]; exact hh) x.attr rfl hu)
 have FB := PySem.F.attrBase_Exception
 have f3 := FB.ga.bind (.ref e)
 have hx0 : (expr && onTheHeap (Value.builtin "BaseException.__getattribute__")) = false := by cases expr <;> rfl
 have hx2 : (Value.builtin "BaseException.__getattribute__" == Value.builtin "object.__getattribute__") = false := by decide +kernel
 have hx1 : (onTheHeap (Value.ref C) && Value.builtin "BaseException.__getattribute__" == Value.builtin "object.__getattribute__") = false := by rw [hx2]; rfl
 obtain ⟨hp, g, dr, t, os⟩ := s
 unfold getAttr getAttrBy
 refine wpAny_bind (wpAny_mkText (wpAny_holding (wpAny_bind (L0.at (wpAny_bind (L1.at ?_))))))
 dsimp only
 rw [hx1, if_neg Bool.false_ne_true]
 unfold getAttrByItsOwn
 refine wpAny_bind (L2.at (wpAny_bind (wpAny_attempt (wpAny_holding ?_))))
 unfold callGetattribute
 rw [hx0, if_neg Bool.false_ne_true]
 unfold boundAndCalled
 rw [f3]
 have sub : Looks (model prog w) hp (isInstance (.ref e) (.type "BaseException")) true := I.type.andThen (looks_mroIn X (by unfold mroIn; rw [hcl, Option.bind_some, hmr, if_neg (by simp), List.contains_cons, T.hasType (X := "BaseException") (b := true) (by decide +kernel), Bool.or_true]))
 refine wpAny_bind (wpAny_pure (wpAny_call (codeAny_call_builtin FB.ga.plain PySem.F.entry_bexc_ga (@check_slot (model prog w) _ _ ⟨hp, g, dr, t + 1, os⟩ "BaseException.__getattribute__" "BaseException" "__getattribute__" (.ref e) [.str "message" t] [] _ (by decide +kernel) (by decide +kernel) sub (PySem.F.args_bexc_ga (.ref e) (.str "message" t)) ?_))))
 show wpAny _ _ (Builtin.«object.__getattribute__» _) _ _ _
 unfold Builtin.«object.__getattribute__»
 repeat lk
 show wpAny _ _ (handedOut u) _ _ _
 rw [handedOut_of (handed_of huv hv)]
 exact wpAny_pure (k u (t + 1) huv)
end
section
variable {n : Nat} {c c' : Cx} {ρ ρ' : Loc} {σ σ' τ : Sig} {s s' : Shared}
noncomputable def InitOk (prog : Program) (w : World) (K : Frag) (n : Nat) (C fI : Addr) (msg : Str) : Prop :=
 ∀ (c : Cx) (ρ : Loc) (σ : Sig) (e : Addr) (oe : Obj) (vs : Array Value) (Q : V → Sig → Prop), c.Ok prog w K n → σ e = some (.raw oe) → oe.cls = .ref C → oe.data = .fields vs → oe.dict = none →
  (∀ d, σ d = none → Q .none ((σ.set d (.flds [("message", .str msg)])).set e (.raw { oe with dict := some d }))) → CODE prog w c ρ σ (.ref fI) [.ref e, .str msg] [] Q
theorem E_make (ok : c.Ok prog w K (n + 1)) {C fI : Addr} {msg : Str} (x : ExcIn K C fI) (hi : InitOk prog w K n C fI msg) (F : Fm prog w c ρ σ s) {u : Value} (hu : E u = .str msg) {Q : Value → Shared → Prop} {EE : Value → Shared → Prop}
 (k : ∀ e d s' σ' oe, Fm prog w c ρ σ' s' → ExcB σ msg d e σ' → σ' e = some (.raw oe) → oe.cls = .ref C → oe.dict = some d → (∃ t, oe.data = .fields #[.ref t, .none, .none, .none, .bool false, .none]) → Q (.ref e) s') :
 wpAny (model prog w) c.A (call (.ref C) [u] []) Q EE s := by
 have X : K.In s.heap := ok.base.inK.keeps F.keep
 refine (ex9 fun nm q N bs bm sn sub ab col => ex6 fun dd k0 k1 k2 k3 k5 => ?_) x.obj; rintro ⟨hK, ht⟩
 have hC := X _ _ hK
 have T := tail_of_in X ht
 have Fx := PySem.F.excBase_Exception
 have hBn : excB.contains (.type "Exception") = true := by decide +kernel
 obtain ⟨h, g, dr, t, os⟩ := s
 dsimp only at X hC T
 have f1 := tc_lookup
 have f2 := tc_bind (.ref C)
 have hT : (⟨h, g, dr, t, os⟩ : Shared).TypeIs (.ref C) "type" := ⟨_, hC, rfl⟩
 refine wpAny_call (codeAny_of_tree ?_)
 show wpAny _ _ (callAny (.ref C) _) _ _ _
 repeat (any_goals (first | assumption | with_reducible refine wpAny_loadPart_at hC ?_ | wp_step))
 refine ⟨rfl, ?_⟩
 refine codeAny_call_builtin_at (Code.quiet_builtin _ (by decide +kernel)) entry_typeCall (wpAny_check_type_call_sub hC ?_)
 repeat (first | with_reducible refine wpAny_loadPart_at hC ?_ | with_reducible refine wpAny_madeBy_exc hC ?_ | wp_step)
 refine codeAny_call_builtin_code (Code.quiet_builtin _ Fx.quiet) (wpAny_check_new_subU Fx hBn T hC ?_)
 refine codeAny_exc_new_subU (hrest := by show 1 ≤ sizeLine; rw [sizeLine_eq]; decide) Fx hBn Fx T hC ?_
 show wpAny _ _ _ _ _ _
 obtain ⟨F1, n1⟩ := F.alloc (t := t) ok (o := { cls := .type "tuple", data := .seq (([] : List Value).append [u]).toArray }) (o' := .tup [.str msg]) rfl ⟨_, _, Heap.get?_push_size _ rfl, by show [E u] = _; rw [hu]⟩
 obtain ⟨F2, n2⟩ := F1.alloc (t := t) ok (o := { cls := .ref C, data := .fields #[.ref h.objs.size, .none, .none, .none, .bool false, .none] }) (o' := .raw { cls := .ref C, data := .fields #[.ref h.objs.size, .none, .none, .none, .bool false, .none] }) rfl (Heap.get?_push_size _ rfl)
 dsimp only at F1 n1 F2 n2
 rw [Heap.size_push] at F2 n2
 have nx : σ (h.objs.size + 1) = none := by rw [Yd (Nat.succ_ne_self _)] at n2; exact n2
 have he2 := Ya (σ := σ.set h.objs.size (.tup [.str msg])) (a := h.objs.size + 1) (o := .raw { cls := .ref C, data := .fields #[.ref h.objs.size, .none, .none, .none, .bool false, .none] })
 have le2 : Le σ ((σ.set h.objs.size (.tup [.str msg])).set (h.objs.size + 1) (.raw { cls := .ref C, data := .fields #[.ref h.objs.size, .none, .none, .none, .bool false, .none] })) := (Yc n1).trans (Yc n2)
 generalize (σ.set h.objs.size (.tup [.str msg])).set (h.objs.size + 1) (.raw { cls := .ref C, data := .fields #[.ref h.objs.size, .none, .none, .none, .bool false, .none] }) = σ2 at F2 he2 le2
 generalize hh2 : (h.push { cls := .type "tuple", data := .seq (([] : List Value).append [u]).toArray }).push { cls := .ref C, data := .fields #[.ref h.objs.size, .none, .none, .none, .bool false, .none] } = h2 at F2
 have X2 : K.In h2 := ok.base.inK.keeps F2.keep
 have I : PySem.W.InstAt h2 (h.objs.size + 1) { cls := .ref C, data := .fields #[.ref h.objs.size, .none, .none, .none, .bool false, .none] } C none := ⟨F2.own _ _ he2, rfl, rfl, trivial⟩
 refine (ex2 fun cd bm' => an4 fun hcl hmr _ _ => ?_) x.cls
 have self : Looks (model prog w) h2 (isInstance (.ref (h.objs.size + 1)) (.ref C)) true := I.type.andThen (looks_mroIn X2 (by unfold mroIn; rw [hcl, Option.bind_some, hmr, if_neg (by simp)]; simp))
 refine wpAny_bind (self.at ?_)
 rw [if_neg (by decide)]
 refine wpAny_bind (wpAny_holding ?_)
 refine special_fn (s := ⟨h2, g, dr, t, os⟩) X2 I x.init (beq_iff_eq.mp x.fn) (wpAny_call ?_)
 let c' : Cx := { c with A := c.A.under (.builtin "type.__call__" ⟨[.ref C, u], []⟩) }
 have ok' : c'.Ok prog w K n := ⟨ok.base, ok.kind, ok.glob, ok.nodup, ok.loc, ok.dbg, ok.gls, ok.fresh, ok.cin, ok.apart, ok.hd, by have := ok.dep; show c.A.depth + 1 + n < 900; omega, by have := ok.uni; show c.A.units + 1 + 8 * n < 8000; omega⟩
 have F3 : Fm prog w c' ρ σ2 ⟨h2, g, dr, t, os⟩ := ⟨F2.names, F2.ns, F2.cl, F2.keep, F2.own, F2.free, F2.gens, F2.os⟩
 have z := hi c' ρ σ2 (h.objs.size + 1) _ _ (fun v τ => v = .none ∧ ∃ d, σ2 d = none ∧ τ = (σ2.set d (.flds [("message", .str msg)])).set (h.objs.size + 1) (.raw { cls := .ref C, dict := some d, data := .fields #[.ref h.objs.size, .none, .none, .none, .bool false, .none] })) ok' he2 rfl rfl rfl (fun d hd => ⟨rfl, d, hd, rfl⟩) (.ref fI) [.ref (h.objs.size + 1), u] [] rfl (by show [_, E u] = _; rw [hu]; rfl) rfl _ F3
 refine codeAny_mono z fun r s' hr => ?_
 cases r with
 | error e => exact hr.elim
 | ok f =>
  cases f with
  | ret v =>
   revert hr; refine ex1 fun σ' => an3 fun F' hv => ex1 fun d => ?_; rintro ⟨hd, rfl⟩
   obtain rfl := E_none hv
   refine wpAny_pure (k _ d _ _ _ ⟨F'.names, F'.ns, F'.cl, F'.keep, F'.own, F'.free, F'.gens, F'.os⟩ ⟨?_, nx, ?_⟩ Ya rfl rfl ⟨_, rfl⟩)
   · exact (le2.trans (Yc hd)).setIn nx
   · rw [Yd (fun q => by rw [q, he2] at hd; cases hd), Ya]
  | next => exact hr.elim
  | brk => exact hr.elim
  | cont => exact hr.elim
end
section
variable {M : Model} {A : Around} {EE : Value → Shared → Prop} {env : Env} {C N : Addr} {nm q : Str} {bs bm : List Value} {sn : List Str} {sub : List Value} {ab : Bool} {col : Option Bool} {dd : Option Addr} {k0 k1 k2 k3 k5 : Option Value}
theorem raise_made {s : Shared} {x : Sem Value} {Q : Flow → Shared → Prop} (hbase : bm.contains (.type "BaseException") = true) (hh : A.handled = none)
 (h : wpAny M A x (fun v s₁ => ∃ e oe vs, v = .ref e ∧ s₁.heap.get? C = some (excClassObj nm q C N bs bm true sn sub ab col dd k0 k1 k2 k3 k5 "Exception.__new__") ∧ s₁.heap.get? e = some oe ∧ oe.cls = .ref C ∧ oe.data = .fields vs ∧ vs[1]? = some .none ∧ EE (.ref e) s₁) EE s) :
 wpAny M A (raiseStmt env (some x) none) Q EE s := by
 have hcB : (Value.ref C :: bm).contains (.type "BaseException") = true := by rw [List.contains_cons, hbase, Bool.or_true]
 unfold raiseStmt
 refine wpAny_bind (wpAny_mono h (fun v s₁ h₁ => ?_) fun _ _ x => x)
 revert h₁; refine ex3 fun e oe vs => an7 ?_; rintro rfl; intro hC he hcl hd h1 hE
 obtain ⟨hp, g, d, tk, os⟩ := s₁
 dsimp only at hC he
 repeat (first | (with_reducible refine wpAny_loadPart_at he ?_; rw [hcl]) | with_reducible refine wpAny_loadPart_at hC ?_ | (with_reducible refine wpAny_isSubtype_exc hC ?_; rw [hcB]) | with_reducible refine wpAny_field he hd h1 ?_ | wp_step)
 exact wpAny_raiseNew_none hh hE
end
section
variable {n : Nat} {c c' : Cx} {ρ ρ' : Loc} {σ σ' τ : Sig} {s s' : Shared}
theorem ExcIn.base {C fI : Addr} (x : ExcIn K C fI) : ∃ nm q N bs bm sn sub ab col dd k0 k1 k2 k3 k5, K.lookup C = some (excClassObj nm q C N bs bm true sn sub ab col dd k0 k1 k2 k3 k5 "Exception.__new__") ∧ bm.contains (.type "BaseException") = true := by
 refine (ex9 fun nm q N bs bm sn sub ab col => ex6 fun dd k0 k1 k2 k3 k5 => ?_) x.obj; rintro ⟨h, t⟩
 refine ⟨nm, q, N, bs, bm, sn, sub, ab, col, dd, k0, k1, k2, k3, k5, h, ?_⟩
 have : ∀ l, tailIn K excB l = true → l.contains (.type "BaseException") = true := by
  intro l
  induction l with
  | nil => intro e; exact absurd (show (excB == []) = true from e) (by decide +kernel)
  | cons v r ih =>
   intro e
   rcases Bool.or_eq_true_iff.mp e with q | q
   · rw [beq_iff_eq.mp q]; decide +kernel
   · have z : tailIn K excB r = true := by
      cases v with
      | ref A =>
       dsimp only at q
       cases hl : K.lookup A with
       | none => rw [hl] at q; cases q
       | some o =>
        rw [hl] at q
        obtain ⟨_, _, dt, _⟩ := o
        cases dt with
        | cls cd => exact (Bool.and_eq_true_iff.mp q).2
        | _ => cases q
      | _ => cases q
     rw [List.contains_cons, ih z, Bool.or_true]
 exact this bm t
theorem BX_raise (ok : c.Ok prog w K (n + 1)) {C fI : Addr} {msg r : Str} {gl : List (Str × V)} {np cpos pos kpos : Pos} {kk : Nat} (x : ExcIn K C fI) (hi : InitOk prog w K n C fI msg) (hgl : c.gl = gl) (hv : HasG gl r (.ref C)) {σ₀ : Sig} (le : Le σ₀ σ)
 (hp : (backTo cpos (starEach [.Constant (.str msg) kk kpos] c.env)).any (·.1) = false := by rfl) :
 BX prog w c ρ σ (.Raise (some (.Call (.Name r np) [.Constant (.str msg) kk kpos] [] cpos)) none pos) (XR prog w C msg c σ₀) := by
 intro s F
 refine (ex9 fun nm q N bs bm sn sub ab col => ex6 fun dd k0 k1 k2 k3 k5 => ?_) x.base; rintro ⟨hK, hb⟩
 have key : wpAny (model prog w) c.A (eval (.Call (.Name r np) [.Constant (.str msg) kk kpos] [] cpos) c.env) (fun v s₁ => ∃ e oe vs, v = .ref e ∧ s₁.heap.get? C = some (excClassObj nm q C N bs bm true sn sub ab col dd k0 k1 k2 k3 k5 "Exception.__new__") ∧ s₁.heap.get? e = some oe ∧ oe.cls = .ref C ∧ oe.data = .fields vs ∧ vs[1]? = some .none ∧ XR prog w C msg c σ₀ (.ref e) s₁) (XR prog w C msg c σ₀) s := by
  refine wpAny_Call_ofName (TE.use (X_glob ok hgl hv (Q := fun v σ' => v = .ref C ∧ σ' = σ) ⟨rfl, rfl⟩) F fun g s₁ σ₁ F₁ => an2 fun hg e1 => ?_)
  subst e1
  obtain rfl := E_ref hg
  refine callWith_of (P := K.In) (by rw [hp]; rfl) (fun hh X => KP.keeps (.inl ⟨C, rfl, x.keep⟩) rfl hh X) ?_
  have hxs : EXS prog w c ρ σ₁ [.Constant (.str msg) kk kpos] (fun xs σ' => xs = [.str msg] ∧ σ' = σ₁) := XS_cons (X_str (XS_nil ⟨rfl, rfl⟩))
  refine evalArgs_of hp ((hxs cpos).use F₁ fun vs s₂ σ₂ F₂ => an2 fun hvs e2 => ⟨ok.base.inK.keeps F₂.keep, ?_⟩)
  subst e2
  obtain ⟨u, rfl⟩ : ∃ u, vs = [u] := by
   cases vs with
   | nil => cases hvs
   | cons u r => cases r with
    | nil => exact ⟨u, rfl⟩
    | cons _ _ => exact absurd (congrArg List.length hvs) (by simp)
  have hu : E u = .str msg := by simpa using hvs
  refine E_make ok x hi F₂ hu fun e d s₃ σ₃ oe F₃ hx he hc hd => ex1 fun t hf => ?_
  exact ⟨e, oe, _, rfl, ok.base.inK.keeps F₃.keep _ _ hK, F₃.own _ _ he, hc, hf, rfl, e, d, _, σ₃, rfl, F₃, .inl ⟨⟨le.trans hx.le, le.none hx.ne, hx.msg⟩, oe, _, he, hc, hd, hf, rfl⟩⟩
 rw [arm_exec_Raise]
 show wpAny _ _ (do standAt pos; raiseStmt c.env (some (do let v ← eval (.Call (.Name r np) [.Constant (.str msg) kk kpos] [] cpos) c.env; standAt pos; pure v)) none) _ _ _
 exact wpAny_bind (wpAny_standAt (raise_made (C := C) hb ok.hd (wpAny_bind (wpAny_mono key (fun v s₃ h₃ => wpAny_bind (wpAny_standAt (wpAny_pure h₃))) fun _ _ z => z))))
end
section
variable {n : Nat} {c c' : Cx} {ρ ρ' : Loc} {σ σ' τ : Sig} {s s' : Shared} {C : Addr} {msg : Str} {σ₀ : Sig}
noncomputable abbrev Nvr : Out → Loc → Sig → Prop := fun _ _ _ => False
theorem ExcAt.base {C fl : Value} {d e : Addr} (z : ExcAt σ msg C d e fl σ') (le : Le σ₀ σ) : ExcAt σ₀ msg C d e fl σ' := by
 obtain ⟨⟨a1, a2, a3⟩, oe, vs, T, oT, ts, h1, h2, h3, h4, h5, h6, h7, h8, h9, h10⟩ := z
 exact ⟨⟨le.trans a1, le.none a2, a3⟩, oe, vs, T, oT, ts, h1, h2, h3, h4, h5, h6, h7, h8, h9, le.none h10⟩
theorem XR.base {x : Value} (h : XR prog w C msg c σ x s) (le : Le σ₀ σ) : XR prog w C msg c σ₀ x s := by
 revert h; refine ex4 fun e d ρ σ' => an3 ?_; rintro rfl; intro F hx
 have b := hx.b
 refine ⟨e, d, ρ, σ', rfl, F, ?_⟩
 rcases hx with ⟨_, z⟩ | z | z
 · exact .inl ⟨⟨le.trans b.le, le.none b.ne, b.msg⟩, z⟩
 · exact .inr (.inl (z.base le))
 · exact .inr (.inr (z.base le))
theorem BS_nil {Q : Out → Loc → Sig → Prop} {P : Value → Shared → Prop} (h : Q .next ρ σ) : BS prog w c ρ σ [] Q P := fun s F => wpAny_execs_nil ⟨ρ, σ, F, h⟩
theorem BS_cons {st : PySem.Stmt} {r : List PySem.Stmt} {Q : Out → Loc → Sig → Prop} {P : Value → Shared → Prop} (h : ST prog w c ρ σ st fun o ρ₁ σ₁ => o = .next ∧ BS prog w c ρ₁ σ₁ r Q P) : BS prog w c ρ σ (st :: r) Q P := fun s F =>
 wpAny_execs_cons (TS.use h F fun f s' ρ' σ' F₁ => an2 fun ho hb => by
  cases f with
  | next => exact hb _ F₁
  | brk => cases ho
  | cont => cases ho
  | ret v => cases ho)
theorem BS_raise {st : PySem.Stmt} {r : List PySem.Stmt} {Q : Out → Loc → Sig → Prop} {P : Value → Shared → Prop} (h : BX prog w c ρ σ st P) : BS prog w c ρ σ (st :: r) Q P := fun s F =>
 wpAny_execs_cons (wpAny_mono (h s F) (fun _ _ z => z.elim) fun _ _ z => z)
theorem BX_if {t : PySem.Expr} {a b : List PySem.Stmt} {pos : Pos} {P : Value → Shared → Prop} (h : TST prog w c ρ σ t fun z σ₁ => if z = true then BS prog w c ρ σ₁ a Nvr P else BS prog w c ρ σ₁ b Nvr P) : BX prog w c ρ σ (.If t a b pos) P := fun s F =>
 wpAny_If (TE.use h F fun z _ _ F₁ h₁ => by cases z <;> simp only [Bool.false_eq_true, if_false, if_true] at h₁ ⊢ <;> exact wpAny_mono (h₁ _ F₁) (fun _ _ => ex2 fun _ _ => an2 fun _ z => z.elim) fun _ _ z => z)
theorem XE_call (ok : c.Ok prog w K n) {x : Str} {np pos : Pos} {es : List PySem.Expr} {f : V} {gl : List (Str × V)} (hgl : c.gl = gl) (hv : HasG gl x f)
 (h : EXS prog w c ρ σ es fun xs σ₂ => XCODE prog w C msg c ρ σ₂ f xs ∧ Le σ₀ σ₂) (F : Fm prog w c ρ σ s)
 (hp : (backTo pos (starEach es c.env)).any (·.1) = false := by rfl) : wpAny (model prog w) c.A (eval (.Call (.Name x np) es [] pos) c.env) (fun _ _ => False) (XR prog w C msg c σ₀) s := by
 have kp : KP K f := (ok.gls _ (by rw [hgl]; exact hv.mem)).2.2.kp
 refine wpAny_Call_ofName (TE.use (X_glob ok hgl hv (Q := fun v σ' => v = f ∧ σ' = σ) ⟨rfl, rfl⟩) F fun g s₁ σ₁ F₁ => an2 fun hg e1 => ?_)
 subst e1
 refine callWith_of (P := K.In) (by rw [hp]; rfl) (fun hh X => kp.keeps hg hh X) ?_
 refine evalArgs_of hp ((h pos).use F₁ fun vs s₂ σ₂ F₂ => an2 fun hx le => ⟨ok.base.inK.keeps F₂.keep, ?_⟩)
 refine wpAny_call (codeAny_mono (hx g vs hg rfl s₂ F₂) fun r s₃ hr => ?_)
 cases r with
 | ok f => exact hr.elim
 | error x =>
  revert hr; refine ex3 fun e d σ' => an3 ?_; rintro rfl; intro F' hx
  exact XR.base (σ := σ₂) ⟨e, d, ρ, σ', rfl, F', .inr (.inl hx)⟩ le
theorem BX_ret {e : PySem.Expr} {pos : Pos} {P : Value → Shared → Prop} (h : ∀ s, Fm prog w c ρ σ s → wpAny (model prog w) c.A (eval e c.env) (fun _ _ => False) P s) : BX prog w c ρ σ (.Return (some e) pos) P := fun s F =>
 wpAny_Return_some (wpAny_mono (h s F) (fun _ _ z => z.elim) fun _ _ z => z)
theorem BX_expr {e : PySem.Expr} {pos : Pos} {P : Value → Shared → Prop} (h : ∀ s, Fm prog w c ρ σ s → wpAny (model prog w) c.A (eval e c.env) (fun _ _ => False) P s)
 (hi : interactive c.env = false := by rfl) (hs : swapsWith e none pos.line c.env = pure false := by rfl) : BX prog w c ρ σ (.Expr e pos) P := fun s F =>
 wpAny_Expr_any (wpAny_mono (h s F) (fun _ _ z => z.elim) fun _ _ z => z) hi hs
structure ForX (prog : Program) (w : World) (K : Frag) (n : Nat) (C : Addr) (msg : Str) (σ₀ : Sig) (c : Cx) (target : PySem.Expr) (body : List PySem.Stmt) (k : SK) (xs : List V) (J : Nat → Loc → Sig → Prop) : Prop where
 src : ∀ i ρ σ, J i ρ σ → Src σ k xs
 turn : ∀ c' i x ρ σ, Sim c c' → c'.Ok prog w K n → xs[i]? = some x → J i ρ σ → TGT prog w c' ρ σ target x fun ρ₁ σ₁ => BS prog w c' ρ₁ σ₁ body (fun o ρ₂ σ₂ => o = .next ∧ J (i + 1) ρ₂ σ₂) (XR prog w C msg c' σ₀)
 done : ∀ ρ σ, J xs.length ρ σ → False
theorem BX_for (ok : c.Ok prog w K n) (frs : FRS c σ₀) {target iter : PySem.Expr} {body : List PySem.Stmt} {pos : Pos}
 (h : EX prog w c ρ σ iter fun x σ₁ => ∃ k xs J, SrcOf σ₁ x k xs ∧ J 0 ρ σ₁ ∧ ForX prog w K n C msg σ₀ c target body k xs J)
 (hs : ∀ x, foldedSetIterable iter c.env x = pure x := by intro _; rfl) : BX prog w c ρ σ (.For target iter body [] pos) (XR prog w C msg c σ₀) := by
 intro s F
 refine wpAny_For (h.use F fun v s₁ σ₁ F₁ h₁ => ?_) hs
 revert h₁; refine ex3 fun k xs J => an3 fun hsrc h0 inv => ?_
 refine itr_start ok F₁ hsrc fun I s₂ F₂ fr it => ?_
 refine codeAny_forLoop_any (fun m s' => ∃ i ρ' σ', m + i = xs.length ∧ J i ρ' σ' ∧ Fm prog w c ρ' σ' s' ∧ Free c σ' I ∧ Itr k xs.length I i s'.heap) ?_ xs.length ⟨0, ρ, σ₁, rfl, h0, F₂, fr, it⟩
 refine fun m s' => ex3 fun i ρ' σ' => an5 fun hm hJ F' fr' it' => ?_
 rcases Nat.eq_zero_or_pos m with rfl | hpos
 · rw [Nat.zero_add] at hm
   subst hm
   exact (inv.done _ _ hJ).elim
 · have hi : i < xs.length := by omega
   have hx : xs[i]? = some xs[i] := List.getElem?_eq_getElem hi
   refine itr_next ok F' fr' (inv.src _ _ _ hJ) it' hx fun v s₃ hv F₃ it₃ => itr_owned it₃ ?_
   have S := F₃.sub_ice ok fun _ _ e => e
   have T := inv.turn _ i _ ρ' σ' S (ok.ice F₃) hx hJ v hv s₃ F₃.ice
   rw [S.env] at T
   refine wpAny_mono T (fun _ s₄ => ex2 fun ρ₄ σ₄ => an2 fun F₄ h₄ => ?_) fun _ _ x => x.elim
   have T' := h₄ s₄ F₄
   rw [S.env] at T'
   refine wpAny_mono T' (fun f s₅ => ex2 fun ρ₅ σ₅ => an2 fun F₅ h₅ => ?_) fun x s₅ hr => ?_
   · obtain ⟨ob, hob⟩ := it₃.get
     have hice : (c.ice σ' s₃.heap).h₀.get? I = some ob := ice_get.mpr ⟨hob, fr'.1, fr'.2.2⟩
     obtain ⟨z1, z2⟩ := F₅.iced hice
     have F₆ := F₅.melt S
     have nx : J (i + 1) ρ₅ σ₅ → ∃ m', m' < m ∧ ∃ i ρ' σ', m' + i = xs.length ∧ J i ρ' σ' ∧ Fm prog w c ρ' σ' s₅ ∧ Free c σ' I ∧ Itr k xs.length I i s₅.heap := fun hJ' =>
      ⟨m - 1, by omega, i + 1, ρ₅, σ₅, by omega, hJ', F₆, ⟨z1, fr'.2⟩, it₃.same (z2.trans hob.symm)⟩
     cases f with
     | next => exact nx h₅.2
     | cont => cases h₅.1
     | brk => cases h₅.1
     | ret v => cases h₅.1
   · revert hr; refine ex4 fun e d ρ₅ σ₅ => an3 ?_; rintro rfl; intro F₅ hx
     rw [S.env] at hx
     refine note_any ok (F₅.melt S) frs hx fun s₆ σ₆ F₆ h₆ => ?_
     exact came_back F₆ frs.choose_spec.2.1 h₆ fun s₇ σ₇ F₇ h₇ => ⟨e, d, ρ₅, σ₇, rfl, F₇, .inr (.inr h₇)⟩
theorem X_locA {A : Around} {x : Str} {v : V} {pos : Pos} {Q : V → Sig → Prop} (ok : c.Ok prog w K n) (hv : HasV ρ x v) (h : Q v σ) : EX prog w { c with A := A } ρ σ (.Name x pos) Q := by
 intro s F'
 have F : Fm prog w c ρ σ s := ⟨F'.names, F'.ns, F'.cl, F'.keep, F'.own, F'.free, F'.gens, F'.os⟩
 have hm := hv.mem
 have hl : x ∈ c.lns := by rw [← F.names]; exact List.mem_map.mpr ⟨_, hm, rfl⟩
 refine wpAny_Name ?_ (ok.dbg x hl)
 rcases ok.loc x hl with hk | ⟨hk, a, ha⟩
 · obtain ⟨m, hn, hmm⟩ := F.ns
   have := hmm _ hm hk
   cases hx : m x with
   | none => rw [hx] at this; cases this
   | some u =>
    rw [hx] at this
    have e : E u = v := by simpa using this
    exact wpAny_loadName_local ok.kind hk hn hx ⟨σ, F', by show Q (E u) σ; rw [e]; exact h⟩
 · refine (ex2 fun a' u => an3 fun ha' hc hu => ?_) (F.cl _ hm hk)
   cases u with
   | none => cases hu
   | some u =>
    have e : E u = v := by simpa using hu
    exact wpAny_loadName_cell ok.kind hk ha' hc ⟨σ, F', by show Q (E u) σ; rw [e]; exact h⟩
theorem X_globA {A : Around} {x : Str} {v : V} {pos : Pos} {gl : List (Str × V)} {Q : V → Sig → Prop} (ok : c.Ok prog w K n) (hgl : c.gl = gl) (hv : HasG gl x v) (h : Q v σ) : EX prog w { c with A := A } ρ σ (.Name x pos) Q := by
 intro s F
 subst hgl
 refine (an3 fun hk hd hg => ?_) (ok.gls _ hv.mem)
 obtain ⟨mg, G⟩ := ok.base.g
 obtain ⟨mb, B, hb⟩ := ok.base.b
 have G' : s.heap.Ns c.env.globals mg := by rw [ok.glob.1]; exact G.keeps F.keep
 have B' : s.heap.Ns c.env.builtins mb := by rw [ok.glob.2]; exact B.keeps F.keep
 refine Name_function_global ok.kind hk ?_ hd
 rcases hg.val with ⟨u, e, hu⟩ | ⟨e, hne, u, hbu, hu⟩
 · exact loadGlobal_global G' (mgOf ok.base.inK G e) ⟨σ, F, by show Q (E u) σ; rw [hu]; exact h⟩
 · exact loadGlobal_builtin G' (mgOf ok.base.inK G e) B' ((hb x hne).trans hbu) ⟨σ, F, by show Q (E u) σ; rw [hu]; exact h⟩
theorem Fm.atA {A : Around} (F : Fm prog w c ρ σ s) : Fm prog w { c with A := A } ρ σ s := ⟨F.names, F.ns, F.cl, F.keep, F.own, F.free, F.gens, F.os⟩
theorem Fm.ofA {A : Around} (F : Fm prog w { c with A := A } ρ σ s) : Fm prog w c ρ σ s := ⟨F.names, F.ns, F.cl, F.keep, F.own, F.free, F.gens, F.os⟩
theorem Fm.goes (F : Fm prog w c ρ σ s) (ok : c.Ok prog w K n) {A : Around} {x : Str} {pos : Pos} (hx : x ∈ c.lns) (hk : c.env.kindOf x = some .local) {Q : Unit → Shared → Prop} {EE : Value → Shared → Prop}
 (k : ∀ s' ρ', Fm prog w c ρ' σ s' → Q () s') : wpAny (model prog w) A (do bindName c.env x .none; unbindBehindTheSuite c.env x pos) Q EE s := by
 obtain ⟨m, hn, hm⟩ := F.ns
 refine wpAny_nameGoes_keeps hk hn (by rw [ok.kind]; rfl) fun h' v hn' sb => k _ (ρ.map fun p => if p.1 = x then (p.1, v.map E) else p) ⟨?_, ⟨_, hn', fun p hp hpk => ?_⟩, fun p hp hpk => ?_, fun b o e => ?_, fun b o e => ?_, F.free, F.gens, F.os⟩
 · rw [List.map_map, ← F.names]
   refine List.map_congr_left fun p _ => ?_
   show (if p.1 = x then _ else _ : Str × Option V).1 = p.1
   split <;> rfl
 · obtain ⟨q, hq, rfl⟩ := List.mem_map.mp hp
   by_cases e : q.1 = x
   · simp only [e, if_true]
   · simp only [e, if_false] at hpk ⊢
     exact hm q hq hpk
 · obtain ⟨q, hq, rfl⟩ := List.mem_map.mp hp
   by_cases e : q.1 = x
   · simp only [e, if_true] at hpk; rw [hk] at hpk; cases hpk
   · simp only [e, if_false] at hpk ⊢
     refine (ex2 fun b v' => an3 fun x1 x2 x3 => ?_) (F.cl q hq hpk)
     exact ⟨b, v', x1, x2.sameBut sb (ok.fresh.2 _ _ x1).2, x3⟩
 · exact (sb.2 b (fun q => by rw [q, ok.fresh.1] at e; cases e)).trans (F.keep b o e)
 · exact (F.own b o e).same (sb.2 b (F.free b o e).2.1)
theorem SetV.some {x : Str} {v : V} : ∀ {ρ : Loc}, x ∈ ρ.map (·.1) → ∃ ρ', SetV ρ x v ρ' ∧ HasV ρ' x v
 | (y, o) :: r, h => by
  by_cases q : y = x
  · subst q; exact ⟨_, .head, .head⟩
  · rw [List.map_cons, List.mem_cons] at h
    obtain ⟨ρ', a, b⟩ := SetV.some (ρ := r) (h.resolve_left fun e => q e.symm)
    exact ⟨_, .tail a, .tail b⟩
theorem S_try (ok : c.Ok prog w K n) {fI : Addr} (xi : ExcIn K C fI) (fr : FRS c σ) {body : List PySem.Stmt} {t nm : Str} {np hpos pos : Pos} {b₀ : PySem.Stmt} {suite : List PySem.Stmt} {gl : List (Str × V)} {Q : Out → Loc → Sig → Prop}
 (hb : BS prog w c ρ σ body Nvr (XR prog w C msg c σ)) (hgl : c.gl = gl) (hv : HasG gl t (.ref C)) (hnm : nm ∈ ρ.map (·.1)) (hk : c.env.kindOf nm = some .local)
 (h : ∀ e d ρ₁ σ₁ A, ExcAt σ msg (.ref C) d e .none σ₁ → HasV ρ₁ nm (.ref e) → STS prog w { c with A := A } ρ₁ σ₁ (b₀ :: suite) fun o _ σ₂ => ∀ ρ₃, Q o ρ₃ σ₂) :
 ST prog w c ρ σ (.Try body [.ExceptHandler (some (.Name t np)) (some nm) (b₀ :: suite) hpos] [] [] pos) Q := by
 intro s F
 have hnm : nm ∈ c.lns := by rw [← F.names]; exact hnm
 refine wpAny_Try_except (wpAny_mono (hb s F) (fun _ _ => ex2 fun _ _ => an2 fun _ z => z.elim) fun x s₁ hx => ?_)
 revert hx; refine ex4 fun e d ρ₁ σ₁ => an3 ?_; rintro rfl; intro F₁ hx
 refine note_any ok F₁ fr hx fun s₂ σ₂ F₂ x₂ => fly_any F₂ x₂ fun s₃ σ₃ F₃ x₃ => ?_
 refine wpAny_handleBy_cons (codeAny_handlers_test ?_) (by intro q; cases q)
 have hn := X_globA (A := c.A.mark (some (.ref e))) (ρ := ρ₁) (pos := np) ok hgl hv (Q := fun v τ => v = .ref C ∧ τ = σ₃) ⟨rfl, rfl⟩
 refine wpAny_mono (hn s₃ F₃.atA) (fun g s₄ => ex1 fun σ₄ => an3 fun F₄ hg e4 => ?_) fun _ _ z => z.elim
 subst e4
 obtain rfl := E_ref hg
 refine (ex9 fun nm' q N bs bm sn sub ab col => ex6 fun dd k0 k1 k2 k3 k5 => ?_) xi.base; rintro ⟨hK, hbase⟩
 have hC := ok.base.inK.keeps F₄.keep C _ hK
 refine (ex5 fun oe vs T oT ts => an3 fun h1 h2 _ => ?_) x₃.ex
 have he := F₄.own e _ h1
 obtain ⟨hp, g, dr, tk, os⟩ := s₄
 refine wpAny_excMatches_sub_self hC he h2 hbase ?_
 refine codeAny_handlers_suite_as ?_
 refine fly_any F₄ x₃ fun s₅ σ₅ F₅ x₅ => ?_
 obtain ⟨ρ', hs, hv'⟩ := SetV.some (v := .ref e) (ρ := ρ₁) (by rw [F₁.names]; exact hnm)
 refine F₅.ofA.store ok hs rfl fun s₆ F₆ => ?_
 refine wpAny_mono (h e d ρ' σ₅ (c.A.mark (some (.ref e))) x₅ hv' s₆ F₆.atA) (fun f s₇ => ex2 fun ρ₇ σ₇ => an2 fun F₇ hq => ?_) fun _ _ z => z.elim
 exact F₇.ofA.goes ok hnm hk fun s₈ ρ₈ F₈ => ⟨ρ₈, σ₇, F₈, hq ρ₈⟩
theorem A_msg (ok : c.Ok prog w K n) {A : Around} {fI : Addr} (xi : ExcIn K C fI) {d e : Addr} {Q : V → Sig → Prop} (h : ExcAt σ₀ msg (.ref C) d e .none σ) (k : Q (.str msg) σ) : GETA prog w { c with A := A } ρ σ (.ref e) "message" Q := by
 intro a hav s F
 obtain rfl := E_ref hav
 refine (ex5 fun oe vs T oT ts => an5 fun h1 h2 h3 h4 _ => ?_) h.ex
 exact E_get (c := { c with A := A }) (ok.base.inK.keeps F.keep) xi F h1 h2 h4 h3 h.msg rfl fun u t hu => ⟨σ, F.toks t, by show Q (E u) σ; rw [hu]; exact k⟩
end
section
variable {n : Nat} {c c' : Cx} {ρ ρ' : Loc} {σ σ' τ : Sig} {s s' : Shared}
theorem hide0 (h : Heap) {b : Addr} : (hideP (fun a => ((fun _ => none : Sig) a).isSome) h).get? b = h.get? b := by rw [hideP_get]; rfl
theorem HENTER {A : Around} {name qual : Str} {params : Arguments} {body : List PySem.Stmt} {scope : Scope} {f : Addr} (names : List Str) (rest : List Str) (gl : List (Str × V)) {vs : List Value} {xs : List V} {Q : V → Prop} {R : Result → Shared → Prop}
 (hB : Base prog w K s.heap) (hg : s.gens = #[]) (hh : A.handled = none) (hf : A.frames = some []) (hd : A.depth + 1 + n < 900) (hu : A.units + 3 + 8 * n < 8000)
 (ho : FnOk K f name qual params body scope []) (hp : plainParams params names = true) (hl : names.length = vs.length) (hvs : vs.map E = xs)
 (hsc : scopeOk scope (names ++ rest) (gl.map (·.1)) = true) (hgl : ∀ p ∈ gl, GV K p.1 p.2)
 (h : ∀ c' : Cx, c'.Ok prog w K n → c'.env.scope = scope → c'.gl = gl → (∀ τ, FRS c' τ) → (∀ b, c'.h₀.get? b = s.heap.get? b) → STS prog w c' (bindsRho (names.zip xs) rest) (fun _ => none) body (QE fun v _ => Q v))
 (hR : ∀ v s', Q (E v) → (∀ b o, s.heap.get? b = some o → s'.heap.get? b = some o) → s'.os = s.os → s'.gens = #[] → R (.ok (.ret v)) s') : codeAny (model prog w) A (.call (.ref f) ⟨vs, []⟩) R s := by
 have hB0 : Base prog w K (hideP (fun a => ((fun _ => none : Sig) a).isSome) s.heap) := hB.keeps fun b o e => by rw [hide0]; exact e
 refine (ex9 fun oc od osl dV kV doc pm an cdv => ex1 fun ct => an3 fun e1 e2 e3 => ?_) ho.ex
 simp only [plainParams, Bool.and_eq_true, List.isEmpty_iff, Option.isNone_iff_eq_none, beq_iff_eq, decide_eq_true_eq] at hp
 obtain ⟨⟨⟨⟨⟨p1, p2⟩, p3⟩, p4⟩, p5⟩, p6⟩ := hp
 have X : K.In s.heap := hB.inK
 have zl : (names.zip xs).map (·.1) = names := by rw [List.map_fst_zip]; rw [← hvs, List.length_map]; omega
 have hb : ∃ binds, BindsTo s (fnOf name qual params body scope dV kV doc pm an cdv ct) ⟨vs, []⟩ binds ∧ binds.map (fun p => (p.1, E p.2)) = names.zip xs := by
  rcases e3 with ⟨rfl, _⟩ | ⟨T, o, ds, m, rfl, e4, e5, e6⟩
  · refine ⟨names.zip (vs ++ ([] : List Value).drop (([] : List Value).length - 0)), bind_gen p1 p5 p2 p3 p4 p6 (by omega) (by simp) (by simp) fun M A EE Q hq => wpAny_pure (hq none rfl), ?_⟩
    rw [zip_E, List.map_append, hvs]; simp
  · have h0 : ds.toList = [] := by cases q : ds.toList with | nil => rfl | cons a r => rw [q] at e6; cases e6
    refine ⟨names.zip (vs ++ ds.toList.drop (ds.toList.length - 0)), bind_gen p1 p5 p2 p3 p4 p6 (by omega) (by omega) (by rw [h0]; simp) fun M A EE Q hq => wpAny_seqItems (X _ _ e4) e5 (hq _ rfl), ?_⟩
    rw [zip_E, List.map_append, hvs, h0]; simp
 obtain ⟨binds, hbt, hbm⟩ := hb
 refine ENTER (n := n) (σ := fun _ => none) (bs := names.zip xs) (rest := rest) (gl := gl) hB0 (fun a o e => by cases e) hg hh hd hu e1 e2 hbt hbm (by rw [zl]; exact hsc) hgl fun c' s₁ ok' h1 h2 h3 h4 h5 h6 F' => ?_
 have fr : ∀ τ, FRS c' τ := fun τ => ⟨[], by rw [h3]; exact Around.frames_deeper hf, h4, fun v hv => by cases hv⟩
 refine wpAny_mono (h c' ok' h1 h2 fr (fun b => by rw [h5, hide0]) s₁ F') (fun f s₂ => ex2 fun ρ₂ σ₂ => an2 fun F₂ hq => ?_) fun _ _ z => z.elim
 have keep : ∀ b o, s.heap.get? b = some o → s₂.heap.get? b = some o := fun b o e => F₂.keep b o (by rw [h5, hide0]; exact e)
 cases f <;> exact hR _ s₂ hq keep (F₂.os.trans h6) F₂.gens
end
section
variable {n : Nat} {c : Cx} {ρ : Loc} {σ : Sig}
theorem ct_share (hK : KOk K) (ok : c.Ok prog w K n) (hn : 1 ≤ n) {x l : Addr} {k : Str} {xs : List V} {a : V} {Q : V → Sig → Prop} (hv : Vec K σ x k l xs a) (h : Q (.ref x) σ) : CODE prog w c ρ σ (.ref (gv K "share")) [.ref x] [] Q := by
 refine en_share hK ok hn fun c' ok' sc' gl' => ?_
 k_lt w
 exact h
theorem ct_is_vector (hK : KOk K) (ok : c.Ok prog w K n) (hn : 1 ≤ n) {x l : Addr} {k : Str} {xs : List V} {a : V} {Q : V → Sig → Prop} (hv : Vec K σ x k l xs a) (h : Q (.bool true) σ) : CODE prog w c ρ σ (.ref (gv K "is_vector")) [.ref x] [] Q := by
 refine en_is_vector hK ok hn fun c' ok' sc' gl' => ?_
 k_lt w
 exact h
theorem ct_is_atomic (hK : KOk K) (ok : c.Ok prog w K n) (hn : 1 ≤ n) {x l : Addr} {k : Str} {xs : List V} {a : V} {Q : V → Sig → Prop} (hv : Vec K σ x k l xs a) (hk : k = "logical" ∨ k = "integer" ∨ k = "character") (h : Q (.bool true) σ) : CODE prog w c ρ σ (.ref (gv K "is_atomic")) [.ref x] [] Q := by
 rcases hk with rfl | rfl | rfl
 all_goals
  refine en_is_atomic hK ok hn fun c' ok' sc' gl' => ?_
  k_lt w
  exact h
theorem mk_Vector (hK : KOk K) (ok : c.Ok prog w K n) (hn : 2 ≤ n) {k i a : V} {Q : V → Sig → Prop} (h : ∀ x d, Fresh2 σ x d → Q (.ref x) (Yj K σ x d k i a)) : CALL prog w c ρ σ (.ref (gv K "Vector")) [k, i, a] [] Q := by
 refine MAKE ok (by omega) (hK.c "Vector" (by decide +kernel)) (hK.mf (45, 0, "Vector", "__init__", "Vector.__init__", [.none]) (List.mem_of_getElem? (i := 6) rfl)).1 (hK.mf (45, 0, "Vector", "__init__", "Vector.__init__", [.none]) (List.mem_of_getElem? (i := 6) rfl)).2.1 fun x d c' hx hd hne ok' => ?_
 refine en_Vector_init hK ok' (by omega) fun c'' ok'' sc' gl' => ?_
 show STS _ _ _ _ (fresh σ x (gv K "Vector") d []) _ _
 refine STS.conv ?_
 k_lt w
 exact ⟨_, Cv.vec hne, rfl, h x d ⟨hx, hd, hne⟩⟩
theorem mk_Vector1 (hK : KOk K) (ok : c.Ok prog w K n) (hn : 2 ≤ n) {k i : V} {Q : V → Sig → Prop} (h : ∀ x d, Fresh2 σ x d → Q (.ref x) (Yj K σ x d k i .none)) : CALL prog w c ρ σ (.ref (gv K "Vector")) [k, i] [] Q := by
 refine MAKE ok (by omega) (hK.c "Vector" (by decide +kernel)) (hK.mf (45, 0, "Vector", "__init__", "Vector.__init__", [.none]) (List.mem_of_getElem? (i := 6) rfl)).1 (hK.mf (45, 0, "Vector", "__init__", "Vector.__init__", [.none]) (List.mem_of_getElem? (i := 6) rfl)).2.1 fun x d c' hx hd hne ok' => ?_
 refine en_Vector_init_1 hK ok' (by omega) fun c'' ok'' sc' gl' => ?_
 show STS _ _ _ _ (fresh σ x (gv K "Vector") d []) _ _
 refine STS.conv ?_
 k_lt w
 exact ⟨_, Cv.vec hne, rfl, h x d ⟨hx, hd, hne⟩⟩
theorem ct_integer (hK : KOk K) (ok : c.Ok prog w K n) (hn : 3 ≤ n) {v : V} {sk : SK} {xs : List V} {Q : V → Sig → Prop} (hs : SrcOf σ v sk xs) (hlen : xs.length ≤ 100000) (h : ∀ x d l, σ l = none → Fresh2 (σ.set l (.list xs)) x d → Q (.ref x) (Yj K (σ.set l (.list xs)) x d (.str "integer") (.ref l) .none)) :
 CODE prog w c ρ σ (.ref (gv K "integer")) [v] [] Q := by
 refine en_integer hK ok (by omega) fun c' ok' sc' gl' => ?_
 k_lt w
 refine N_list ok' hs hlen fun l hl => ?_
 k_lt w
 refine mk_Vector1 hK ok' (by omega) fun x d f => ?_
 k_lt w
 exact h x d l hl f
end
section
variable {n : Nat} {c : Cx} {ρ : Loc} {σ : Sig}
theorem ct_get_attr0 (hK : KOk K) (ok : c.Ok prog w K n) (hn : 1 ≤ n) {x l : Addr} {k nm : Str} {xs : List V} {Q : V → Sig → Prop} (hv : Vec K σ x k l xs .none) (h : Q .none σ) : CODE prog w c ρ σ (.ref (gv K "get_attr")) [.ref x, .str nm] [] Q := by
 refine en_get_attr hK ok hn fun c' ok' sc' gl' => ?_
 k_lt w
 exact h
theorem ct_get_attr (hK : KOk K) (ok : c.Ok prog w K n) (hn : 1 ≤ n) {x l a : Addr} {k nm : Str} {xs : List V} {g : List (Str × V)} {Q : V → Sig → Prop} (hv : Vec K σ x k l xs (.ref a)) (ha : σ a = some (.dicS g)) {o : Option V} (hd : dlook g nm = o) (h : Q (o.getD .none) σ) : CODE prog w c ρ σ (.ref (gv K "get_attr")) [.ref x, .str nm] [] Q := by
 refine en_get_attr hK ok hn fun c' ok' sc' gl' => ?_
 k_lt w
 exact h
theorem ct_dim_of0 (hK : KOk K) (ok : c.Ok prog w K n) (hn : 2 ≤ n) {x l : Addr} {k : Str} {xs : List V} {Q : V → Sig → Prop} (hv : Vec K σ x k l xs .none) (h : Q .none σ) : CODE prog w c ρ σ (.ref (gv K "dim_of")) [.ref x] [] Q := by
 refine en_dim_of hK ok (by omega) fun c' ok' sc' gl' => ?_
 k_lt w
 refine Yb (ct_get_attr0 hK ok' (by omega) hv ?_)
 k_lt w
 exact h
theorem ct_dim_of1 (hK : KOk K) (ok : c.Ok prog w K n) (hn : 2 ≤ n) {x l a : Addr} {k : Str} {xs : List V} {g : List (Str × V)} {Q : V → Sig → Prop} (hv : Vec K σ x k l xs (.ref a)) (ha : σ a = some (.dicS g)) (hd : dlook g "dim" = none) (h : Q .none σ) : CODE prog w c ρ σ (.ref (gv K "dim_of")) [.ref x] [] Q := by
 refine en_dim_of hK ok (by omega) fun c' ok' sc' gl' => ?_
 k_lt w
 refine Yb (ct_get_attr hK ok' (by omega) hv ha hd ?_)
 k_lt w
 try rw [Option.getD_none]
 k_lt w
 exact h
theorem ct_class_attr0 (hK : KOk K) (ok : c.Ok prog w K n) (hn : 2 ≤ n) {x l : Addr} {k : Str} {xs : List V} {Q : V → Sig → Prop} (hv : Vec K σ x k l xs .none) (h : ∀ m, σ m = none → Q (.ref m) (σ.set m (.list []))) : CODE prog w c ρ σ (.ref (gv K "class_attr")) [.ref x] [] Q := by
 refine en_class_attr hK ok (by omega) fun c' ok' sc' gl' => ?_
 k_lt w
 refine Yb (ct_get_attr0 hK ok' (by omega) hv ?_)
 k_lt w
 refine fun m hm => ?_
 k_lt w
 exact h m hm
theorem ct_class_attr (hK : KOk K) (ok : c.Ok prog w K n) (hn : 2 ≤ n) {x l a y l2 : Addr} {k k2 : Str} {xs ys : List V} {g : List (Str × V)} {a2 : V} {Q : V → Sig → Prop} (hv : Vec K σ x k l xs (.ref a)) (ha : σ a = some (.dicS g)) (hd : dlook g "class" = some (.ref y)) (hy : Vec K σ y k2 l2 ys a2) (hlen : ys.length ≤ 100000)
 (h : ∀ m, σ m = none → Q (.ref m) (σ.set m (.list ys))) : CODE prog w c ρ σ (.ref (gv K "class_attr")) [.ref x] [] Q := by
 refine en_class_attr hK ok (by omega) fun c' ok' sc' gl' => ?_
 k_lt w
 refine Yb (ct_get_attr hK ok' (by omega) hv ha hd ?_)
 k_lt w
 try rw [Option.getD_some]
 k_lt w
 refine N_list ok' (k := .list _) ⟨rfl, hy.list⟩ hlen fun m hm => ?_
 k_lt w
 exact h m hm
end
section
variable {n : Nat} {c : Cx} {ρ : Loc} {σ : Sig}
theorem ct_frame_rows (hK : KOk K) (ok : c.Ok prog w K n) (hn : 1 ≤ n) {x l a nx nl cx cl rx rl : Addr} {vs : List V} {cols : List (Str × List V)} {names : List V} {mk : Str} {marks : List V} {Q : V → Sig → Prop} (hF : Frm K σ x l a nx nl cx cl rx rl vs cols names mk marks)
 (h : Q (.int marks.length) σ) : CODE prog w c ρ σ (.ref (gv K "frame_rows")) [.ref x] [] Q := by
 have h1 := hF.self; have h2 := hF.at'; have h3 := hF.rn; have h4 := h3.list; have h5 := hF.high
 refine en_frame_rows hK ok (by omega) fun c' ok' sc' gl' => ?_
 k_lt w
 exact h
theorem ct_names_of0 (hK : KOk K) (ok : c.Ok prog w K n) (hn : 3 ≤ n) {x l : Addr} {k : Str} {xs : List V} {Q : V → Sig → Prop} (hv : Vec K σ x k l xs .none) (hk1 : k ≠ "language") (hk2 : k ≠ "environment") (h : Q .none σ) : CODE prog w c ρ σ (.ref (gv K "names_of")) [.ref x] [] Q := by
 refine en_names_of hK ok (by omega) fun c' ok' sc' gl' => ?_
 k_lt w
 refine Yb (ct_dim_of0 hK ok' (by omega) hv ?_)
 k_lt w
 refine Yb (ct_get_attr0 hK ok' (by omega) hv ?_)
 k_lt w
 exact h
theorem ct_names_of (hK : KOk K) (ok : c.Ok prog w K n) (hn : 3 ≤ n) {x l a nx nl cx cl rx rl : Addr} {vs : List V} {cols : List (Str × List V)} {names : List V} {mk : Str} {marks : List V} {Q : V → Sig → Prop} (hF : Frm K σ x l a nx nl cx cl rx rl vs cols names mk marks)
 (h : ∀ m, σ m = none → Q (.ref m) (σ.set m (.list names))) : CODE prog w c ρ σ (.ref (gv K "names_of")) [.ref x] [] Q := by
 have h1 := hF.self; have h2 := hF.at'; have h3 := hF.nm
 have h4 : names.length ≤ 100000 := by have := hF.nlen; have := hF.wide; omega
 refine en_names_of hK ok (by omega) fun c' ok' sc' gl' => ?_
 k_lt w
 refine Yb (ct_dim_of1 hK ok' (by omega) h1 h2 (by k_lt dl) ?_)
 k_lt w
 refine Yb (ct_get_attr hK ok' (by omega) h1 h2 (o := some (.ref nx)) (by k_lt dl) ?_)
 k_lt w
 try rw [Option.getD_some]
 k_lt w
 refine N_list ok' (k := .list _) ⟨rfl, h3.list⟩ h4 fun m hm => ?_
 k_lt w
 exact h m hm
end
section
variable {n : Nat} {c : Cx} {ρ : Loc} {σ : Sig}
theorem ct_label_text (hK : KOk K) (ok : c.Ok prog w K n) (hn : 1 ≤ n) {k : Str} {v : V} {Q : V → Sig → Prop} (hv : LabOk k v) (h : Q (lab k v) σ) : CODE prog w c ρ σ (.ref (gv K "label_text")) [.str k, v] [] Q := by
 rcases hv with ⟨rfl, s, rfl⟩ | ⟨rfl, i, rfl, hi⟩
 · refine en_label_text hK ok (by omega) fun c' ok' sc' gl' => ?_
   k_lt w
   exact h
 · refine en_label_text hK ok (by omega) fun c' ok' sc' gl' => ?_
   k_lt w
   refine S_str hi ?_
   k_lt w
   exact h
theorem ct_label_texts (hK : KOk K) (ok : c.Ok prog w K n) (hn : 3 ≤ n) {x l : Addr} {k : Str} {xs : List V} {Q : V → Sig → Prop} (hv : Vec K σ x k l xs .none) (hl : ∀ v ∈ xs, LabOk k v) (hlen : xs.length ≤ 1000) (h : ∀ m, σ m = none → Q (.ref m) (σ.set m (.list (xs.map (lab k))))) :
 CODE prog w c ρ σ (.ref (gv K "label_texts")) [.ref x] [] Q := by
 refine en_label_texts hK ok (by omega) fun c' ok' sc' gl' => ?_
 k_lt w
 refine Yb (ct_get_attr0 hK ok' (by omega) hv ?_)
 k_lt w
 refine R_ex <| X_comp ok' [("value", .ref x)] [("label_text", .ref (gv K "label_text"))] (compAt (by k_lt co) (by k_lt cp) (by k_lt gs)) ?_ (hs := fun _ => rfl)
 k_lt w
 refine ⟨.list l, xs, fun i ys σ' => ys = (xs.take i).map (lab k) ∧ σ' = σ, ⟨rfl, hv.list⟩, Yk (by omega), ⟨rfl, rfl⟩, ⟨?_, ?_⟩, ?_⟩
 · rintro i ys σ' ⟨_, rfl⟩; exact hv.list
 · rintro c2 i v ys σ' ok2 gl2 k1 k2 hx ⟨rfl, rfl⟩
   refine Yt ?_
   k_lt w
   refine Yb (ct_label_text hK ok2 (by omega) (hl v (List.mem_of_getElem? hx)) ?_)
   k_lt w
   exact ⟨by rw [List.take_add_one, hx]; simp, rfl⟩
 · rintro D ys σ' ⟨rfl, rfl⟩ hD
   k_lt w
   try rw [List.take_length]
   exact h D hD
theorem ct_row_names (hK : KOk K) (ok : c.Ok prog w K n) (hn : 4 ≤ n) {x l a nx nl cx cl rx rl : Addr} {vs : List V} {cols : List (Str × List V)} {names : List V} {mk : Str} {marks : List V} {Q : V → Sig → Prop} (hF : Frm K σ x l a nx nl cx cl rx rl vs cols names mk marks) (hl : ∀ v ∈ marks, LabOk mk v) (h0 : marks ≠ [])
 (h : ∀ m, σ m = none → Q (.ref m) (σ.set m (.list (marks.map (lab mk))))) : CODE prog w c ρ σ (.ref (gv K "row_names")) [.ref x] [] Q := by
 have h1 := hF.self; have h2 := hF.at'; have h3 := hF.rn
 have hne : (marks.length : Int) ≠ 0 := by
  intro e; exact h0 (List.length_eq_zero_iff.mp (by omega))
 refine en_row_names hK ok (by omega) fun c' ok' sc' gl' => ?_
 k_lt w
 refine Yb (ct_frame_rows hK ok' (by omega) hF ?_)
 k_lt w
 refine Yb (ct_label_texts hK ok' (by omega) h3 hl hF.high fun m hm => ?_)
 k_lt w
 exact h m hm
theorem ct_column_names (hK : KOk K) (ok : c.Ok prog w K n) (hn : 4 ≤ n) {x l a nx nl cx cl rx rl : Addr} {vs : List V} {cols : List (Str × List V)} {names : List V} {mk : Str} {marks : List V} {Q : V → Sig → Prop} (hF : Frm K σ x l a nx nl cx cl rx rl vs cols names mk marks) (hs : ∀ v ∈ names, ∃ s, v = .str s)
 (h : ∀ m σ', Le σ σ' → σ m = none → σ' m = some (.list names) → Q (.ref m) σ') : CODE prog w c ρ σ (.ref (gv K "column_names")) [.ref x] [] Q := by
 have hlen : names.length ≤ 1000 := by have := hF.nlen; have := hF.wide; omega
 refine en_column_names hK ok (by omega) fun c' ok' sc' gl' => ?_
 k_lt w
 refine Yb (ct_names_of hK ok' (by omega) hF fun p hp => ?_)
 k_lt w
 refine R_ex <| X_comp ok' [] [] (compAt (by k_lt co) (by k_lt cp) (by k_lt gs)) ?_ (hs := fun _ => rfl)
 k_lt w
 refine ⟨.list p, names, fun i ys σ' => ys = names.take i ∧ σ' = σ.set p (.list names), ⟨rfl, Ya⟩, Yk (by omega), ⟨rfl, rfl⟩, ⟨?_, ?_⟩, ?_⟩
 · rintro i ys σ' ⟨_, rfl⟩; exact Ya
 · rintro c2 i v ys σ' ok2 gl2 k1 k2 hx ⟨rfl, rfl⟩
   obtain ⟨s, rfl⟩ := hs v (List.mem_of_getElem? hx)
   refine Yt ?_
   k_lt w
   exact ⟨by rw [List.take_add_one, hx]; rfl, rfl⟩
 · rintro D ys σ' ⟨rfl, rfl⟩ hD
   k_lt w
   try rw [List.take_length]
   refine h D _ ((Yc hp).trans (Yc hD)) ?_ Ya
   by_cases q : D = p
   · subst q; exact hp
   · rw [Yd q] at hD; exact hD
end
section
variable {n : Nat} {c : Cx} {ρ : Loc} {σ : Sig}
theorem ct_character (hK : KOk K) (ok : c.Ok prog w K n) (hn : 3 ≤ n) {v : V} {sk : SK} {xs : List V} {Q : V → Sig → Prop} (hs : SrcOf σ v sk xs) (hlen : xs.length ≤ 100000) (h : ∀ x d l, σ l = none → Fresh2 (σ.set l (.list xs)) x d → Q (.ref x) (Yj K (σ.set l (.list xs)) x d (.str "character") (.ref l) .none)) :
 CODE prog w c ρ σ (.ref (gv K "character")) [v] [] Q := by
 refine en_character hK ok (by omega) fun c' ok' sc' gl' => ?_
 k_lt w
 refine N_list ok' hs hlen fun l hl => ?_
 k_lt w
 refine mk_Vector1 hK ok' (by omega) fun x d f => ?_
 k_lt w
 exact h x d l hl f
theorem ct_logical (hK : KOk K) (ok : c.Ok prog w K n) (hn : 3 ≤ n) {v : V} {sk : SK} {xs : List V} {Q : V → Sig → Prop} (hs : SrcOf σ v sk xs) (hlen : xs.length ≤ 100000) (h : ∀ x d l, σ l = none → Fresh2 (σ.set l (.list xs)) x d → Q (.ref x) (Yj K (σ.set l (.list xs)) x d (.str "logical") (.ref l) .none)) :
 CODE prog w c ρ σ (.ref (gv K "logical")) [v] [] Q := by
 refine en_logical hK ok (by omega) fun c' ok' sc' gl' => ?_
 k_lt w
 refine N_list ok' hs hlen fun l hl => ?_
 k_lt w
 refine mk_Vector1 hK ok' (by omega) fun x d f => ?_
 k_lt w
 exact h x d l hl f
theorem Yh {x d l : Addr} {k : Str} {xs : List V} {a : V} (hl : σ l = none) (f : Fresh2 (σ.set l (.list xs)) x d) : Le σ (Yj K (σ.set l (.list xs)) x d (.str k) (.ref l) a) ∧ Vec K (Yj K (σ.set l (.list xs)) x d (.str k) (.ref l) a) x k l xs a :=
 ⟨(Yc hl).trans (newVec_le f), newVec_vec f Ya⟩
theorem ct_new_frame (hK : KOk K) (ok : c.Ok prog w K n) (hn : 4 ≤ n) {vc vn : V} {skc skn : SK} {rx rl : Addr} {vs : List V} {cols : List (Str × List V)} {names : List V} {mk : Str} {marks : List V} {Q : V → Sig → Prop}
 (hc : SrcOf σ vc skc vs) (hcs : Cols K σ vs cols) (hnm : SrcOf σ vn skn names) (hr : Vec K σ rx mk rl marks .none) (wide : vs.length ≤ 1000) (high : marks.length ≤ 1000) (nlen : names.length = vs.length) (clen : ∀ p ∈ cols, p.2.length = marks.length)
 (h : ∀ x l a nx nl cx cl σ', Le σ σ' → Frm K σ' x l a nx nl cx cl rx rl vs cols names mk marks → Q (.ref x) σ') : CODE prog w c ρ σ (.ref (gv K "new_frame")) [vc, vn, .ref rx] [] Q := by
 refine en_new_frame hK ok (by omega) fun c' ok' sc' gl' => ?_
 k_lt w
 refine R_ex <| X_comp ok' [] [("share", .ref (gv K "share"))] (compAt (by k_lt co) (by k_lt cp) (by k_lt gs)) ?_ (hs := fun _ => rfl)
 k_lt w
 refine ⟨skc, vs, fun i ys σ' => ys = vs.take i ∧ σ' = σ, hc, Yk (by omega), ⟨rfl, rfl⟩, ⟨?_, ?_⟩, ?_⟩
 · rintro i ys σ' ⟨_, rfl⟩; exact hc.src
 · rintro c2 i v ys σ' ok2 gl2 k1 k2 hx ⟨rfl, rfl⟩
   refine (ex4 fun y ly k xs => an3 ?_) (hcs.get hx); rintro rfl; intro _ hv
   refine Yt ?_
   k_lt w
   refine Yb (ct_share hK ok2 (by omega) hv ?_)
   k_lt w
   exact ⟨by rw [List.take_add_one, hx]; rfl, rfl⟩
 rintro D ys σ' ⟨rfl, rfl⟩ hD
 rw [List.take_length]
 k_lt w
 refine mk_Vector1 hK ok' (by omega) fun x d f => ?_
 k_lt w
 obtain ⟨le0, hx, hd, hD1⟩ : Le σ' (Yj K (σ'.set D (AObj.list vs)) x d (V.str "list") (V.ref D) V.none) ∧ Yj K (σ'.set D (AObj.list vs)) x d (V.str "list") (V.ref D) V.none x = some (.inst (gv K "Vector") d) ∧ Yj K (σ'.set D (AObj.list vs)) x d (V.str "list") (V.ref D) V.none d = some (.vecd (.str "list") (.ref D) .none) ∧ Yj K (σ'.set D (AObj.list vs)) x d (V.str "list") (V.ref D) V.none D = some (.list vs) := by
  refine ⟨(Yc hD).trans (newVec_le f), Ya, ?_, newVec_le f _ _ Ya⟩
  unfold Yj
  rw [Yd (Ne.symm f.ne), Ya]
 have hd0 : σ' d = none := by
  have := f.fd
  by_cases q : d = D
  · subst q; exact hD
  · rw [Yd q] at this; exact this
 generalize Yj K (σ'.set D (AObj.list vs)) x d (V.str "list") (V.ref D) V.none = σm at le0 hx hd hD1 ⊢
 k_lt w
 refine R_ex <| X_dict ok' [("names", _, _), ("class", _, _), ("row.names", _, _)] rfl rfl (by simp) (by simp) (by simp only [List.map_cons, List.map_nil]; decide +kernel) (fun c2 S2 ok2 => ?_) (by rfl)
 have gl2 := S2.gl.trans gl'
 k_lt w
 refine Yb (ct_character hK ok2 (by omega) (hnm.mono le0) (by omega) fun nx dn nl hnl fn => ?_)
 obtain ⟨le1, v1⟩ := Yh (k := "character") (a := .none) hnl fn
 generalize Yj K (σm.set nl (AObj.list names)) nx dn (V.str "character") (V.ref nl) V.none = σ2 at le1 v1 ⊢
 k_lt w
 refine fun p hp => ?_
 k_lt w
 refine Yb (ct_character hK ok2 (by omega) (sk := .list p) ⟨rfl, Ya⟩ (by simp) fun cx dc cl hcl fc => ?_)
 obtain ⟨le2, v2⟩ := Yh (k := "character") (a := .none) hcl fc
 have le2 := (Yc hp).trans le2
 generalize Yj K ((σ2.set p (AObj.list [V.str "data.frame"])).set cl (AObj.list [V.str "data.frame"])) cx dc (V.str "character") (V.ref cl) V.none = σ3 at le2 v2 ⊢
 k_lt w
 intro a ha
 have le3 : Le σm (σ3.set a (.dicS [("names", .ref nx), ("class", .ref cx), ("row.names", .ref rx)])) := (le1.trans le2).trans (Yc ha)
 show RUN _ _ _ _ _ (σ3.set a (.dicS [("names", .ref nx), ("class", .ref cx), ("row.names", .ref rx)]))
 k_lt w
 refine V_setAttrs hK ok' (le3 _ _ hx) (le3 _ _ hd) ?_
 k_lt w
 have leF : Le σ' ((σ3.set a (.dicS [("names", .ref nx), ("class", .ref cx), ("row.names", .ref rx)])).set d (.vecd (.str "list") (.ref D) (.ref a))) := (le0.trans le3).setD hd0
 have hdF := le3 _ _ hd
 have ne1 : x ≠ d := by rintro rfl; rw [hx] at hd; cases hd
 have ne2 : D ≠ d := by rintro rfl; rw [hD1] at hd; cases hd
 have ne3 : a ≠ d := by rintro rfl; rw [(le1.trans le2) _ _ hd] at ha; cases ha
 refine h x D a nx nl cx cl _ leF ⟨⟨d, ?_, Ya, ?_⟩, ?_, ?_, ?_, hr.mono leF, hcs.mono leF, wide, high, nlen, clen⟩
 · rw [Yd ne1]; exact le3 _ _ hx
 · rw [Yd ne2]; exact le3 _ _ hD1
 · rw [Yd ne3, Ya]
 · exact (v1.mono (le2.trans (Yc ha))).other hdF (by decide +kernel)
 · exact (v2.mono (Yc ha)).other hdF (by decide +kernel)
end
section
variable {n : Nat} {c : Cx} {ρ : Loc} {σ : Sig}
theorem ct_kept_attrs (hK : KOk K) (ok : c.Ok prog w K n) (hn : 1 ≤ n) {x l : Addr} {k : Str} {xs : List V} {Q : V → Sig → Prop} (hv : Vec K σ x k l xs .none) (h : Q .none σ) : CODE prog w c ρ σ (.ref (gv K "kept_attrs")) [.ref x] [] Q := by
 refine en_kept_attrs hK ok (by omega) fun c' ok' sc' gl' => ?_
 k_lt w
 exact h
theorem ct_pick_items (hK : KOk K) (ok : c.Ok prog w K n) (hn : 3 ≤ n) {x l pl : Addr} {k : Str} {xs : List V} {ps : List Nat} {Q : V → Sig → Prop} (hv : Vec K σ x k l xs .none) (hp : σ pl = some (.list (nats ps))) (hps : ∀ p ∈ ps, p < xs.length) (hl1 : xs.length ≤ 1000) (hl2 : ps.length ≤ 1000)
 (h : ∀ y ly σ', Le σ σ' → Vec K σ' y k ly (pickL xs ps) .none → Q (.ref y) σ') : CODE prog w c ρ σ (.ref (gv K "pick_items")) [.ref x, .ref pl] [] Q := by
 refine en_pick_items hK ok (by omega) fun c' ok' sc' gl' => ?_
 have hx := hv.list
 k_lt w
 refine fun it hit => ?_
 k_lt w
 have hx2 := (hv.mono (Yc (o := .list []) hit)).list
 k_lt w
 refine S_for ok' ?_ (hs := fun _ => rfl)
 k_lt w
 have lej : ∀ ys, Le σ (σ.set it (.list ys)) := fun ys => Yc hit
 refine ⟨.list pl, nats ps, fun i ρ' σ' => ∃ o, ρ' = ([("column", some (.ref x)), ("places", some (.ref pl)), ("items", some (.ref it)), ("count", some (.int xs.length)), ("place", o)] : List (Str × Option V)) ∧ σ' = σ.set it (.list (pickL xs (ps.take i))), ⟨rfl, lej _ _ _ hp⟩, jv1 _ rfl rfl, ⟨?_, ?_, ?_⟩⟩
 · rintro i ρ' σ' ⟨o, _, rfl⟩; exact lej _ _ _ hp
 · intro c2 i v ρ' σ' S2 ok2 hi; apply iv1; intro o; rintro rfl
   obtain ⟨p, h1, rfl⟩ := nats_get hi
   have gl2 := S2.gl.trans gl'
   have hlt := hps p (List.mem_of_getElem? h1)
   have hv2 := hv.mono (lej (pickL xs (ps.take i)))
   have hi2 : (σ.set it (.list (pickL xs (ps.take i)))) it = some (.list (pickL xs (ps.take i))) := Ya
   have hln : (pickL xs (ps.take i)).length ≤ 100000 := by simp [pickL]; omega
   refine G_name ok2 (by k_lt sv) ?_
   k_lt w
   refine SB_list hv2.list (by omega) (by omega) (getD_get hlt) ?_
   k_lt w
   refine jv1 _ rfl ?_
   rw [Sig.set_set, pickL_snoc h1]
 · intro ρ' σ'; apply iv1; intro o; rintro rfl
   rw [Yi, List.take_length]
   have hv2 := hv.mono (lej (pickL xs ps))
   k_lt w
   refine Yb (ct_kept_attrs hK ok' (by omega) hv2 ?_)
   k_lt w
   refine mk_Vector hK ok' (by omega) fun y d f => ?_
   k_lt w
   exact h y it _ ((lej _).trans (newVec_le f)) (newVec_vec f Ya)
end
section
variable {n : Nat} {c : Cx} {ρ : Loc} {σ : Sig}
theorem ct_is_frame (hK : KOk K) (ok : c.Ok prog w K n) (hn : 4 ≤ n) {x l a nx nl cx cl rx rl : Addr} {vs : List V} {cols : List (Str × List V)} {names : List V} {mk : Str} {marks : List V} {Q : V → Sig → Prop} (hF : Frm K σ x l a nx nl cx cl rx rl vs cols names mk marks)
 (h : Q (.bool true) σ) : CODE prog w c ρ σ (.ref (gv K "is_frame")) [.ref x] [] Q := by
 have h1 := hF.self; have h2 := hF.at'; have h3 := hF.cl; have hw := hF.wide; have hnl := hF.nlen; have hhi := hF.high
 refine CODE.drop (en_is_frame hK ok (by omega) fun c' ok' sc' gl' => ?_)
 k_lt w
 refine Yb (ct_class_attr hK ok' (by omega) h1 h2 (by k_lt dl) h3 (by simp) fun m hm => ?_)
 have le1 : Le σ (σ.set m (.list [.str "data.frame"])) := Yc hm
 k_lt w
 refine C_ninL ok' Ya (by decide +kernel) (by intro y hy; rcases List.mem_singleton.mp hy with rfl; decide +kernel) ?_
 generalize σ.set m (.list [.str "data.frame"]) = σ1 at le1 ⊢
 have hF1 := hF.mono le1
 have h1 := hF1.self; have h2 := hF1.at'
 k_lt w
 refine Yb (ct_names_of hK ok' (by omega) hF1 fun p hp => ?_)
 have le2 : Le σ1 (σ1.set p (.list names)) := Yc hp
 have hp2 : (σ1.set p (.list names)) p = some (.list names) := Ya
 generalize σ1.set p (.list names) = σ2 at le2 hp2 ⊢
 have le := le1.trans le2
 have hF2 := hF.mono le
 have h1 := hF2.self; have h2 := hF2.at'; have h4 := h1.list
 k_lt w
 by_cases hz : (vs.length : Int) > 0
 all_goals
  k_lt w
  refine S_for ok' ?_ (hs := fun _ => rfl)
  k_lt w
  refine ⟨.list l, vs, fun i ρ' σ' => ∃ o, ρ' = ([("v", some (.ref x)), ("names", some (.ref p)), ("column", o)] : List (Str × Option V)) ∧ σ' = σ2, ⟨rfl, h4⟩, jv1 _ rfl rfl, ⟨?_, ?_, ?_⟩⟩
  · rintro i ρ' σ' ⟨o, _, rfl⟩; exact h4
  · intro c2 i v ρ' σ' S2 ok2 hi; apply iv1; intro o; rintro rfl
    refine (ex4 fun y ly k xs => an3 ?_) (hF2.cs.get hi); rintro rfl; intro hc hv
    have gl2 := S2.gl.trans gl'
    have hlen := hF2.clen _ (List.mem_of_getElem? hc)
    dsimp only at hlen
    have hyl := hv.list
    refine G_name ok2 (by k_lt sv) ?_
    k_lt w
    refine Yb (ct_is_vector hK ok2 (by omega) hv ?_)
    k_lt w
    refine Yb (ct_frame_rows hK ok2 (by omega) hF2 ?_)
    k_lt w
    exact jv1 _ rfl rfl
  · intro ρ' σ'; apply iv1; intro o; rintro rfl
    k_lt w
    exact ⟨σ, le, h⟩
end
section
variable {n : Nat} {c : Cx} {ρ : Loc} {σ : Sig}
theorem ct_first_frame (hK : KOk K) (ok : c.Ok prog w K n) (hn : 5 ≤ n) {x l a nx nl cx cl rx rl al ti : Addr} {vs : List V} {cols : List (Str × List V)} {names : List V} {mk : Str} {marks : List V} {tag : V} {rest : List V} {Q : V → Sig → Prop} (hF : Frm K σ x l a nx nl cx cl rx rl vs cols names mk marks)
 (ha : σ al = some (.list (.ref ti :: rest))) (ht : σ ti = some (.tup [tag, .ref x])) (hlen : rest.length ≤ 1000) (h : Q (.ref x) σ) : CODE prog w c ρ σ (.ref (gv K "first_frame")) [.ref al] [] Q := by
 refine en_first_frame hK ok (by omega) fun c' ok' sc' gl' => ?_
 k_lt w
 try refine SB_list ha (by omega) (by omega) rfl ?_
 k_lt w
 try refine SB_tup ht (by omega) (by omega) rfl ?_
 k_lt w
 refine Yb (ct_is_frame hK ok' (by omega) hF ?_)
 k_lt w
 try refine SB_list ha (by omega) (by omega) rfl ?_
 k_lt w
 try refine SB_tup ht (by omega) (by omega) rfl ?_
 k_lt w
 exact h
theorem ct_is_absent (hK : KOk K) (ok : c.Ok prog w K n) (hn : 1 ≤ n) {x l : Addr} {k : Str} {xs : List V} {a : V} {Q : V → Sig → Prop} (hv : Vec K σ x k l xs a) (hk : k ≠ "missing") (h : Q (.bool false) σ) : CODE prog w c ρ σ (.ref (gv K "is_absent")) [.ref x] [] Q := by
 refine en_is_absent hK ok (by omega) fun c' ok' sc' gl' => ?_
 k_lt w
 try rw [decide_eq_false hk]
 exact h
theorem ct_is_absent0 (hK : KOk K) (ok : c.Ok prog w K n) (hn : 1 ≤ n) {Q : V → Sig → Prop} (h : Q (.bool true) σ) : CODE prog w c ρ σ (.ref (gv K "is_absent")) [.none] [] Q := by
 refine en_is_absent hK ok (by omega) fun c' ok' sc' gl' => ?_
 k_lt w
 exact h
theorem ct_picked_labels (hK : KOk K) (ok : c.Ok prog w K n) (hn : 3 ≤ n) {x l a nx nl cx cl rx rl pl : Addr} {vs : List V} {cols : List (Str × List V)} {names : List V} {mk : Str} {marks : List V} {ps : List Nat} {Q : V → Sig → Prop} (hF : Frm K σ x l a nx nl cx cl rx rl vs cols names mk marks)
 (hp : σ pl = some (.list (nats ps))) (hps : ∀ p ∈ ps, p < marks.length) (hl2 : ps.length ≤ 1000) (hnd : ps.Nodup)
 (h : ∀ y ly σ', Le σ σ' → Vec K σ' y mk ly (pickL marks ps) .none → Q (.ref y) σ') : CODE prog w c ρ σ (.ref (gv K "picked_labels")) [.ref x, .ref pl] [] Q := by
 have h1 := hF.self; have h2 := hF.at'; have h3 := hF.rn; have h4 := h3.list; have hhi := hF.high
 refine en_picked_labels hK ok (by omega) fun c' ok' sc' gl' => ?_
 k_lt w
 refine R_ex <| X_dict0 ok' (.dicI []) (.inr rfl) fun sd hsd => ?_
 have lej : ∀ g, Le σ (σ.set sd (.dicI g)) := fun g => Yc hsd
 k_lt S
 k_lt N
 k_lt C
 k_lt st
 k_lt ex
 k_lt S
 k_lt N
 k_lt C
 refine S_for ok' ?_ (hs := fun _ => rfl)
 k_lt w
 refine ⟨.list pl, nats ps, fun i ρ' σ' => ∃ o g, ρ' = ([("df", some (.ref x)), ("places", some (.ref pl)), ("labels", some (.ref rx)), ("count", some (.int marks.length)), ("seen", some (.ref sd)), ("lacks", some (.bool false)), ("place", o), ("texts", none), ("found", none)] : List (Str × Option V)) ∧ σ' = σ.set sd (.dicI g) ∧ g.length ≤ i ∧ ∀ k, (dlook g k).isSome = true → ∃ p ∈ ps.take i, k = ((p : Nat) : Int),
  ⟨rfl, lej _ _ _ hp⟩, jv2 _ _ rfl ⟨rfl, by simp, by simp [dlook]⟩, ⟨?_, ?_, ?_⟩⟩
 · refine fun i ρ' σ' => ex2 fun o g => an3 fun _ => ?_; rintro rfl; intro _; exact lej _ _ _ hp
 · intro c2 i v ρ' σ' S2 ok2 hi; apply iv2; refine fun o g => an3 ?_; rintro rfl; intro hg hk
   obtain ⟨p, hp1, rfl⟩ := nats_get hi
   have hlt := hps p (List.mem_of_getElem? hp1)
   have hpi : i < ps.length := (List.getElem?_eq_some_iff.mp hp1).1
   have hno : (dlook g ((p : Nat) : Int)).isSome = false := by
    rw [Bool.eq_false_iff]
    intro hs
    obtain ⟨q, hq, e⟩ := hk _ hs
    obtain rfl : p = q := by omega
    obtain ⟨j, hj, ej⟩ := List.mem_iff_getElem.mp hq
    rw [List.length_take] at hj
    rw [List.getElem_take] at ej
    have := (List.getElem?_inj (by omega) hnd).mp ((List.getElem?_eq_getElem (by omega : j < ps.length)).trans ((congrArg some ej).trans hp1.symm))
    omega
   have hsg : (σ.set sd (.dicI g)) sd = some (.dicI g) := Ya
   refine G_name ok2 (by k_lt sv) ?_
   k_lt w
   refine C_inI ok2 hsg ?_
   k_lt w
   try rw [hno]
   k_lt w
   refine I_dicI hsg (by omega) ?_
   k_lt w
   refine jv2 _ _ rfl ⟨Sig.set_set, Nat.le_trans (dput_len _ _ _) (by omega), fun k hs => ?_⟩
   rw [dlook_put] at hs
   rw [List.take_add_one, hp1]
   by_cases q : k = ((p : Nat) : Int)
   · exact ⟨p, by simp, q⟩
   · rw [if_neg q] at hs
     obtain ⟨r, hr, e⟩ := hk k hs
     exact ⟨r, List.mem_append_left _ hr, e⟩
 · intro ρ' σ'; apply iv2; refine fun o g => an3 ?_; rintro rfl; intro hg hk
   have h3 := h3.mono (lej g)
   k_lt w
   refine R_ex <| X_comp ok' [("labels", .ref rx)] [] (compAt (by k_lt co) (by k_lt cp) (by k_lt gs)) ?_ (hs := fun _ => rfl)
   k_lt w
   refine ⟨.list pl, nats ps, fun i ys σ' => ys = pickL marks (ps.take i) ∧ σ' = σ.set sd (.dicI g), ⟨rfl, lej _ _ _ hp⟩, Yk (by rw [Yi]; omega), ⟨rfl, rfl⟩, ⟨?_, ?_⟩, ?_⟩
   · rintro i ys σ' ⟨_, rfl⟩; exact lej _ _ _ hp
   · rintro c2 i v ys σ' ok2 gl2 k1 k2 hx ⟨rfl, rfl⟩
     obtain ⟨p, hp1, rfl⟩ := nats_get hx
     have hlt := hps p (List.mem_of_getElem? hp1)
     refine Yt ?_
     k_lt w
     refine SB_list h3.list (by omega) (by omega) (getD_get hlt) ?_
     k_lt w
     exact ⟨(pickL_snoc hp1).symm, rfl⟩
   · rintro D ys σ' ⟨rfl, rfl⟩ hD
     rw [Yi, List.take_length]
     k_lt w
     refine mk_Vector1 hK ok' (by omega) fun y d f => ?_
     k_lt w
     exact h y D _ (((lej g).trans (Yc hD)).trans (newVec_le f)) (newVec_vec f Ya)
end
section
variable {n : Nat} {c : Cx} {ρ : Loc} {σ : Sig}
theorem pickL_len {xs : List V} {ps : List Nat} : (pickL xs ps).length = ps.length := by simp [pickL]
theorem ct_pick_rows (hK : KOk K) (ok : c.Ok prog w K n) (hn : 6 ≤ n) {x l a nx nl cx cl rx rl pl : Addr} {vs : List V} {cols : List (Str × List V)} {names : List V} {mk : Str} {marks : List V} {ps : List Nat} {Q : V → Sig → Prop} (hF : Frm K σ x l a nx nl cx cl rx rl vs cols names mk marks) (hs : ∀ v ∈ names, ∃ s, v = .str s)
 (hp : σ pl = some (.list (nats ps))) (hps : ∀ p ∈ ps, p < marks.length) (hl2 : ps.length ≤ 1000) (hnd : ps.Nodup)
 (h : ∀ y l a nx nl cx cl rx rl ws σ', Le σ σ' → Frm K σ' y l a nx nl cx cl rx rl ws (cols.map fun p => (p.1, pickL p.2 ps)) names mk (pickL marks ps) → Q (.ref y) σ') : CODE prog w c ρ σ (.ref (gv K "pick_rows")) [.ref x, .ref pl] [] Q := by
 have h1 := hF.self; have h4 := h1.list; have hw := hF.wide; have hhi := hF.high
 refine en_pick_rows hK ok (by omega) fun c' ok' sc' gl' => ?_
 k_lt C
 refine R_st <| S_assign_comp ok' [("places", .ref pl)] [("pick_items", .ref (gv K "pick_items"))] (compAt (by k_lt co) (by k_lt cp) (by k_lt gs)) ?_ (swapsT ok' sc' (by decide +kernel)) (hs := fun _ => rfl)
 k_lt w
 refine ⟨.list l, vs, fun i ys σ' => Le σ σ' ∧ Cols K σ' ys ((cols.take i).map fun p => (p.1, pickL p.2 ps)), ⟨rfl, h4⟩, Yk (by omega), ⟨Le.refl, .nil⟩, ⟨?_, ?_⟩, ?_⟩
 · rintro i ys σ' ⟨le, _⟩; exact le _ _ h4
 · rintro c2 i v ys σ' ok2 gl2 k1 k2 hx ⟨le, hc⟩
   refine (ex4 fun y ly k xs => an3 ?_) (hF.cs.get hx); rintro rfl; intro hcx hv
   have hlen := hF.clen _ (List.mem_of_getElem? hcx)
   dsimp only at hlen
   refine Yt ?_
   k_lt w
   refine Yb (ct_pick_items hK ok2 (by omega) (hv.mono le) (le _ _ hp) (fun p hp => by rw [hlen]; exact hps p hp) (by omega) hl2 fun z lz σ2 le2 hz => ?_)
   k_lt w
   refine ⟨le.trans le2, ?_⟩
   rw [List.take_add_one, hcx, List.map_append]
   exact (hc.mono le2).snoc hz
 rintro D ys σ1 ⟨le1, hc⟩ hD
 rw [hF.cs.len, List.take_length] at hc
 k_lt S
 have le1 := le1.trans (Yc (o := .list ys) hD)
 have hc := hc.mono (Yc (o := .list ys) hD)
 have hD1 : (σ1.set D (.list ys)) D = some (.list ys) := Ya
 have hyl : ys.length = vs.length := by rw [hc.len, List.length_map, hF.cs.len]
 generalize σ1.set D (.list ys) = σ2 at le1 hc hD1 ⊢
 k_lt w
 refine Yb (ct_column_names hK ok' (by omega) (hF.mono le1) hs fun m σ3 le3 hm0 hm => ?_)
 k_lt w
 refine Yb (ct_picked_labels hK ok' (by omega) (hF.mono (le1.trans le3)) ((le1.trans le3) _ _ hp) hps hl2 hnd fun y ly σ4 le4 hy => ?_)
 k_lt w
 refine Yb (ct_new_frame hK ok' (by omega) (skc := .list D) (skn := .list m) ⟨rfl, (le3.trans le4) _ _ hD1⟩ (hc.mono (le3.trans le4)) ⟨rfl, le4 _ _ hm⟩ hy (by omega) (by rw [pickL_len]; exact hl2) (by rw [hF.nlen, hyl]) ?_ fun x' l' a' nx' nl' cx' cl' σ5 le5 hF5 => ?_)
 · intro p hp
   obtain ⟨q, _, rfl⟩ := List.mem_map.mp hp
   rw [pickL_len, pickL_len]
 k_lt w
 exact h _ _ _ _ _ _ _ _ _ _ _ (((le1.trans le3).trans le4).trans le5) hF5
end
section
variable {n : Nat} {c : Cx} {ρ : Loc} {σ : Sig}
noncomputable def txs (ss : List Str) : List V := ss.map V.str
theorem txs_get {ss : List Str} {i : Nat} {v : V} (h : (txs ss)[i]? = some v) : ∃ p, ss[i]? = some p ∧ v = .str p := by
 unfold txs at h
 rw [List.getElem?_map, Option.map_eq_some_iff] at h
 obtain ⟨p, h1, h2⟩ := h
 exact ⟨p, h1, h2.symm⟩
theorem Ym {ss : List Str} : (txs ss).length = ss.length := by simp [txs]
theorem ct_make_unique (hK : KOk K) (ok : c.Ok prog w K n) (hn : 1 ≤ n) {vn : V} {sk : SK} {ss : List Str} {sep : Str} {Q : V → Sig → Prop} (hs : SrcOf σ vn sk (txs ss)) (hnd : ss.Nodup) (hl : ss.length ≤ 1000)
 (h : ∀ m σ', Le σ σ' → σ m = none → σ' m = some (.list (txs ss)) → Q (.ref m) σ') : CODE prog w c ρ σ (.ref (gv K "make_unique")) [vn, .str sep] [] Q := by
 refine en_make_unique hK ok (by omega) fun c' ok' sc' gl' => ?_
 k_lt w
 refine R_ex <| X_dict0 ok' (.dicS []) (.inl rfl) fun tk htk => ?_
 have lej : ∀ g, Le σ (σ.set tk (.dicS g)) := fun g => Yc htk
 k_lt S
 k_lt N
 k_lt C
 refine S_for ok' ?_ (hs := fun _ => rfl)
 k_lt w
 refine ⟨sk, txs ss, fun i ρ' σ' => ∃ o g, ρ' = ([("names", some vn), ("sep", some (.str sep)), ("taken", some (.ref tk)), ("name", o), ("seen", none), ("counts", none), ("found", none), ("number", none), ("fresh", none)] : List (Str × Option V)) ∧ σ' = σ.set tk (.dicS g) ∧ g.length ≤ i, hs.mono (lej _), jv2 _ _ rfl ⟨rfl, by simp⟩, ⟨?_, ?_, ?_⟩⟩
 · refine fun i ρ' σ' => ex2 fun o g => an3 fun _ => ?_; rintro rfl; intro _; exact (hs.mono (lej _)).src
 · intro c2 i v ρ' σ' S2 ok2 hi; apply iv2; intro o g; rintro ⟨rfl, hg⟩
   obtain ⟨p, hp1, rfl⟩ := txs_get hi
   have hpi : i < ss.length := (List.getElem?_eq_some_iff.mp hp1).1
   have hsg : (σ.set tk (.dicS g)) tk = some (.dicS g) := Ya
   refine G_name ok2 (by k_lt sv) ?_
   k_lt w
   refine I_dicS hsg (by omega) ?_
   k_lt w
   exact jv2 _ _ rfl ⟨Sig.set_set, Nat.le_trans (dput_len _ _ _) (by omega)⟩
 intro ρ' σ'; apply iv2; intro o g; rintro ⟨rfl, hg⟩
 have le1 := lej g
 have hs := hs.mono le1
 generalize σ.set tk (.dicS g) = σ1 at le1 hs ⊢
 k_lt w
 refine R_ex <| X_dict0 ok' (.dicS []) (.inl rfl) fun sn hsn => ?_
 k_lt S
 k_lt w
 refine R_ex <| X_dict0 ok' (.dicS []) (.inl rfl) fun cn hcn => ?_
 k_lt S
 k_lt w
 refine fun fd hfd => ?_
 have ne1 : cn ≠ sn := by rintro rfl; rw [Ya] at hcn; cases hcn
 have ne2 : fd ≠ sn := by
  rintro rfl
  rw [Yd (Ne.symm ne1), Ya] at hfd; cases hfd
 have ne3 : fd ≠ cn := by rintro rfl; rw [Ya] at hfd; cases hfd
 have hfd1 : σ1 fd = none := by rw [Yd ne3, Yd ne2] at hfd; exact hfd
 have q1 : Le σ1 (((σ1.set sn (.dicS [])).set cn (.dicS [])).set fd (.list [])) := ((Yc hsn).trans (Yc hcn)).trans (Yc hfd)
 have q2 : (((σ1.set sn (.dicS [])).set cn (.dicS [])).set fd (.list [])) sn = some (.dicS []) := by rw [Yd (Ne.symm ne2), Yd (Ne.symm ne1), Ya]
 have q3 : (((σ1.set sn (.dicS [])).set cn (.dicS [])).set fd (.list [])) fd = some (.list []) := Ya
 generalize ((σ1.set sn (.dicS [])).set cn (.dicS [])).set fd (.list []) = σ2 at q1 q2 q3 ⊢
 k_lt S
 k_lt N
 k_lt C
 refine S_for ok' ?_ (hs := fun _ => rfl)
 k_lt w
 refine ⟨sk, txs ss, fun i ρ' σ' => ∃ o g, ρ' = ([("names", some vn), ("sep", some (.str sep)), ("taken", some (.ref tk)), ("name", o), ("seen", some (.ref sn)), ("counts", some (.ref cn)), ("found", some (.ref fd)), ("number", none), ("fresh", none)] : List (Str × Option V)) ∧ Le σ1 σ' ∧ σ' sn = some (.dicS g) ∧ σ' fd = some (.list (txs (ss.take i))) ∧ g.length ≤ i ∧ ∀ k, (dlook g k).isSome = true → k ∈ ss.take i,
  hs.mono q1, jv2 _ _ rfl ⟨q1, q2, q3, by simp, by simp [dlook]⟩, ⟨?_, ?_, ?_⟩⟩
 · refine fun i ρ' σ' => ex2 fun o g => an3 fun _ le _ => ?_; exact (hs.mono le).src
 · intro c2 i v ρ' σ' S2 ok2 hi; apply iv2; refine fun o g => an5 fun le e1 e2 hg hk => ?_
   obtain ⟨p, hp1, rfl⟩ := txs_get hi
   have hpi : i < ss.length := (List.getElem?_eq_some_iff.mp hp1).1
   have hno : (dlook g p).isSome = false := by
    rw [Bool.eq_false_iff]
    intro hs
    obtain ⟨j, hj, ej⟩ := List.mem_iff_getElem.mp (hk _ hs)
    rw [List.length_take] at hj
    rw [List.getElem_take] at ej
    have := (List.getElem?_inj (by omega) hnd).mp ((List.getElem?_eq_getElem (by omega : j < ss.length)).trans ((congrArg some ej).trans hp1.symm))
    omega
   have hln : (txs (ss.take i)).length ≤ 100000 := by rw [Ym, List.length_take]; omega
   refine G_name ok2 (by k_lt sv) ?_
   k_lt w
   refine C_ninS ok2 e1 ?_
   k_lt w
   try rw [hno]
   k_lt w
   refine I_dicS e1 (by omega) ?_
   have e2' : (σ'.set sn (.dicS (dput g p (.bool true)))) fd = some (.list (txs (ss.take i))) := by rw [Yd ne2]; exact e2
   k_lt w
   refine jv2 _ _ rfl ⟨(le.setD hsn).setD hfd1, by rw [Yd (Ne.symm ne2), Ya], ?_, Nat.le_trans (dput_len _ _ _) (by omega), fun k hs => ?_⟩
   · rw [Ya, List.take_add_one, hp1]; simp [txs]
   · rw [dlook_put] at hs
     rw [List.take_add_one, hp1]
     by_cases q : k = p
     · subst q; simp
     · rw [if_neg q] at hs
       exact List.mem_append_left _ (hk k hs)
 · intro ρ' σ'; apply iv2; refine fun o g => an4 fun le e1 e2 _ => ?_
   rw [Ym, List.take_length] at e2
   k_lt w
   refine h fd σ' (le1.trans le) ?_ e2
   cases q : σ fd with
   | none => rfl
   | some z => rw [le1 _ _ q] at hfd1; cases hfd1
end
section
variable {n : Nat} {c : Cx} {ρ : Loc} {σ : Sig}
theorem ct_whole_subscripts (hK : KOk K) (ok : c.Ok prog w K n) (hn : 1 ≤ n) {x l : Addr} {xs : List V} {a : V} {Q : V → Sig → Prop} (hv : Vec K σ x "integer" l xs a) (h : Q (.ref l) σ) : CODE prog w c ρ σ (.ref (gv K "whole_subscripts")) [.ref x] [] Q := by
 refine en_whole_subscripts hK ok (by omega) fun c' ok' sc' gl' => ?_
 k_lt w
 exact h
noncomputable def ups (ps : List Nat) : List V := ps.map fun p => V.int ((p : Nat) + 1)
theorem ups_get {ps : List Nat} {i : Nat} {v : V} (h : (ups ps)[i]? = some v) : ∃ p, ps[i]? = some p ∧ v = .int ((p : Nat) + 1) := by
 unfold ups at h
 rw [List.getElem?_map, Option.map_eq_some_iff] at h
 obtain ⟨p, h1, h2⟩ := h
 exact ⟨p, h1, h2.symm⟩
theorem ups_len {ps : List Nat} : (ups ps).length = ps.length := by simp [ups]
theorem nats_snoc {ps : List Nat} {i p : Nat} (h : ps[i]? = some p) : nats (ps.take (i + 1)) = nats (ps.take i) ++ [.int (p : Nat)] := by
 unfold nats; rw [List.take_add_one, h]; simp
theorem ct_whole_places (hK : KOk K) (ok : c.Ok prog w K n) (hn : 1 ≤ n) {l : Addr} {ps : List Nat} {m : Int} {Q : V → Sig → Prop} (hl : σ l = some (.list (ups ps))) (hl2 : ps.length ≤ 1000)
 (h : ∀ y σ', Le σ σ' → σ y = none → σ' y = some (.list (nats ps)) → Q (.ref y) σ') : CODE prog w c ρ σ (.ref (gv K "whole_places")) [.ref l, .int m] [] Q := by
 refine en_whole_places hK ok (by omega) fun c' ok' sc' gl' => ?_
 k_lt w
 refine fun pl hpl => ?_
 k_lt w
 refine R_ex <| X_dict0 ok' (.dicI []) (.inr rfl) fun lo hlo => ?_
 k_lt S
 have ne : lo ≠ pl := by rintro rfl; rw [Ya] at hlo; cases hlo
 have hlo1 : σ lo = none := by rw [Yd ne] at hlo; exact hlo
 have q1 : Le σ ((σ.set pl (.list [])).set lo (.dicI [])) := (Yc hpl).trans (Yc hlo)
 have q2 : ((σ.set pl (.list [])).set lo (.dicI [])) pl = some (.list []) := by rw [Yd (Ne.symm ne), Ya]
 have q3 : ((σ.set pl (.list [])).set lo (.dicI [])) lo = some (.dicI []) := Ya
 generalize (σ.set pl (.list [])).set lo (.dicI []) = σ2 at q1 q2 q3 ⊢
 k_lt N
 k_lt C
 k_lt st
 k_lt ex
 k_lt S
 k_lt N
 k_lt C
 refine S_for ok' ?_ (hs := fun _ => rfl)
 k_lt w
 refine ⟨.list l, ups ps, fun i ρ' σ' => ∃ o, ρ' = ([("items", some (.ref l)), ("n", some (.int m)), ("places", some (.ref pl)), ("left_out", some (.ref lo)), ("lacks", some (.bool false)), ("item", o)] : List (Str × Option V)) ∧ Le σ σ' ∧ σ' pl = some (.list (nats (ps.take i))) ∧ σ' lo = some (.dicI []),
  ⟨rfl, q1 _ _ hl⟩, jv1 _ rfl ⟨q1, q2, q3⟩, ⟨?_, ?_, ?_⟩⟩
 · refine fun i ρ' σ' => ex1 fun o => an3 fun _ le _ => ?_; exact le _ _ hl
 · intro c2 i v ρ' σ' S2 ok2 hi; apply iv1; refine fun o => an3 fun le e1 e2 => ?_
   obtain ⟨p, hp1, rfl⟩ := ups_get hi
   have hpi : i < ps.length := (List.getElem?_eq_some_iff.mp hp1).1
   have hln : (nats (ps.take i)).length ≤ 100000 := by rw [Yi, List.length_take]; omega
   refine G_name ok2 (by k_lt sv) ?_
   k_lt w
   refine jv1 _ rfl ⟨le.setD hpl, ?_, by rw [Yd ne]; exact e2⟩
   rw [Ya, nats_snoc hp1, Int.add_sub_cancel]
 · intro ρ' σ'; apply iv1; refine fun o => an3 fun le e1 e2 => ?_
   rw [ups_len, List.take_length] at e1
   k_lt w
   refine L_dicI ok' e2 (by simp) ?_
   k_lt w
   exact h pl σ' le hpl e1
end
section
variable {n : Nat} {c : Cx} {ρ : Loc} {σ : Sig}
theorem ct_positions_up (hK : KOk K) (ok : c.Ok prog w K n) (hn : 2 ≤ n) {x l : Addr} {ps : List Nat} {m : Int} {nm : V} {b : Bool} {Q : V → Sig → Prop} (hv : Vec K σ x "integer" l (ups ps) .none) (hl2 : ps.length ≤ 1000)
 (h : ∀ t y σ', Le σ σ' → σ' t = some (.tup [.ref y, .none]) → σ' y = some (.list (nats ps)) → Q (.ref t) σ') : CODE prog w c ρ σ (.ref (gv K "positions")) [.ref x, .int m, nm, .bool b] [] Q := by
 refine en_positions hK ok (by omega) fun c' ok' sc' gl' => ?_
 k_lt w
 refine Yb (ct_whole_subscripts hK ok' (by omega) hv ?_)
 k_lt w
 refine Yb (ct_whole_places hK ok' (by omega) hv.list hl2 fun y σ1 le1 hy0 hy => ?_)
 k_lt w
 refine fun t ht => ?_
 k_lt w
 exact h t y _ (le1.trans (Yc ht)) Ya (Yg ht hy)
end
section
variable {n : Nat} {c : Cx} {ρ : Loc} {σ : Sig}
end
section
variable {n : Nat} {c : Cx} {ρ : Loc} {σ : Sig}
noncomputable def PosOk (prog : Program) (w : World) (K : Frag) (σ : Sig) (ix : Addr) (m : Nat) (texts : List V) (b : Bool) (ps : List Nat) : Prop :=
 ∀ (c : Cx) (n : Nat) (ρ : Loc) (σ' : Sig) (nm : Addr) (Q : V → Sig → Prop), c.Ok prog w K n → 3 ≤ n → Le σ σ' → σ' nm = some (.list texts) →
  (∀ t y ad σ'', Le σ' σ'' → σ'' t = some (.tup [.ref y, ad]) → σ'' y = some (.list (nats ps)) → (ad = .none ∨ ∃ al, ad = .ref al ∧ σ'' al = some (.list [])) → Q (.ref t) σ'') →
  CODE prog w c ρ σ' (.ref (gv K "positions")) [.ref ix, .int m, .ref nm, .bool b] [] Q
theorem posOk_up (hK : KOk K) {ix il : Addr} {m : Nat} {texts : List V} {b : Bool} {ps : List Nat} (hv : Vec K σ ix "integer" il (ups ps) .none) (hl2 : ps.length ≤ 1000) : PosOk prog w K σ ix m texts b ps := by
 intro c n ρ σ' nm Q ok hn le hnm h
 exact ct_positions_up hK ok (by omega) (hv.mono le) hl2 fun t y σ'' le2 ht hy => h t y .none σ'' le2 ht hy (.inl rfl)
theorem ct_row_places (hK : KOk K) (ok : c.Ok prog w K n) (hn : 6 ≤ n) {x l a nx nl cx cl rx rl ix il : Addr} {vs : List V} {cols : List (Str × List V)} {names : List V} {mk k : Str} {marks xs : List V} {ps : List Nat} {Q : V → Sig → Prop} (hF : Frm K σ x l a nx nl cx cl rx rl vs cols names mk marks) (hlab : ∀ v ∈ marks, LabOk mk v) (h0 : marks ≠ [])
 (hv : Vec K σ ix k il xs .none) (hk : k ≠ "missing") (hpos : PosOk prog w K σ ix marks.length (marks.map (lab mk)) false ps)
 (h : ∀ y σ', Le σ σ' → σ' y = some (.list (nats ps)) → Q (.ref y) σ') : CODE prog w c ρ σ (.ref (gv K "row_places")) [.ref x, .ref ix] [] Q := by
 refine en_row_places hK ok (by omega) fun c' ok' sc' gl' => ?_
 k_lt w
 refine Yb (ct_frame_rows hK ok' (by omega) hF ?_)
 k_lt w
 refine Yb (ct_is_absent hK ok' (by omega) hv hk ?_)
 k_lt w
 refine Yb (ct_row_names hK ok' (by omega) hF hlab h0 fun m hm => ?_)
 have le1 : Le σ (σ.set m (.list (marks.map (lab mk)))) := Yc hm
 k_lt w
 refine Yb (hpos _ _ _ _ _ _ ok' (by omega) le1 Ya fun t y ad σ2 le2 ht hy _ => ?_)
 k_lt w
 try refine SB_tup ht (by omega) (by omega) rfl ?_
 k_lt w
 exact h y σ2 (le1.trans le2) hy
end
section
variable {n : Nat} {c : Cx} {ρ : Loc} {σ : Sig}
noncomputable def downs (qs : List Nat) : List V := qs.map fun q => V.int (0 - (q : Nat) - 1)
theorem downs_get {ps : List Nat} {i : Nat} {v : V} (h : (downs ps)[i]? = some v) : ∃ p, ps[i]? = some p ∧ v = .int (0 - (p : Nat) - 1) := by
 unfold downs at h
 rw [List.getElem?_map, Option.map_eq_some_iff] at h
 obtain ⟨p, h1, h2⟩ := h
 exact ⟨p, h1, h2.symm⟩
theorem downs_len {ps : List Nat} : (downs ps).length = ps.length := by simp [downs]
theorem ct_whole_places_down (hK : KOk K) (ok : c.Ok prog w K n) (hn : 1 ≤ n) {l : Addr} {qs : List Nat} {m : Nat} {Q : V → Sig → Prop} (hl : σ l = some (.list (downs qs))) (hl2 : qs.length ≤ 1000) (hm : m ≤ 1000) (h0 : qs ≠ [])
 (h : ∀ y σ', Le σ σ' → σ' y = some (.list (nats ((List.range m).filter fun i => !qs.contains i))) → Q (.ref y) σ') : CODE prog w c ρ σ (.ref (gv K "whole_places")) [.ref l, .int m] [] Q := by
 refine en_whole_places hK ok (by omega) fun c' ok' sc' gl' => ?_
 k_lt w
 refine fun pl hpl => ?_
 k_lt w
 refine R_ex <| X_dict0 ok' (.dicI []) (.inr rfl) fun lo hlo => ?_
 k_lt S
 have ne : lo ≠ pl := by rintro rfl; rw [Ya] at hlo; cases hlo
 have hlo1 : σ lo = none := by rw [Yd ne] at hlo; exact hlo
 have q1 : Le σ ((σ.set pl (.list [])).set lo (.dicI [])) := (Yc hpl).trans (Yc hlo)
 have q2 : ((σ.set pl (.list [])).set lo (.dicI [])) pl = some (.list []) := by rw [Yd (Ne.symm ne), Ya]
 have q3 : ((σ.set pl (.list [])).set lo (.dicI [])) lo = some (.dicI []) := Ya
 generalize (σ.set pl (.list [])).set lo (.dicI []) = σ2 at q1 q2 q3 ⊢
 k_lt N
 k_lt C
 k_lt st
 k_lt ex
 k_lt S
 k_lt N
 k_lt C
 refine S_for ok' ?_ (hs := fun _ => rfl)
 k_lt w
 refine ⟨.list l, downs qs, fun i ρ' σ' => ∃ o g, ρ' = ([("items", some (.ref l)), ("n", some (.int m)), ("places", some (.ref pl)), ("left_out", some (.ref lo)), ("lacks", some (.bool false)), ("item", o)] : List (Str × Option V)) ∧ Le σ σ' ∧ σ' pl = some (.list []) ∧ σ' lo = some (.dicI g) ∧ g.length ≤ i ∧ ∀ k : Int, (dlook g k).isSome = true ↔ ∃ q ∈ qs.take i, k = (q : Nat),
  ⟨rfl, q1 _ _ hl⟩, jv2 _ _ rfl ⟨q1, q2, q3, by simp, by simp [dlook]⟩, ⟨?_, ?_, ?_⟩⟩
 · refine fun i ρ' σ' => ex2 fun o g => an3 fun _ le _ => ?_; exact le _ _ hl
 · intro c2 i v ρ' σ' S2 ok2 hi; apply iv2; refine fun o g => an5 fun le e1 e2 hg hk => ?_
   obtain ⟨p, hp1, rfl⟩ := downs_get hi
   have hpi : i < qs.length := (List.getElem?_eq_some_iff.mp hp1).1
   refine G_name ok2 (by k_lt sv) ?_
   k_lt w
   try rw [show -(0 - ((p : Nat) : Int) - 1) - 1 = (p : Nat) by omega]
   k_lt w
   refine I_dicI e2 (by omega) ?_
   k_lt w
   refine jv2 _ _ rfl ⟨le.setD hlo1, by rw [Yd (Ne.symm ne)]; exact e1, Ya, Nat.le_trans (dput_len _ _ _) (by omega), fun k => ?_⟩
   rw [dlook_put, List.take_add_one, hp1]
   by_cases q : k = ((p : Nat) : Int)
   · rw [if_pos q]; simp only [Option.isSome_some, true_iff]; exact ⟨p, by simp, q⟩
   · rw [if_neg q, hk k]
     constructor
     · rintro ⟨r, hr, e⟩; exact ⟨r, List.mem_append_left _ hr, e⟩
     · rintro ⟨r, hr, e⟩
       rcases List.mem_append.mp hr with hr | hr
       · exact ⟨r, hr, e⟩
       · simp at hr; subst hr; exact absurd e q
 · intro ρ' σ'; apply iv2; refine fun o g => an5 fun le e1 e2 hg hk => ?_
   rw [downs_len, List.take_length] at hk
   rw [downs_len] at hg
   have hgn : (g.length : Int) ≠ 0 := by
    intro e
    have e' : g = [] := List.length_eq_zero_iff.mp (by omega)
    subst e'
    refine (ex2 fun q r => ?_) (List.exists_cons_of_ne_nil h0); rintro rfl
    have := (hk (q : Nat)).mpr ⟨q, by simp, rfl⟩
    simp [dlook] at this
   k_lt w
   refine L_dicI ok' e2 (by omega) ?_
   k_lt w
   refine R_ex <| X_comp ok' [("left_out", .ref lo)] [] (compAt (by k_lt co) (by k_lt cp) (by k_lt gs)) ?_ (hs := fun _ => rfl)
   k_lt w
   refine R_one ok' fun r hr => ?_
   have e3 : (σ'.set r (.rng 0 m)) lo = some (.dicI g) := Yc hr _ _ e2
   refine ⟨.rng 0 m, spanZ 0 m, fun i ys τ => ys = nats ((List.range i).filter fun i => !qs.contains i) ∧ τ = σ'.set r (.rng 0 m), ⟨rfl, ⟨r, rfl, Ya⟩, by omega, by omega, by omega, by omega⟩, Yk (by rw [span_len]; omega), ⟨rfl, rfl⟩, ⟨?_, ?_⟩, ?_⟩
   · rintro i ys τ ⟨_, rfl⟩; rfl
   · rintro c2 i v ys τ ok2 gl2 k1 k2 hx ⟨rfl, rfl⟩
     have hi : i < ((m : Int) - 0).toNat := by
      rcases Nat.lt_or_ge i ((m : Int) - 0).toNat with q | q
      · exact q
      · rw [List.getElem?_eq_none (by rw [span_len]; exact q)] at hx; cases hx
     rw [span_get hi] at hx
     cases hx
     rw [Int.zero_add]
     refine IFS_one ?_
     k_lt w
     refine C_ninI ok2 e3 ?_
     have key : (!(dlook g ((i : Nat) : Int)).isSome) = !qs.contains i := by
      congr 1
      rw [Bool.eq_iff_iff, hk, List.contains_iff_mem]
      constructor
      · rintro ⟨q, hq, e⟩; obtain rfl : i = q := by omega
        exact hq
      · intro hq; exact ⟨i, hq, rfl⟩
     rw [key]
     k_lt w
     rw [List.range_succ, List.filter_append]
     refine ifB (fun hb => ?_) fun hb => ?_
     · k_lt w
       try rw [List.filter_cons, if_pos hb]
       exact ⟨by simp [nats], rfl⟩
     · rw [List.filter_cons, if_neg (by rw [hb]; simp)]
       exact ⟨by simp [nats], rfl⟩
   · rintro D ys τ ⟨rfl, rfl⟩ hD
     rw [span_len, show ((m : Int) - 0).toNat = m by omega]
     k_lt w
     exact h D _ ((le.trans (Yc hr)).trans (Yc hD)) Ya
end
section
variable {n : Nat} {c : Cx} {ρ : Loc} {σ : Sig}
theorem posOk_down (hK : KOk K) {ix il : Addr} {m : Nat} {texts : List V} {b : Bool} {qs ps : List Nat} (hv : Vec K σ ix "integer" il (downs qs) .none) (hl2 : qs.length ≤ 1000) (hm : m ≤ 1000) (h0 : qs ≠ []) (hps : ps = (List.range m).filter fun i => !qs.contains i) : PosOk prog w K σ ix m texts b ps := by
 subst hps
 intro c n ρ σ' nm Q ok hn le hnm h
 have hv := hv.mono le
 refine en_positions hK ok (by omega) fun c' ok' sc' gl' => ?_
 k_lt w
 refine Yb (ct_whole_subscripts hK ok' (by omega) hv ?_)
 k_lt w
 refine Yb (ct_whole_places_down hK ok' (by omega) hv.list hl2 hm h0 fun y σ1 le1 hy => ?_)
 k_lt w
 refine fun t ht => ?_
 k_lt w
 exact h t y .none _ (le1.trans (Yc ht)) Ya (Yg ht hy) (.inl rfl)
end
section
variable {n : Nat} {c : Cx} {ρ : Loc} {σ : Sig}
noncomputable def Yp (fs : List Bool) : List V := fs.map fun b => V.int (if b then 1 else 0)
noncomputable def trues (fs : List Bool) : List Nat := (List.range fs.length).filter fun i => fs.getD i false
theorem flagsL_len {fs : List Bool} : (Yp fs).length = fs.length := by simp [Yp]
theorem ct_logical_places (hK : KOk K) (ok : c.Ok prog w K n) (hn : 1 ≤ n) {l : Addr} {fs : List Bool} {Q : V → Sig → Prop} (hl : σ l = some (.list (Yp fs))) (hl2 : fs.length ≤ 1000) (h0 : fs ≠ [])
 (h : ∀ y σ', Le σ σ' → σ' y = some (.list (nats (trues fs))) → Q (.ref y) σ') : CODE prog w c ρ σ (.ref (gv K "logical_places")) [.ref l, .int fs.length] [] Q := by
 have hpos : 0 < fs.length := List.length_pos_iff.mpr h0
 have hne : ((Yp fs).length : Int) ≠ 0 := by rw [flagsL_len]; omega
 have hlen : (Yp fs).length ≤ 100000 := by rw [flagsL_len]; omega
 refine en_logical_places hK ok (by omega) fun c' ok' sc' gl' => ?_
 k_lt w
 refine fun pl hpl => ?_
 k_lt w
 have lej : ∀ ys, Le σ (σ.set pl (.list ys)) := fun ys => Yc hpl
 refine S_for ok' ?_ (hs := fun _ => rfl)
 k_lt w
 refine M_max ok' ?_
 k_lt w
 try rw [flagsL_len, Int.max_self]
 k_lt w
 refine R_one ok' fun r hr => ?_
 have hne2 : r ≠ pl := by rintro rfl; rw [Ya] at hr; cases hr
 have e1 : ((σ.set pl (.list [])).set r (.rng 0 fs.length)) pl = some (.list []) := by rw [Yd (Ne.symm hne2), Ya]
 have q1 : Le σ ((σ.set pl (.list [])).set r (.rng 0 fs.length)) := (lej _).trans (Yc hr)
 have e2 : ((σ.set pl (.list [])).set r (.rng 0 fs.length)) r = some (.rng 0 fs.length) := Ya
 generalize (σ.set pl (.list [])).set r (.rng 0 fs.length) = σ2 at e1 q1 e2 ⊢
 refine ⟨.rng 0 fs.length, spanZ 0 fs.length, fun i ρ' σ' => ∃ o o2, ρ' = ([("items", some (.ref l)), ("n", some (.int fs.length)), ("count", some (.int fs.length)), ("places", some (.ref pl)), ("i", o), ("item", o2)] : List (Str × Option V)) ∧ Le σ σ' ∧ σ' pl = some (.list (nats ((List.range i).filter fun i => fs.getD i false))),
  ⟨rfl, ⟨r, rfl, e2⟩, by omega, by omega, by omega, by omega⟩, jv2 _ _ rfl ⟨q1, e1⟩, ⟨?_, ?_, ?_⟩⟩
 · rintro i ρ' σ' _; rfl
 · intro c2 i v ρ' σ' S2 ok2 hx; apply iv2; intro o o2; rintro ⟨le, e⟩
   have hi : i < fs.length := by
    rcases Nat.lt_or_ge i fs.length with q | q
    · exact q
    · rw [List.getElem?_eq_none (by rw [span_len]; omega)] at hx; cases hx
   rw [span_get (by omega)] at hx
   cases hx
   rw [Int.zero_add]
   refine G_name ok2 (by k_lt sv) ?_
   k_lt w
   refine B_mod (by omega) ?_
   have hm : ((i : Nat) : Int).fmod (fs.length : Nat) = (i : Nat) := by
    rw [Int.fmod_eq_emod_of_nonneg _ (by omega)]; exact Int.emod_eq_of_lt (by omega) (by omega)
   rw [hm]
   have hit : (Yp fs)[((i : Nat) : Int).toNat]? = some (.int (if fs.getD i false then 1 else 0)) := by
    simp [Yp, List.getD, hi]
   k_lt w
   refine SB_list (le _ _ hl) (by omega) (by omega) hit ?_
   have hln : (nats ((List.range i).filter fun i => fs.getD i false)).length ≤ 100000 := by
    rw [Yi]
    have := List.length_filter_le (fun i => fs.getD i false) (List.range i)
    rw [List.length_range] at this
    omega
   cases hb : fs.getD i false with
   | true =>
    simp only [if_true]
    k_lt w
    refine jv2 _ _ rfl ⟨le.setD hpl, ?_⟩
    rw [Ya, List.range_succ, List.filter_append, List.filter_cons, if_pos hb]
    simp [nats]
   | false =>
    simp only [Bool.false_eq_true, if_false]
    k_lt w
    refine jv2 _ _ rfl ⟨le, ?_⟩
    rw [e, List.range_succ, List.filter_append, List.filter_cons, if_neg (by rw [hb]; simp)]
    simp [nats]
 · intro ρ' σ'; apply iv2; intro o o2; rintro ⟨le, e⟩
   rw [span_len, show ((fs.length : Int) - 0).toNat = fs.length by omega] at e
   k_lt w
   exact h pl σ' le e
end
section
variable {n : Nat} {c : Cx} {ρ : Loc} {σ : Sig}
theorem Yr {σ : Sig} {m : Nat} {r : Addr} (h : σ r = some (.rng 0 m)) (hm : m ≤ 100000) : SrcOf σ (.ref r) (.rng 0 m) (spanZ 0 m) := ⟨rfl, ⟨r, rfl, h⟩, by omega, by omega, by omega, by omega⟩
theorem Yf {m : Nat} : (spanZ 0 m).length = m := by rw [span_len]; omega
theorem Yn {m i : Nat} {v : V} (h : (spanZ 0 m)[i]? = some v) : i < m ∧ v = .int (i : Nat) := by
 have hi : i < m := by
  rcases Nat.lt_or_ge i m with q | q
  · exact q
  · rw [List.getElem?_eq_none (by rw [Yf]; exact q)] at h; cases h
 rw [span_get (by omega)] at h
 cases h
 exact ⟨hi, by rw [Int.zero_add]⟩
theorem posOk_flags (hK : KOk K) {ix il : Addr} {m : Nat} {texts : List V} {b : Bool} {fs : List Bool} {ps : List Nat} (hv : Vec K σ ix "logical" il (Yp fs) .none) (hl2 : fs.length ≤ 1000) (h0 : fs ≠ []) (hm : fs.length = m) (hps : ps = trues fs) : PosOk prog w K σ ix m texts b ps := by
 subst hps; subst hm
 intro c n ρ σ' nm Q ok hn le hnm h
 have hv := hv.mono le
 refine en_positions hK ok (by omega) fun c' ok' sc' gl' => ?_
 k_lt w
 refine Yb (ct_logical_places hK ok' (by omega) hv.list hl2 h0 fun y σ1 le1 hy => ?_)
 k_lt w
 refine fun t ht => ?_
 k_lt w
 exact h t y .none _ (le1.trans (Yc ht)) Ya (Yg ht hy) (.inl rfl)
theorem ct_first_places (hK : KOk K) (ok : c.Ok prog w K n) (hn : 1 ≤ n) {nm : Addr} {ss : List Str} {Q : V → Sig → Prop} (hnm : σ nm = some (.list (txs ss))) (hl : ss.length ≤ 1000) (hnd : ss.Nodup) (hne : ∀ s ∈ ss, s ≠ "")
 (h : ∀ d g σ', Le σ σ' → σ d = none → σ' d = some (.dicS g) → g.length ≤ ss.length → (∀ (i : Nat) s, ss[i]? = some s → dlook g s = some (.int i)) → Q (.ref d) σ') : CODE prog w c ρ σ (.ref (gv K "first_places")) [.ref nm] [] Q := by
 refine en_first_places hK ok (by omega) fun c' ok' sc' gl' => ?_
 k_lt w
 refine R_ex <| X_dict0 ok' (.dicS []) (.inl rfl) fun d hd => ?_
 k_lt S
 have lej : ∀ g, Le σ (σ.set d (.dicS g)) := fun g => Yc hd
 have hln : (txs ss).length ≤ 100000 := by rw [Ym]; omega
 have e0 := lej [] _ _ hnm
 have e1 : (σ.set d (.dicS [])) d = some (.dicS []) := Ya
 have q1 := lej []
 generalize σ.set d (.dicS []) = σ1 at e0 e1 q1 ⊢
 k_lt w
 refine S_for ok' ?_ (hs := fun _ => rfl)
 k_lt w
 try rw [Ym]
 k_lt w
 refine R_one ok' fun r hr => ?_
 have q2 : Le σ (σ1.set r (.rng 0 ss.length)) := q1.trans (Yc hr)
 have e2 : (σ1.set r (.rng 0 ss.length)) d = some (.dicS []) := Yc hr _ _ e1
 have e3 : (σ1.set r (.rng 0 ss.length)) r = some (.rng 0 ss.length) := Ya
 generalize σ1.set r (.rng 0 ss.length) = σ2 at q2 e2 e3 ⊢
 refine ⟨.rng 0 ss.length, spanZ 0 ss.length, fun i ρ' σ' => ∃ o o2 g, ρ' = ([("names", some (.ref nm)), ("table", some (.ref d)), ("i", o), ("name", o2)] : List (Str × Option V)) ∧ Le σ σ' ∧ σ' d = some (.dicS g) ∧ g.length ≤ i ∧ ∀ (j : Nat) s, ss[j]? = some s → dlook g s = if j < i then some (.int j) else none,
  Yr e3 (by omega), jv3 _ _ _ rfl ⟨q2, e2, by simp, by simp [dlook]⟩, ⟨?_, ?_, ?_⟩⟩
 · rintro i ρ' σ' _; rfl
 · intro c2 i v ρ' σ' S2 ok2 hx; apply iv3; refine fun o o2 g => an4 fun le e hg hk => ?_
   obtain ⟨hi, rfl⟩ := Yn hx
   have hp : ss[i]? = some ss[i] := List.getElem?_eq_getElem hi
   have hno : dlook g ss[i] = none := by rw [hk i _ hp, if_neg (Nat.lt_irrefl _)]
   have hne1 : decide (ss[i] ≠ "") = true := decide_eq_true (hne _ (List.getElem_mem hi))
   have hit : (txs ss)[((i : Nat) : Int).toNat]? = some (.str ss[i]) := by simp [txs, hi]
   have hgl : g.length ≤ 100000 := by omega
   refine G_name ok2 (by k_lt sv) ?_
   k_lt w
   refine SB_list (le _ _ hnm) (by omega) (by omega) hit ?_
   k_lt w
   refine I_dicS e hgl ?_
   k_lt w
   refine jv3 _ _ _ rfl ⟨le.setD hd, Ya, Nat.le_trans (dput_len _ _ _) (by omega), fun j s hs => ?_⟩
   rw [dlook_put]
   by_cases q : s = ss[i]
   · subst q
     have : j = i := (List.getElem?_inj (List.getElem?_eq_some_iff.mp hs).1 hnd).mp (hs.trans hp.symm)
     subst this
     rw [if_pos rfl, if_pos (by omega)]
   · rw [if_neg q, hk j s hs]
     have : j ≠ i := by rintro rfl; rw [hp] at hs; exact q (Option.some.inj hs).symm
     by_cases z : j < i
     · rw [if_pos z, if_pos (by omega)]
     · rw [if_neg z, if_neg (by omega)]
 · intro ρ' σ'; apply iv3; refine fun o o2 g => an4 fun le e hg hk => ?_
   rw [Yf] at hg hk
   k_lt w
   refine h d g σ' le hd e hg fun i s hs => ?_
   rw [hk i s hs, if_pos (List.getElem?_eq_some_iff.mp hs).1]
noncomputable def pickS (ss : List Str) (ps : List Nat) : List Str := ps.map fun p => ss.getD p ""
theorem pickS_len {ss : List Str} {ps : List Nat} : (pickS ss ps).length = ps.length := by simp [pickS]
theorem pickS_get {ss : List Str} {ps : List Nat} {i : Nat} {v : V} (h : (txs (pickS ss ps))[i]? = some v) (hps : ∀ p ∈ ps, p < ss.length) : ∃ p s, ps[i]? = some p ∧ v = .str s ∧ ss[p]? = some s := by
 obtain ⟨s, h1, rfl⟩ := txs_get h
 unfold pickS at h1
 rw [List.getElem?_map, Option.map_eq_some_iff] at h1
 obtain ⟨p, h2, h3⟩ := h1
 have := hps p (List.mem_of_getElem? h2)
 refine ⟨p, s, h2, rfl, ?_⟩
 rw [← h3, List.getD_eq_getElem?_getD, List.getElem?_eq_getElem this]; rfl
theorem ct_name_places (hK : KOk K) (ok : c.Ok prog w K n) (hn : 2 ≤ n) {il nm : Addr} {ss : List Str} {ps : List Nat} {Q : V → Sig → Prop} (hil : σ il = some (.list (txs (pickS ss ps)))) (hnm : σ nm = some (.list (txs ss))) (hl : ss.length ≤ 1000) (hnd : ss.Nodup) (hne : ∀ s ∈ ss, s ≠ "") (hl2 : ps.length ≤ 1000) (hps : ∀ p ∈ ps, p < ss.length)
 (h : ∀ y σ', Le σ σ' → σ' y = some (.list (nats ps)) → Q (.ref y) σ') : CODE prog w c ρ σ (.ref (gv K "name_places")) [.ref il, .ref nm] [] Q := by
 refine en_name_places hK ok (by omega) fun c' ok' sc' gl' => ?_
 k_lt w
 refine Yb (ct_first_places hK ok' (by omega) hnm hl hnd hne fun d g σ1 le1 hd0 hd hg hk => ?_)
 k_lt w
 refine fun pl hpl => ?_
 have hpl0 : σ pl = none := by
  cases q : σ pl with
  | none => rfl
  | some z => rw [le1 _ _ q] at hpl; cases hpl
 k_lt w
 have le2 : Le σ (σ1.set pl (.list [])) := le1.trans (Yc hpl)
 have e1 : (σ1.set pl (.list [])) pl = some (.list []) := Ya
 have e2 : (σ1.set pl (.list [])) d = some (.dicS g) := Yc hpl _ _ hd
 have hned : d ≠ pl := by rintro rfl; rw [hd] at hpl; cases hpl
 generalize σ1.set pl (.list []) = σ2 at le2 e1 e2 ⊢
 refine S_for ok' ?_ (hs := fun _ => rfl)
 k_lt w
 refine ⟨.list il, txs (pickS ss ps), fun i ρ' σ' => ∃ o, ρ' = ([("texts", some (.ref il)), ("names", some (.ref nm)), ("table", some (.ref d)), ("places", some (.ref pl)), ("item", o)] : List (Str × Option V)) ∧ Le σ σ' ∧ σ' pl = some (.list (nats (ps.take i))) ∧ σ' d = some (.dicS g),
  ⟨rfl, le2 _ _ hil⟩, jv1 _ rfl ⟨le2, e1, e2⟩, ⟨?_, ?_, ?_⟩⟩
 · refine fun i ρ' σ' => ex1 fun o => an3 fun _ le _ => ?_; exact le _ _ hil
 · intro c2 i v ρ' σ' S2 ok2 hx; apply iv1; refine fun o => an3 fun le f1 f2 => ?_
   refine (ex2 fun p s => an3 fun hp => ?_) (pickS_get hx hps); rintro rfl; intro hs
   have hd2 := hk p s hs
   have hln : (nats (ps.take i)).length ≤ 100000 := by rw [Yi, List.length_take]; omega
   refine G_name ok2 (by k_lt sv) ?_
   k_lt w
   refine jv1 _ rfl ⟨le.setD hpl0, ?_, by rw [Yd hned]; exact f2⟩
   rw [Ya, nats_snoc hp]
 · intro ρ' σ'; apply iv1; refine fun o => an3 fun le f1 f2 => ?_
   rw [Ym, pickS_len, List.take_length] at f1
   k_lt w
   exact h pl σ' le f1
theorem ct_extending_places (hK : KOk K) (ok : c.Ok prog w K n) (hn : 2 ≤ n) {il nm : Addr} {ss : List Str} {ps : List Nat} {m : Int} {Q : V → Sig → Prop} (hil : σ il = some (.list (txs (pickS ss ps)))) (hnm : σ nm = some (.list (txs ss))) (hl : ss.length ≤ 1000) (hnd : ss.Nodup) (hne : ∀ s ∈ ss, s ≠ "") (hl2 : ps.length ≤ 1000) (hps : ∀ p ∈ ps, p < ss.length)
 (h : ∀ t y al σ', Le σ σ' → σ' t = some (.tup [.ref y, .ref al]) → σ' y = some (.list (nats ps)) → σ' al = some (.list []) → Q (.ref t) σ') : CODE prog w c ρ σ (.ref (gv K "extending_places")) [.ref il, .int m, .ref nm] [] Q := by
 refine en_extending_places hK ok (by omega) fun c' ok' sc' gl' => ?_
 k_lt w
 refine Yb (ct_first_places hK ok' (by omega) hnm hl hnd hne fun d g σ1 le1 hd0 hd hg hk => ?_)
 k_lt w
 refine fun pl hpl => ?_
 have hpl0 : σ pl = none := by
  cases q : σ pl with
  | none => rfl
  | some z => rw [le1 _ _ q] at hpl; cases hpl
 k_lt w
 have le2 : Le σ (σ1.set pl (.list [])) := le1.trans (Yc hpl)
 have e1 : (σ1.set pl (.list [])) pl = some (.list []) := Ya
 have e2 : (σ1.set pl (.list [])) d = some (.dicS g) := Yc hpl _ _ hd
 have hned : d ≠ pl := by rintro rfl; rw [hd] at hpl; cases hpl
 generalize σ1.set pl (.list []) = σ2 at le2 e1 e2 ⊢
 refine fun al hal => ?_
 k_lt w
 have le2 := le2.trans (Yc (o := .list []) hal)
 have hnea : al ≠ pl := by rintro rfl; rw [e1] at hal; cases hal
 have e1 := (Yc (o := .list []) hal) _ _ e1
 have e2 := (Yc (o := .list []) hal) _ _ e2
 have e3 : (σ2.set al (.list [])) al = some (.list []) := Ya
 generalize σ2.set al (.list []) = σ3 at le2 e1 e2 e3 ⊢
 refine S_for ok' ?_ (hs := fun _ => rfl)
 k_lt w
 refine ⟨.list il, txs (pickS ss ps), fun i ρ' σ' => ∃ o, ρ' = ([("texts", some (.ref il)), ("n", some (.int m)), ("names", some (.ref nm)), ("table", some (.ref d)), ("places", some (.ref pl)), ("added", some (.ref al)), ("item", o), ("place", none)] : List (Str × Option V)) ∧ Le σ σ' ∧ σ' pl = some (.list (nats (ps.take i))) ∧ σ' d = some (.dicS g) ∧ σ' al = some (.list []),
  ⟨rfl, le2 _ _ hil⟩, jv1 _ rfl ⟨le2, e1, e2, e3⟩, ⟨?_, ?_, ?_⟩⟩
 · refine fun i ρ' σ' => ex1 fun o => an3 fun _ le _ => ?_; exact le _ _ hil
 · intro c2 i v ρ' σ' S2 ok2 hx; apply iv1; refine fun o => an4 fun le f1 f2 f3 => ?_
   refine (ex2 fun p s => an3 fun hp => ?_) (pickS_get hx hps); rintro rfl; intro hs
   have hd2 := hk p s hs
   have hln : (nats (ps.take i)).length ≤ 100000 := by rw [Yi, List.length_take]; omega
   refine G_name ok2 (by k_lt sv) ?_
   k_lt w
   refine jv1 _ rfl ⟨le.setD hpl0, ?_, by rw [Yd hned]; exact f2, by rw [Yd hnea]; exact f3⟩
   rw [Ya, nats_snoc hp]
 · intro ρ' σ'; apply iv1; refine fun o => an4 fun le f1 f2 f3 => ?_
   rw [Ym, pickS_len, List.take_length] at f1
   k_lt w
   refine fun t ht => ?_
   k_lt w
   exact h t pl al _ (le.trans (Yc ht)) Ya (Yg ht f1) (Yg ht f3)
theorem posOk_names (hK : KOk K) {ix il : Addr} {m : Nat} {texts : List V} {b : Bool} {ss : List Str} {ps : List Nat} (hv : Vec K σ ix "character" il (txs (pickS ss ps)) .none) (ht : texts = txs ss) (hl : ss.length ≤ 1000) (hnd : ss.Nodup) (hne : ∀ s ∈ ss, s ≠ "") (hl2 : ps.length ≤ 1000) (hps : ∀ p ∈ ps, p < ss.length) : PosOk prog w K σ ix m texts b ps := by
 subst ht
 intro c n ρ σ' nm Q ok hn le hnm h
 have hv := hv.mono le
 cases b with
 | false =>
  refine en_positions hK ok (by omega) fun c' ok' sc' gl' => ?_
  k_lt w
  refine Yb (ct_name_places hK ok' (by omega) hv.list hnm hl hnd hne hl2 hps fun y σ1 le1 hy => ?_)
  k_lt w
  refine fun t ht => ?_
  k_lt w
  exact h t y .none _ (le1.trans (Yc ht)) Ya (Yg ht hy) (.inl rfl)
 | true =>
  refine en_positions hK ok (by omega) fun c' ok' sc' gl' => ?_
  k_lt w
  refine Yb (ct_extending_places hK ok' (by omega) hv.list hnm hl hnd hne hl2 hps fun t y al σ1 le1 ht hy hal => ?_)
  k_lt w
  exact h t y _ _ le1 ht hy (.inr ⟨al, rfl, hal⟩)
end
section
variable {n : Nat} {c : Cx} {ρ : Loc} {σ : Sig}
inductive Ix (prog : Program) (w : World) (K : Frag) (σ : Sig) (ix : Addr) (m : Nat) (texts : List V) (ps : List Nat) : Bool → Prop
 | vec {k : Str} {il : Addr} {xs : List V} : Vec K σ ix k il xs .none → (k = "integer" ∨ k = "logical" ∨ k = "character") → (∀ b, PosOk prog w K σ ix m texts b ps) → Ix prog w K σ ix m texts ps false
 | miss : Obj0 K σ ix "Missing" [("kind", .str "missing"), ("attrs", .none)] → ps = List.range m → Ix prog w K σ ix m texts ps true
theorem PosOk.mono {ix : Addr} {m : Nat} {texts : List V} {b : Bool} {ps : List Nat} {σ σ' : Sig} (h : PosOk prog w K σ ix m texts b ps) (le : Le σ σ') : PosOk prog w K σ' ix m texts b ps := fun c n ρ σ₂ nm Q ok hn le2 => h c n ρ σ₂ nm Q ok hn (le.trans le2)
theorem Ix.mono {ix : Addr} {m : Nat} {texts : List V} {ps : List Nat} {ab : Bool} {σ σ' : Sig} (h : Ix prog w K σ ix m texts ps ab) (le : Le σ σ') : Ix prog w K σ' ix m texts ps ab := by
 cases h with
 | vec h1 h2 h3 => exact .vec (h1.mono le) h2 fun b => (h3 b).mono le
 | miss h1 h2 => exact .miss (h1.mono le) h2
theorem ct_is_absentX (hK : KOk K) (ok : c.Ok prog w K n) (hn : 1 ≤ n) {ix : Addr} {m : Nat} {texts : List V} {ps : List Nat} {ab : Bool} {Q : V → Sig → Prop} (hix : Ix prog w K σ ix m texts ps ab) (h : Q (.bool ab) σ) : CODE prog w c ρ σ (.ref (gv K "is_absent")) [.ref ix] [] Q := by
 cases hix with
 | vec h1 h2 h3 => exact ct_is_absent hK ok hn h1 (by rcases h2 with rfl | rfl | rfl <;> decide +kernel) h
 | miss h1 h2 =>
  refine en_is_absent hK ok (by omega) fun c' ok' sc' gl' => ?_
  k_lt w
  try refine O_get hK ok' h1 (by decide +kernel) .head rfl ?_
  k_lt w
  exact h
theorem span_nats {m : Nat} : spanZ 0 m = nats (List.range m) := by
 unfold spanZ nats
 rw [show ((m : Int) - 0).toNat = m by omega]
 simp
theorem ct_row_placesX (hK : KOk K) (ok : c.Ok prog w K n) (hn : 6 ≤ n) {x l a nx nl cx cl rx rl ix : Addr} {vs : List V} {cols : List (Str × List V)} {names : List V} {mk : Str} {marks : List V} {ps : List Nat} {ab : Bool} {Q : V → Sig → Prop} (hF : Frm K σ x l a nx nl cx cl rx rl vs cols names mk marks) (hlab : ∀ v ∈ marks, LabOk mk v) (h0 : marks ≠ [])
 (hix : Ix prog w K σ ix marks.length (marks.map (lab mk)) ps ab)
 (h : ∀ y σ', Le σ σ' → σ' y = some (.list (nats ps)) → Q (.ref y) σ') : CODE prog w c ρ σ (.ref (gv K "row_places")) [.ref x, .ref ix] [] Q := by
 cases hix with
 | vec h1 h2 h3 => exact ct_row_places hK ok hn hF hlab h0 h1 (by rcases h2 with rfl | rfl | rfl <;> decide +kernel) (h3 false) h
 | miss h1 h2 =>
  have hhi := hF.high
  refine en_row_places hK ok (by omega) fun c' ok' sc' gl' => ?_
  k_lt w
  refine Yb (ct_frame_rows hK ok' (by omega) hF ?_)
  k_lt w
  refine Yb (ct_is_absentX hK ok' (by omega) (.miss h1 h2 : Ix prog w K σ ix marks.length (marks.map (lab mk)) ps true) ?_)
  k_lt w
  refine R_one ok' fun r hr => ?_
  k_lt w
  refine N_list ok' (Yr Ya (by omega)) (by rw [Yf]; omega) fun y hy => ?_
  k_lt w
  refine h y _ ((Yc hr).trans (Yc hy)) ?_
  rw [Ya, span_nats, h2]
theorem ct_column_places (hK : KOk K) (ok : c.Ok prog w K n) (hn : 6 ≤ n) {x l a nx nl cx cl rx rl ix : Addr} {vs : List V} {cols : List (Str × List V)} {ss : List Str} {mk : Str} {marks : List V} {ps : List Nat} {ab : Bool} {Q : V → Sig → Prop} (hF : Frm K σ x l a nx nl cx cl rx rl vs cols (txs ss) mk marks)
 (hix : Ix prog w K σ ix ss.length (txs ss) ps ab) (hps : ∀ p ∈ ps, p < ss.length)
 (h : ∀ y σ', Le σ σ' → σ' y = some (.list (nats ps)) → Q (.ref y) σ') : CODE prog w c ρ σ (.ref (gv K "column_places")) [.ref x, .ref ix] [] Q := by
 have hwi := hF.wide
 have hnl := hF.nlen
 rw [Ym] at hnl
 have hself := hF.self
 have hsl := hself.list
 have hix' := hix
 cases hix with
 | vec h1 h2 h3 =>
  refine en_column_places hK ok (by omega) fun c' ok' sc' gl' => ?_
  k_lt w
  refine Yb (ct_is_absentX hK ok' (by omega) hix' ?_)
  k_lt w
  refine Yb (ct_column_names hK ok' (by omega) hF (fun v hv => by obtain ⟨s, _, rfl⟩ := List.mem_map.mp hv; exact ⟨s, rfl⟩) fun m σ1 le1 hm0 hm => ?_)
  k_lt w
  try rw [← hnl]
  k_lt w
  refine Yb (h3 false _ _ _ _ _ _ ok' (by omega) le1 hm fun t y ad σ2 le2 ht hy _ => ?_)
  k_lt w
  try refine SB_tup ht (by omega) (by omega) rfl ?_
  k_lt w
  refine S_for ok' ?_ (hs := fun _ => rfl)
  k_lt w
  refine ⟨.list y, nats ps, fun i ρ' σ' => ∃ o, ρ' = ([("df", some (.ref x)), ("ix", some (.ref ix)), ("count", some (.int ss.length)), ("places", some (.ref y)), ("place", o)] : List (Str × Option V)) ∧ σ' = σ2, ⟨rfl, hy⟩, jv1 _ rfl rfl, ⟨?_, ?_, ?_⟩⟩
  · rintro i ρ' σ' ⟨o, _, rfl⟩; exact hy
  · intro c2 i v ρ' σ' S2 ok2 hi; apply iv1; intro o; rintro rfl
    obtain ⟨p, hp, rfl⟩ := nats_get hi
    have hlt := hps p (List.mem_of_getElem? hp)
    refine G_name ok2 (by k_lt sv) ?_
    k_lt w
    exact jv1 _ rfl rfl
  · intro ρ' σ'; apply iv1; intro o; rintro rfl
    k_lt w
    exact h y _ (le1.trans le2) hy
 | miss h1 h2 =>
  refine en_column_places hK ok (by omega) fun c' ok' sc' gl' => ?_
  k_lt w
  refine Yb (ct_is_absentX hK ok' (by omega) hix' ?_)
  k_lt w
  refine R_one ok' fun r hr => ?_
  k_lt w
  refine N_list ok' (Yr Ya (by omega)) (by rw [Yf]; omega) fun y hy => ?_
  k_lt w
  refine h y _ ((Yc hr).trans (Yc hy)) ?_
  rw [Ya, span_nats, h2, hnl]
noncomputable def pickC (cols : List (Str × List V)) (ps : List Nat) : List (Str × List V) := ps.map fun p => cols.getD p ("", [])
theorem pickC_len {cols : List (Str × List V)} {ps : List Nat} : (pickC cols ps).length = ps.length := by simp [pickC]
theorem pickC_snoc {cols : List (Str × List V)} {ps : List Nat} {i p : Nat} {q : Str × List V} (h : ps[i]? = some p) (hq : cols[p]? = some q) : pickC cols (ps.take (i + 1)) = pickC cols (ps.take i) ++ [q] := by
 unfold pickC; rw [List.take_add_one, h]; simp [List.getD_eq_getElem?_getD, hq]
theorem pickC_mem {cols : List (Str × List V)} {ps : List Nat} {q : Str × List V} (h : q ∈ pickC cols ps) (hps : ∀ p ∈ ps, p < cols.length) : q ∈ cols := by
 unfold pickC at h
 obtain ⟨p, hp, rfl⟩ := List.mem_map.mp h
 have := hps p hp
 rw [List.getD_eq_getElem?_getD, List.getElem?_eq_getElem this]
 exact List.getElem_mem this
theorem pickS_snoc {ss : List Str} {ps : List Nat} {i p : Nat} {s : Str} (h : ps[i]? = some p) (hq : ss[p]? = some s) : txs (pickS ss (ps.take (i + 1))) = txs (pickS ss (ps.take i)) ++ [.str s] := by
 unfold pickS txs; rw [List.take_add_one, h]; simp [List.getD_eq_getElem?_getD, hq]
theorem pickS_nodup {ss : List Str} {ps : List Nat} (h1 : ss.Nodup) (h2 : ps.Nodup) (hps : ∀ p ∈ ps, p < ss.length) : (pickS ss ps).Nodup := by
 unfold pickS
 induction ps with
 | nil => exact List.nodup_nil
 | cons p r ih =>
  rw [List.nodup_cons] at h2
  rw [List.map_cons, List.nodup_cons]
  refine ⟨fun hm => ?_, ih h2.2 fun q hq => hps q (List.mem_cons_of_mem _ hq)⟩
  obtain ⟨q, hq, e⟩ := List.mem_map.mp hm
  have l1 := hps p List.mem_cons_self
  have l2 := hps q (List.mem_cons_of_mem _ hq)
  rw [List.getD_eq_getElem?_getD, List.getD_eq_getElem?_getD, List.getElem?_eq_getElem l1, List.getElem?_eq_getElem l2] at e
  have : q = p := (List.getElem_inj h1).mp e
  exact h2.1 (this ▸ hq)
theorem ct_select_columns (hK : KOk K) (ok : c.Ok prog w K n) (hn : 7 ≤ n) {x l a nx nl cx cl rx rl ix : Addr} {vs : List V} {cols : List (Str × List V)} {ss : List Str} {mk : Str} {marks : List V} {ps : List Nat} {ab : Bool} {Q : V → Sig → Prop} (hF : Frm K σ x l a nx nl cx cl rx rl vs cols (txs ss) mk marks)
 (hix : Ix prog w K σ ix ss.length (txs ss) ps ab) (hps : ∀ p ∈ ps, p < ss.length) (hnd : ps.Nodup) (hsd : ss.Nodup) (hl2 : ps.length ≤ 1000)
 (h : ∀ y l a nx nl cx cl ws σ', Le σ σ' → Frm K σ' y l a nx nl cx cl rx rl ws (pickC cols ps) (txs (pickS ss ps)) mk marks → Q (.ref y) σ') : CODE prog w c ρ σ (.ref (gv K "select_columns")) [.ref x, .ref ix] [] Q := by
 have hwi := hF.wide
 have hnl := hF.nlen
 rw [Ym] at hnl
 have hcl := hF.cs.len
 refine en_select_columns hK ok (by omega) fun c' ok' sc' gl' => ?_
 k_lt w
 refine Yb (ct_column_places hK ok' (by omega) hF hix hps fun y σ1 le1 hy => ?_)
 k_lt w
 have hF1 := hF.mono le1
 k_lt w
 refine Yb (ct_column_names hK ok' (by omega) hF1 (fun v hv => by obtain ⟨s, _, rfl⟩ := List.mem_map.mp hv; exact ⟨s, rfl⟩) fun m σ2 le2 hm0 hm => ?_)
 have hF2 := hF1.mono le2
 have hy2 := le2 _ _ hy
 k_lt w
 refine R_ex <| X_comp ok' [("names", .ref m)] [] (compAt (by k_lt co) (by k_lt cp) (by k_lt gs)) ?_ (hs := fun _ => rfl)
 k_lt w
 refine ⟨.list y, nats ps, fun i ys σ' => ys = txs (pickS ss (ps.take i)) ∧ σ' = σ2, ⟨rfl, hy2⟩, Yk (by rw [Yi]; omega), ⟨rfl, rfl⟩, ⟨?_, ?_⟩, ?_⟩
 · rintro i ys σ' ⟨_, rfl⟩; exact hy2
 · rintro c2 i v ys σ' ok2 gl2 k1 k2 hx ⟨rfl, rfl⟩
   obtain ⟨p, hp1, rfl⟩ := nats_get hx
   have hlt := hps p (List.mem_of_getElem? hp1)
   refine Yt ?_
   k_lt w
   refine SB_list hm (by omega) (by omega) (v := .str ss[p]) (by simp [txs, hlt]) ?_
   k_lt w
   exact ⟨(pickS_snoc hp1 (List.getElem?_eq_getElem hlt)).symm, rfl⟩
 rintro D ys σ' ⟨rfl, rfl⟩ hD
 rw [Yi, List.take_length]
 have le3 := Yc (o := .list (txs (pickS ss ps))) hD
 have hD1 : (σ'.set D (.list (txs (pickS ss ps)))) D = some (.list (txs (pickS ss ps))) := Ya
 generalize σ'.set D (.list (txs (pickS ss ps))) = σ3 at le3 hD1 ⊢
 k_lt w
 refine Yb (ct_make_unique hK ok' (by omega) (sk := .list D) ⟨rfl, hD1⟩ (pickS_nodup hsd hnd hps) (by rw [pickS_len]; omega) fun u σ4 le4 hu0 hu => ?_)
 k_lt w
 have hF4 := hF2.mono (le3.trans le4)
 have hv4 := hF4.self
 have hy4 := (le3.trans le4) _ _ hy2
 k_lt w
 refine R_ex <| X_comp ok' [("df", .ref x)] [] (compAt (by k_lt co) (by k_lt cp) (by k_lt gs)) ?_ (hs := fun _ => rfl)
 k_lt w
 refine ⟨.list y, nats ps, fun i ys σ' => Cols K σ4 ys (pickC cols (ps.take i)) ∧ σ' = σ4, ⟨rfl, hy4⟩, Yk (by rw [Yi]; omega), ⟨.nil, rfl⟩, ⟨?_, ?_⟩, ?_⟩
 · rintro i ys σ' ⟨_, rfl⟩; exact hy4
 · rintro c2 i v ys σ' ok2 gl2 k1 k2 hx ⟨hc, rfl⟩
   obtain ⟨p, hp1, rfl⟩ := nats_get hx
   have hlt : p < vs.length := by have := hps p (List.mem_of_getElem? hp1); omega
   refine (ex4 fun z lz k xs => an3 fun hz hq hvz => ?_) (hF4.cs.get (List.getElem?_eq_getElem hlt))
   refine Yt ?_
   k_lt w
   refine SB_list hv4.list (by omega) (by omega) (v := vs[p]) (by simp [hlt]) ?_
   k_lt w
   try rw [hz]
   refine ⟨?_, rfl⟩
   rw [pickC_snoc hp1 hq]
   exact hc.snoc hvz
 rintro D2 ys2 σ' ⟨hc2, rfl⟩ hD2
 rw [Yi, List.take_length] at hc2
 have le5 := Yc (o := .list ys2) hD2
 have hF5 := hF4.mono le5
 have h51 := hF5.self; have h52 := hF5.at'; have h53 := hF5.rn
 have hc5 := hc2.mono le5
 have hyl : ys2.length = ps.length := by rw [hc2.len, pickC_len]
 k_lt w
 refine Yb (ct_new_frame hK ok' (by omega) (skc := .list D2) (skn := .list u) ⟨rfl, Ya⟩ hc5 ⟨rfl, le5 _ _ hu⟩ h53 (by omega) hF5.high (by rw [Ym, pickS_len, hyl]) (fun p hp => hF5.clen p (pickC_mem hp fun q hq => by rw [← hcl]; have := hps q hq; omega)) fun x' l' a' nx' nl' cx' cl' σ6 le6 hF6 => ?_)
 k_lt w
 exact h _ _ _ _ _ _ _ _ _ (((((le1.trans le2).trans le3).trans le4).trans le5).trans le6) hF6
end
section
variable {n : Nat} {c : Cx} {ρ : Loc} {σ : Sig}
noncomputable def UNR (prog : Program) (w : World) (K : Frag) (n : Nat) (c : Cx) (target : PySem.Expr) (body : List PySem.Stmt) (Q : Out → Loc → Sig → Prop) (k : SK) (full : List V) : List V → Loc → Sig → Prop
 | [], ρ, σ => Q .next ρ σ
 | x :: xs, ρ, σ => ∀ c', Sim c c' → c'.Ok prog w K n → TGT prog w c' ρ σ target x fun ρ₁ σ₁ => STS prog w c' ρ₁ σ₁ body (LoopQ (fun ρ₂ σ₂ => Src σ₂ k full ∧ UNR prog w K n c target body Q k full xs ρ₂ σ₂) Q)
theorem S_forU (ok : c.Ok prog w K n) {target iter : PySem.Expr} {body : List PySem.Stmt} {pos : Pos} {Q : Out → Loc → Sig → Prop}
 (h : EX prog w c ρ σ iter fun x σ₁ => ∃ k xs, SrcOf σ₁ x k xs ∧ UNR prog w K n c target body Q k xs xs ρ σ₁)
 (hs : ∀ x, foldedSetIterable iter c.env x = pure x := by intro _; rfl) : ST prog w c ρ σ (.For target iter body [] pos) Q := by
 refine S_for ok (TE.mono h fun v σ₁ => ex2 fun k xs => an2 fun h1 h2 => ⟨k, xs, fun i ρ' σ' => Src σ' k xs ∧ UNR prog w K n c target body Q k xs (xs.drop i) ρ' σ', h1, ⟨h1.src, h2⟩, ⟨fun i ρ σ h => h.1, ?_, ?_⟩⟩) hs
 · rintro c' i x ρ' σ' S ok' hx ⟨_, hu⟩
   have hi := (List.getElem?_eq_some_iff.mp hx).1
   rw [List.drop_eq_getElem_cons hi] at hu
   obtain ⟨_, rfl⟩ := List.getElem?_eq_some_iff.mp hx
   exact hu c' S ok'
 · rintro ρ' σ' ⟨_, hu⟩
   rw [List.drop_length] at hu
   exact hu
theorem ct_with_names0 (hK : KOk K) (ok : c.Ok prog w K n) (hn : 1 ≤ n) {v : V} {Q : V → Sig → Prop} (h : Q v σ) : CODE prog w c ρ σ (.ref (gv K "with_names")) [v, .none] [] Q := by
 refine en_with_names hK ok (by omega) fun c' ok' sc' gl' => ?_
 k_lt w
 exact h
theorem ct_as_kind (hK : KOk K) (ok : c.Ok prog w K n) (hn : 4 ≤ n) {x l : Addr} {k : Str} {xs : List V} {nt : V} {Q : V → Sig → Prop} (hv : Vec K σ x k l xs .none) (hk1 : k ≠ "language") (hk2 : k ≠ "environment") (hl : xs.length ≤ 1000)
 (h : ∀ y ly σ', Le σ σ' → Vec K σ' y k ly xs .none → Q (.ref y) σ') : CODE prog w c ρ σ (.ref (gv K "as_kind")) [.ref x, .str k, nt] [] Q := by
 refine en_as_kind hK ok (by omega) fun c' ok' sc' gl' => ?_
 k_lt w
 refine N_list ok' (k := .list _) ⟨rfl, hv.list⟩ (by omega) fun m hm => ?_
 k_lt w
 refine mk_Vector1 hK ok' (by omega) fun y d f => ?_
 obtain ⟨le1, v1⟩ := Yh (k := k) (a := .none) hm f
 generalize Yj K (σ.set m (AObj.list xs)) y d (V.str k) (V.ref m) V.none = σ1 at le1 v1 ⊢
 k_lt w
 refine Yb (ct_names_of0 hK ok' (by omega) (hv.mono le1) hk1 hk2 ?_)
 k_lt w
 refine Yb (ct_with_names0 hK ok' (by omega) ?_)
 k_lt w
 exact h y m σ1 le1 v1
theorem ct_flag (hK : KOk K) (ok : c.Ok prog w K n) (hn : 3 ≤ n) {b : Bool} {Q : V → Sig → Prop} (h : ∀ x l σ', Le σ σ' → Vec K σ' x "logical" l [.int (if b then 1 else 0)] .none → Q (.ref x) σ') : CODE prog w c ρ σ (.ref (gv K "flag")) [.bool b] [] Q := by
 cases b with
 | true =>
  refine en_flag hK ok (by omega) fun c' ok' sc' gl' => ?_
  k_lt w
  refine fun m hm => ?_
  k_lt w
  refine mk_Vector1 hK ok' (by omega) fun y d f => ?_
  k_lt w
  exact h y m _ (Yh (k := "logical") (a := .none) hm f).1 (Yh (k := "logical") (a := .none) hm f).2
 | false =>
  refine en_flag hK ok (by omega) fun c' ok' sc' gl' => ?_
  k_lt w
  refine fun m hm => ?_
  k_lt w
  refine mk_Vector1 hK ok' (by omega) fun y d f => ?_
  k_lt w
  exact h y m _ (Yh (k := "logical") (a := .none) hm f).1 (Yh (k := "logical") (a := .none) hm f).2
theorem ct_is_true0 (hK : KOk K) (ok : c.Ok prog w K n) (hn : 1 ≤ n) {u : V} {Q : V → Sig → Prop} (h : Q u σ) : CODE prog w c ρ σ (.ref (gv K "is_true")) [.none, u] [] Q := by
 refine en_is_true hK ok (by omega) fun c' ok' sc' gl' => ?_
 k_lt w
 exact h
theorem ct_is_trueF (hK : KOk K) (ok : c.Ok prog w K n) (hn : 5 ≤ n) {x l : Addr} {u : V} {Q : V → Sig → Prop} (hv : Vec K σ x "logical" l [.int 0] .none) (h : Q (.bool false) σ) : CODE prog w c ρ σ (.ref (gv K "is_true")) [.ref x, u] [] Q := by
 refine CODE.drop (en_is_true hK ok (by omega) fun c' ok' sc' gl' => ?_)
 k_lt w
 refine fun m hm => ?_
 have le0 := Yc (o := .list []) hm
 k_lt w
 refine Yb (ct_as_kind hK ok' (by omega) (hv.mono le0) (by decide +kernel) (by decide +kernel) (by simp) fun y ly σ1 le1 hy => ?_)
 have hyl := hy.list
 k_lt w
 try refine SB_list hyl (by omega) (by omega) rfl ?_
 k_lt w
 try refine SB_list hyl (by omega) (by omega) rfl ?_
 k_lt w
 exact ⟨σ, le0.trans le1, h⟩
theorem pickL_all {xs : List V} {m : Nat} (h : xs.length = m) : pickL xs (List.range m) = xs := by
 subst h
 unfold pickL
 apply List.ext_getElem?
 intro i
 rw [List.getElem?_map]
 by_cases hi : i < xs.length
 · simp [List.getElem?_range hi, List.getD_eq_getElem?_getD, hi]
 · rw [List.getElem?_eq_none (by simpa using hi), List.getElem?_eq_none (by omega)]; rfl
theorem txs_str {ss : List Str} : ∀ v ∈ txs ss, ∃ s, v = .str s := fun v hv => by obtain ⟨s, _, rfl⟩ := List.mem_map.mp hv; exact ⟨s, rfl⟩
theorem ct_subset_keep (hK : KOk K) (ok : c.Ok prog w K n) (hn : 8 ≤ n) {x l a nx nl cx cl rx rl ix jx : Addr} {vs : List V} {cols : List (Str × List V)} {ss : List Str} {mk : Str} {marks : List V} {is js : List Nat} {ai aj : Bool} {drop : V} {Q : V → Sig → Prop} (hF : Frm K σ x l a nx nl cx cl rx rl vs cols (txs ss) mk marks) (hlab : ∀ v ∈ marks, LabOk mk v) (h0 : marks ≠ [])
 (hix : Ix prog w K σ ix marks.length (marks.map (lab mk)) is ai) (hjx : Ix prog w K σ jx ss.length (txs ss) js aj) (his : ∀ p ∈ is, p < marks.length) (hjs : ∀ p ∈ js, p < ss.length) (hin : is.Nodup) (hjn : js.Nodup) (hsd : ss.Nodup) (hil : is.length ≤ 1000) (hjl : js.length ≤ 1000)
 (hd : drop = .bool false ∨ (drop = .none ∧ js.length ≠ 1))
 (h : ∀ y l a nx nl cx cl rx rl ws σ', Le σ σ' → Frm K σ' y l a nx nl cx cl rx rl ws ((pickC cols js).map fun p => (p.1, pickL p.2 is)) (txs (pickS ss js)) mk (pickL marks is) → Q (.ref y) σ') : CODE prog w c ρ σ (.ref (gv K "subset_frame")) [.ref x, .ref ix, .ref jx, drop] [] Q := by
 refine en_subset_frame hK ok (by omega) fun c' ok' sc' gl' => ?_
 k_lt w
 refine Yb (ct_select_columns hK ok' (by omega) hF hjx hjs hjn hsd hjl fun y l1 a1 nx1 nl1 cx1 cl1 ws σ1 le1 hF1 => ?_)
 k_lt w
 have hix1 := hix.mono le1
 have hws : ws.length = js.length := by rw [hF1.cs.len, pickC_len]
 have hself1 := hF1.self
 have hsl1 := hself1.list
 k_lt w
 refine Yb (ct_is_absentX hK ok' (by omega) hix1 ?_)
 cases ai with
 | false =>
  k_lt w
  refine Yb (ct_row_placesX hK ok' (by omega) (hF.mono le1) hlab h0 hix1 fun yp σ2 le2 hyp => ?_)
  have hF2 := hF1.mono le2
  have hself2 := hF2.self
  have hsl2 := hself2.list
  rcases hd with rfl | ⟨rfl, hj1⟩
  · by_cases hj : js.length = 1
    · k_lt w
      refine Yb (ct_pick_rows hK ok' (by omega) hF2 txs_str hyp his hil hin fun y3 l3 a3 nx3 nl3 cx3 cl3 rx3 rl3 ws3 σ3 le3 hF3 => ?_)
      have hself3 := hF3.self
      have hsl3 := hself3.list
      have hws3 : ws3.length = js.length := by rw [hF3.cs.len, List.length_map, pickC_len]
      k_lt w
      exact h _ _ _ _ _ _ _ _ _ _ _ ((le1.trans le2).trans le3) hF3
    · k_lt w
      refine Yb (ct_pick_rows hK ok' (by omega) hF2 txs_str hyp his hil hin fun y3 l3 a3 nx3 nl3 cx3 cl3 rx3 rl3 ws3 σ3 le3 hF3 => ?_)
      have hself3 := hF3.self
      have hsl3 := hself3.list
      have hws3 : ws3.length = js.length := by rw [hF3.cs.len, List.length_map, pickC_len]
      k_lt w
      exact h _ _ _ _ _ _ _ _ _ _ _ ((le1.trans le2).trans le3) hF3
  · k_lt w
    refine Yb (ct_pick_rows hK ok' (by omega) hF2 txs_str hyp his hil hin fun y3 l3 a3 nx3 nl3 cx3 cl3 rx3 rl3 ws3 σ3 le3 hF3 => ?_)
    have hself3 := hF3.self
    have hsl3 := hself3.list
    have hws3 : ws3.length = js.length := by rw [hF3.cs.len, List.length_map, pickC_len]
    k_lt w
    exact h _ _ _ _ _ _ _ _ _ _ _ ((le1.trans le2).trans le3) hF3
 | true =>
  have e : is = List.range marks.length := by cases hix with | miss _ e => exact e
  have hF1' : Frm K σ1 y l1 a1 nx1 nl1 cx1 cl1 rx rl ws ((pickC cols js).map fun p => (p.1, pickL p.2 is)) (txs (pickS ss js)) mk (pickL marks is) := by
   rw [e, pickL_all rfl]
   have e2 : ((pickC cols js).map fun p => (p.1, pickL p.2 (List.range marks.length))) = pickC cols js := by
    refine (List.map_congr_left fun p hp => ?_).trans (List.map_id _)
    rw [pickL_all (hF1.clen p hp)]; rfl
   rw [e2]; exact hF1
  rcases hd with rfl | ⟨rfl, hj1⟩
  · by_cases hj : js.length = 1
    · k_lt w
      exact h _ _ _ _ _ _ _ _ _ _ _ le1 hF1'
    · k_lt w
      exact h _ _ _ _ _ _ _ _ _ _ _ le1 hF1'
  · k_lt w
    exact h _ _ _ _ _ _ _ _ _ _ _ le1 hF1'
end
section
variable {n : Nat} {c : Cx} {ρ : Loc} {σ : Sig}
theorem ct_subset_one (hK : KOk K) (ok : c.Ok prog w K n) (hn : 8 ≤ n) {x l a nx nl cx cl rx rl ix jx : Addr} {vs : List V} {cols : List (Str × List V)} {ss : List Str} {mk : Str} {marks : List V} {is : List Nat} {j : Nat} {ai aj : Bool} {k : Str} {xs : List V} {Q : V → Sig → Prop} (hF : Frm K σ x l a nx nl cx cl rx rl vs cols (txs ss) mk marks) (hlab : ∀ v ∈ marks, LabOk mk v) (h0 : marks ≠ [])
 (hix : Ix prog w K σ ix marks.length (marks.map (lab mk)) is ai) (hjx : Ix prog w K σ jx ss.length (txs ss) [j] aj) (his : ∀ p ∈ is, p < marks.length) (hjs : j < ss.length) (hin : is.Nodup) (hsd : ss.Nodup) (hil : is.length ≤ 1000) (hj : cols[j]? = some (k, xs))
 (h : ∀ y k' l' xs' a' σ', Le σ σ' → Vec K σ' y k' l' xs' a' → notBi a' = true → (ai = false → k' = k ∧ xs' = pickL xs is) → Q (.ref y) σ') : CODE prog w c ρ σ (.ref (gv K "subset_frame")) [.ref x, .ref ix, .ref jx, .none] [] Q := by
 have hjs' : ∀ p ∈ [j], p < ss.length := by intro p hp; rcases List.mem_singleton.mp hp with rfl; exact hjs
 have hpc : pickC cols [j] = [(k, xs)] := by simp [pickC, List.getD_eq_getElem?_getD, hj]
 refine en_subset_frame hK ok (by omega) fun c' ok' sc' gl' => ?_
 k_lt w
 refine Yb (ct_select_columns hK ok' (by omega) hF hjx hjs' (by simp) hsd (by simp) fun y l1 a1 nx1 nl1 cx1 cl1 ws σ1 le1 hF1 => ?_)
 k_lt w
 have hix1 := hix.mono le1
 have hws : ws.length = 1 := by rw [hF1.cs.len, pickC_len]; rfl
 have hself1 := hF1.self
 have hsl1 := hself1.list
 have hw0 : ws[0]? = some ws[0] := List.getElem?_eq_getElem (by omega)
 refine (ex4 fun z lz kz xz => an3 fun hz hq hvz => ?_) (hF1.cs.get hw0)
 rw [hpc] at hq
 obtain ⟨rfl, rfl⟩ : k = kz ∧ xs = xz := by simpa using hq
 rw [hz] at hw0
 k_lt w
 refine Yb (ct_is_absentX hK ok' (by omega) hix1 ?_)
 cases ai with
 | false =>
  k_lt w
  refine Yb (ct_row_placesX hK ok' (by omega) (hF.mono le1) hlab h0 hix1 fun yp σ2 le2 hyp => ?_)
  have hF2 := hF1.mono le2
  have hself2 := hF2.self
  have hsl2 := hself2.list
  have hxl : xs.length = marks.length := hF1.clen (k, xs) (by rw [hpc]; exact List.mem_cons_self)
  have hhi := hF.high
  k_lt w
  refine SB_list hsl2 (by omega) (by omega) hw0 ?_
  k_lt w
  refine Yb (ct_pick_items hK ok' (by omega) (hvz.mono le2) hyp (by rw [hxl]; exact his) (by omega) hil fun u lu σ3 le3 hu => ?_)
  k_lt w
  exact h u _ _ _ _ _ ((le1.trans le2).trans le3) hu rfl fun _ => ⟨rfl, rfl⟩
 | true =>
  k_lt w
  refine Yb (ct_is_absentX hK ok' (by omega) (hjx.mono le1) ?_)
  cases aj with
  | false =>
   k_lt w
   refine SB_list hsl1 (by omega) (by omega) hw0 ?_
   k_lt w
   exact h z _ _ _ _ _ le1 hvz rfl fun e => by cases e
  | true =>
   k_lt w
   exact h y _ _ _ _ _ le1 hself1 rfl fun e => by cases e
inductive Args (σ : Sig) : List V → List (V × V) → Prop
 | nil : Args σ [] []
 | cons {t : Addr} {tag v : V} {vs r} : σ t = some (.tup [tag, v]) → Args σ vs r → Args σ (.ref t :: vs) ((tag, v) :: r)
theorem Args.mono {σ σ' : Sig} {vs : List V} {r : List (V × V)} (h : Args σ vs r) (le : Le σ σ') : Args σ' vs r := by
 induction h with
 | nil => exact .nil
 | cons h _ ih => exact .cons (le _ _ h) ih
theorem Args.len {σ : Sig} {vs : List V} {r : List (V × V)} (h : Args σ vs r) : vs.length = r.length := by
 induction h with
 | nil => rfl
 | cons _ _ ih => simp [ih]
theorem Args.get {σ : Sig} {vs : List V} {r : List (V × V)} (h : Args σ vs r) : ∀ {i : Nat} {v : V}, vs[i]? = some v → ∃ t tag u, v = .ref t ∧ r[i]? = some (tag, u) ∧ σ t = some (.tup [tag, u]) := by
 induction h with
 | nil => intro i v e; cases e
 | cons h _ ih =>
  intro i v e
  cases i with
  | zero => cases e; exact jv3 _ _ _ rfl ⟨rfl, h⟩
  | succ i => exact ih (by simpa using e)
noncomputable def idxStep (l : List V) (p : V × V) : List V := if p.1 = .none then l ++ [p.2] else l
noncomputable def optStep (g : List (Str × V)) (p : V × V) : List (Str × V) := match p.1 with
 | .str s => dput g s p.2
 | _ => g
noncomputable def idxOf (r : List (V × V)) : List V := r.foldl idxStep []
noncomputable def optsOf (r : List (V × V)) : List (Str × V) := r.foldl optStep []
theorem idxOf_snoc {r : List (V × V)} {i : Nat} {p : V × V} (h : r[i]? = some p) : idxOf (r.take (i + 1)) = idxStep (idxOf (r.take i)) p := by
 unfold idxOf; rw [List.take_add_one, h]; simp
theorem optsOf_snoc {r : List (V × V)} {i : Nat} {p : V × V} (h : r[i]? = some p) : optsOf (r.take (i + 1)) = optStep (optsOf (r.take i)) p := by
 unfold optsOf; rw [List.take_add_one, h]; simp
theorem idxStep_len {l : List V} {p : V × V} : (idxStep l p).length ≤ l.length + 1 := by unfold idxStep; split <;> simp
theorem optStep_len {g : List (Str × V)} {p : V × V} : (optStep g p).length ≤ g.length + 1 := by
 unfold optStep
 split
 · exact dput_len _ _ _
 · omega
theorem ct_index_arguments (hK : KOk K) (ok : c.Ok prog w K n) (hn : 6 ≤ n) {x l a nx nl cx cl rx rl al ti : Addr} {vs : List V} {cols : List (Str × List V)} {names : List V} {mk : Str} {marks : List V} {tag : V} {rest : List V} {r : List (V × V)} {Q : V → Sig → Prop} (hF : Frm K σ x l a nx nl cx cl rx rl vs cols names mk marks)
 (ha : σ al = some (.list (.ref ti :: rest))) (ht : σ ti = some (.tup [tag, .ref x])) (hr : Args σ rest r) (hlen : rest.length ≤ 1000) (htag : ∀ p ∈ r, p.1 = .none ∨ p.1 = .str "drop" ∨ p.1 = .str "exact" ∨ p.1 = .str "value")
 (h : ∀ t il ol σ', Le σ σ' → σ' t = some (.tup [.ref x, .ref il, .ref ol]) → σ' il = some (.list (idxOf r)) → σ' ol = some (.dicS (optsOf r)) → Q (.ref t) σ') : CODE prog w c ρ σ (.ref (gv K "index_arguments")) [.ref al] [] Q := by
 refine en_index_arguments hK ok (by omega) fun c' ok' sc' gl' => ?_
 k_lt w
 refine Yb (ct_first_frame hK ok' (by omega) hF ha ht hlen ?_)
 k_lt w
 refine R_ex <| X_dict0 ok' (.dicS []) (.inl rfl) fun ol hol => ?_
 k_lt S
 have le1 := Yc (o := .dicS []) hol
 have e1 : (σ.set ol (.dicS [])) ol = some (.dicS []) := Ya
 generalize σ.set ol (.dicS []) = σ1 at le1 e1 ⊢
 k_lt w
 refine fun il hil => ?_
 have hne : il ≠ ol := by rintro rfl; rw [e1] at hil; cases hil
 have hil0 : σ il = none := by
  cases q : σ il with
  | none => rfl
  | some z => rw [le1 _ _ q] at hil; cases hil
 have le2 := le1.trans (Yc (o := .list []) hil)
 have e2 := (Yc (o := .list []) hil) _ _ e1
 have e3 : (σ1.set il (.list [])) il = some (.list []) := Ya
 generalize σ1.set il (.list []) = σ2 at le2 e2 e3 ⊢
 k_lt S
 k_lt N
 k_lt C
 refine S_for ok' ?_ (hs := fun _ => rfl)
 k_lt w
 refine ⟨al, _, rest, rfl, le2 _ _ ha, by simp; omega, .frm 1 _, fun sl hsl => ?_⟩
 have le3 := le2.trans (Yc (o := .list rest) hsl)
 have e2 := (Yc (o := .list rest) hsl) _ _ e2
 have e3 := (Yc (o := .list rest) hsl) _ _ e3
 have e4 : (σ2.set sl (.list rest)) sl = some (.list rest) := Ya
 have ne1 : sl ≠ ol := by rintro rfl; rw [le2.trans Le.refl |> fun _ => (by assumption : σ2 sl = none)] at *; simp_all
 have ne2 : sl ≠ il := by rintro rfl; simp_all
 generalize σ2.set sl (.list rest) = σ3 at le3 e2 e3 e4 ⊢
 refine ⟨.list sl, rest, fun i ρ' σ' => ∃ o o2, ρ' = ([("args", some (.ref al)), ("df", some (.ref x)), ("options", some (.ref ol)), ("indexes", some (.ref il)), ("tag", o), ("value", o2)] : List (Str × Option V)) ∧ Le σ σ' ∧ σ' sl = some (.list rest) ∧ σ' il = some (.list (idxOf (r.take i))) ∧ σ' ol = some (.dicS (optsOf (r.take i))) ∧ (idxOf (r.take i)).length ≤ i ∧ (optsOf (r.take i)).length ≤ i,
  ⟨rfl, e4⟩, jv2 _ _ rfl ⟨le3, e4, e3, e2, by simp [idxOf], by simp [optsOf]⟩, ⟨?_, ?_, ?_⟩⟩
 · refine fun i ρ' σ' => ex2 fun o o2 => an4 fun _ _ e _ => ?_; exact e
 · intro c2 i v ρ' σ' S2 ok2 hx; apply iv2; refine fun o o2 => an6 fun le f1 f2 f3 f4 f5 => ?_
   refine (ex3 fun t tg u => an3 ?_) (hr.get hx); rintro rfl; intro hri _
   have hti : σ' t = some (.tup [tg, u]) := by
    refine (ex3 fun t' tg' u' => an3 fun e hri' h' => ?_) (hr.get hx)
    cases e
    rw [hri] at hri'; cases hri'
    exact le _ _ h'
   have hi : i < rest.length := (List.getElem?_eq_some_iff.mp hx).1
   have l1 : (idxOf (r.take i)).length ≤ 100000 := by omega
   refine G_tuple ok2 (.tup t) ⟨rfl, hti⟩ (fun _ _ e => by cases e) rfl ?_
   refine G_name ok2 (by k_lt sv) ?_
   refine G_name ok2 (by k_lt sv) ?_
   show STS _ _ _ _ _ _ _
   rcases htag _ (List.mem_of_getElem? hri) with e | e | e | e
   · dsimp only at e
     subst e
     k_lt w
     refine jv2 _ _ rfl ⟨le.setD hil0, by rw [Yd ne2]; exact f1, ?_, by rw [Yd (Ne.symm hne)]; rw [optsOf_snoc hri]; exact f3, ?_, ?_⟩
     · rw [Ya, idxOf_snoc hri]; rfl
     · rw [idxOf_snoc hri]; exact Nat.le_trans idxStep_len (by omega)
     · rw [optsOf_snoc hri]; exact Nat.le_trans optStep_len (by omega)
   all_goals
    dsimp only at e
    subst e
    k_lt w
    refine I_dicS f3 (by omega) ?_
    k_lt w
    have hol0 : σ ol = none := hol
    refine jv2 _ _ rfl ⟨le.setD hol0, by rw [Yd ne1]; exact f1, by rw [Yd hne]; rw [idxOf_snoc hri]; exact f2, ?_, ?_, ?_⟩
    · rw [Ya, optsOf_snoc hri]; rfl
    · rw [idxOf_snoc hri]; exact Nat.le_trans idxStep_len (by omega)
    · rw [optsOf_snoc hri]; exact Nat.le_trans optStep_len (by omega)
 · intro ρ' σ'; apply iv2; refine fun o o2 => an6 fun le f1 f2 f3 f4 f5 => ?_
   rw [hr.len, List.take_length] at f2 f3
   k_lt w
   refine fun t ht => ?_
   k_lt w
   exact h t il ol _ (le.trans (Yc ht)) Ya (Yg ht f2) (Yg ht f3)
end
section
variable {n : Nat} {c : Cx} {ρ : Loc} {σ : Sig}
structure FD where
 cols : List (Str × List V)
 ss : List Str
 kd : Str
 marks : List V
inductive FrmE (K : Frag) (σ : Sig) (x : Addr) (f : FD) : Prop
 | mk (l a nx nl cx cl rx rl : Addr) (vs : List V) (h : Frm K σ x l a nx nl cx cl rx rl vs f.cols (txs f.ss) f.kd f.marks)
theorem FrmE.mono {x : Addr} {f : FD} {σ σ' : Sig} (h : FrmE K σ x f) (le : Le σ σ') : FrmE K σ' x f := by obtain ⟨l, a, nx, nl, cx, cl, rx, rl, vs, hF⟩ := h; exact ⟨l, a, nx, nl, cx, cl, rx, rl, vs, hF.mono le⟩
structure FD.Ok (f : FD) : Prop where
 lab : ∀ v ∈ f.marks, LabOk f.kd v
 m0 : f.marks ≠ []
 sd : f.ss.Nodup
 kn : ∀ p ∈ f.cols, p.1 = "integer" ∨ p.1 = "character"
 it : ∀ p ∈ f.cols, ∀ v ∈ p.2, LabOk p.1 v
 sc : ∀ p ∈ f.cols, ∀ v ∈ p.2, scal v = true
 ms : ∀ v ∈ f.marks, scal v = true
 ns : ∀ v ∈ txs f.ss, scal v = true
 ne : ∀ s ∈ f.ss, s ≠ ""
structure Picks (f : FD) (is js : List Nat) : Prop where
 i1 : ∀ p ∈ is, p < f.marks.length
 j1 : ∀ p ∈ js, p < f.ss.length
 i2 : is.Nodup
 j2 : js.Nodup
 i3 : is.length ≤ 1000
 j3 : js.length ≤ 1000
noncomputable def rowTexts (f : FD) : List V := f.marks.map (lab f.kd)
noncomputable def FD.part (f : FD) (is js : List Nat) : FD := ⟨(pickC f.cols js).map fun p => (p.1, pickL p.2 is), pickS f.ss js, f.kd, pickL f.marks is⟩
noncomputable def FD.side (f : FD) (js : List Nat) : FD := ⟨pickC f.cols js, pickS f.ss js, f.kd, f.marks⟩
theorem ct_bsub_keep (hK : KOk K) (ok : c.Ok prog w K n) (hn : 9 ≤ n) {x ix jx al t0 t1 t2 t3 fx fl : Addr} {f : FD} {is js : List Nat} {ai aj : Bool} {iv ev : V} {Q : V → Sig → Prop} (hF : FrmE K σ x f) (fo : f.Ok) (hp : Picks f is js)
 (hix : Ix prog w K σ ix f.marks.length (rowTexts f) is ai) (hjx : Ix prog w K σ jx f.ss.length (txs f.ss) js aj)
 (ha : σ al = some (.list [.ref t0, .ref t1, .ref t2, .ref t3])) (h0 : σ t0 = some (.tup [.none, .ref x])) (h1 : σ t1 = some (.tup [.none, .ref ix])) (h2 : σ t2 = some (.tup [.none, .ref jx])) (h3 : σ t3 = some (.tup [.str "drop", .ref fx])) (hf : Vec K σ fx "logical" fl [.int 0] .none)
 (h : ∀ y σ', Le σ σ' → FrmE K σ' y (f.part is js) → Q (.ref y) σ') : CODE prog w c ρ σ (.ref (gv K "b_subset_frame")) [iv, .ref al, ev] [] Q := by
 obtain ⟨l, a, nx, nl, cx, cl, rx, rl, vs, hF⟩ := hF
 refine en_b_subset_frame hK ok (by omega) fun c' ok' sc' gl' => ?_
 k_lt w
 refine Yb (ct_index_arguments hK ok' (by omega) hF ha h0 (.cons h1 (.cons h2 (.cons h3 .nil))) (by simp) (by simp) fun t il ol σ1 le1 ht hil hol => ?_)
 have e1 : idxOf [(V.none, V.ref ix), (V.none, V.ref jx), (V.str "drop", V.ref fx)] = [.ref ix, .ref jx] := by simp [idxOf, idxStep]
 have e2 : optsOf [(V.none, V.ref ix), (V.none, V.ref jx), (V.str "drop", V.ref fx)] = ([("drop", .ref fx)] : List (Str × V)) := by simp [optsOf, optStep, dput]
 rw [e1] at hil
 rw [e2] at hol
 refine G_tuple ok' (.tup t) ⟨rfl, ht⟩ (fun _ _ e => by cases e) rfl ?_
 refine G_name ok' (by k_lt sv) ?_
 refine G_name ok' (by k_lt sv) ?_
 refine G_name ok' (by k_lt sv) ?_
 try refine TGTS_nil ?_
 k_lt w
 refine Yb (ct_is_trueF hK ok' (by omega) (hf.mono le1) ?_)
 k_lt w
 try refine SB_list hil (by omega) (by omega) rfl ?_
 k_lt w
 try refine SB_list hil (by omega) (by omega) rfl ?_
 k_lt w
 refine Yb (ct_subset_keep hK ok' (by omega) (hF.mono le1) fo.lab fo.m0 (hix.mono le1) (hjx.mono le1) hp.i1 hp.j1 hp.i2 hp.j2 fo.sd hp.i3 hp.j3 (.inl rfl) fun y l2 a2 nx2 nl2 cx2 cl2 rx2 rl2 ws σ2 le2 hF2 => ?_)
 k_lt w
 exact h y σ2 (le1.trans le2) ⟨_, _, _, _, _, _, _, _, _, hF2⟩
theorem ct_bsub_two (hK : KOk K) (ok : c.Ok prog w K n) (hn : 9 ≤ n) {x ix jx al t0 t1 t2 : Addr} {f : FD} {is js : List Nat} {ai aj : Bool} {iv ev : V} {Q : V → Sig → Prop} (hF : FrmE K σ x f) (fo : f.Ok) (hp : Picks f is js)
 (hix : Ix prog w K σ ix f.marks.length (rowTexts f) is ai) (hjx : Ix prog w K σ jx f.ss.length (txs f.ss) js aj) (hj : js.length ≠ 1)
 (ha : σ al = some (.list [.ref t0, .ref t1, .ref t2])) (h0 : σ t0 = some (.tup [.none, .ref x])) (h1 : σ t1 = some (.tup [.none, .ref ix])) (h2 : σ t2 = some (.tup [.none, .ref jx]))
 (h : ∀ y σ', Le σ σ' → FrmE K σ' y (f.part is js) → Q (.ref y) σ') : CODE prog w c ρ σ (.ref (gv K "b_subset_frame")) [iv, .ref al, ev] [] Q := by
 obtain ⟨l, a, nx, nl, cx, cl, rx, rl, vs, hF⟩ := hF
 refine en_b_subset_frame hK ok (by omega) fun c' ok' sc' gl' => ?_
 k_lt w
 refine Yb (ct_index_arguments hK ok' (by omega) hF ha h0 (.cons h1 (.cons h2 .nil)) (by simp) (by simp) fun t il ol σ1 le1 ht hil hol => ?_)
 have e1 : idxOf [(V.none, V.ref ix), (V.none, V.ref jx)] = [.ref ix, .ref jx] := by simp [idxOf, idxStep]
 have e2 : optsOf [(V.none, V.ref ix), (V.none, V.ref jx)] = [] := by simp [optsOf, optStep, dput]
 rw [e1] at hil
 rw [e2] at hol
 refine G_tuple ok' (.tup t) ⟨rfl, ht⟩ (fun _ _ e => by cases e) rfl ?_
 refine G_name ok' (by k_lt sv) ?_
 refine G_name ok' (by k_lt sv) ?_
 refine G_name ok' (by k_lt sv) ?_
 try refine TGTS_nil ?_
 k_lt w
 try refine C_inS' (o := none) ok' hol (dlook_nil _) ?_
 k_lt w
 try refine SB_list hil (by omega) (by omega) rfl ?_
 k_lt w
 try refine SB_list hil (by omega) (by omega) rfl ?_
 k_lt w
 refine Yb (ct_subset_keep hK ok' (by omega) (hF.mono le1) fo.lab fo.m0 (hix.mono le1) (hjx.mono le1) hp.i1 hp.j1 hp.i2 hp.j2 fo.sd hp.i3 hp.j3 (.inr ⟨rfl, hj⟩) fun y l2 a2 nx2 nl2 cx2 cl2 rx2 rl2 ws σ2 le2 hF2 => ?_)
 k_lt w
 exact h y σ2 (le1.trans le2) ⟨_, _, _, _, _, _, _, _, _, hF2⟩
theorem ct_bsub_one (hK : KOk K) (ok : c.Ok prog w K n) (hn : 9 ≤ n) {x ix jx al t0 t1 t2 : Addr} {f : FD} {is : List Nat} {j : Nat} {ai aj : Bool} {k : Str} {xs : List V} {iv ev : V} {Q : V → Sig → Prop} (hF : FrmE K σ x f) (fo : f.Ok) (hp : Picks f is [j])
 (hix : Ix prog w K σ ix f.marks.length (rowTexts f) is ai) (hjx : Ix prog w K σ jx f.ss.length (txs f.ss) [j] aj) (hj : f.cols[j]? = some (k, xs))
 (ha : σ al = some (.list [.ref t0, .ref t1, .ref t2])) (h0 : σ t0 = some (.tup [.none, .ref x])) (h1 : σ t1 = some (.tup [.none, .ref ix])) (h2 : σ t2 = some (.tup [.none, .ref jx]))
 (h : ∀ y k' l' xs' a' σ', Le σ σ' → Vec K σ' y k' l' xs' a' → notBi a' = true → (ai = false → k' = k ∧ xs' = pickL xs is) → Q (.ref y) σ') : CODE prog w c ρ σ (.ref (gv K "b_subset_frame")) [iv, .ref al, ev] [] Q := by
 obtain ⟨l, a, nx, nl, cx, cl, rx, rl, vs, hF⟩ := hF
 refine en_b_subset_frame hK ok (by omega) fun c' ok' sc' gl' => ?_
 k_lt w
 refine Yb (ct_index_arguments hK ok' (by omega) hF ha h0 (.cons h1 (.cons h2 .nil)) (by simp) (by simp) fun t il ol σ1 le1 ht hil hol => ?_)
 have e1 : idxOf [(V.none, V.ref ix), (V.none, V.ref jx)] = [.ref ix, .ref jx] := by simp [idxOf, idxStep]
 have e2 : optsOf [(V.none, V.ref ix), (V.none, V.ref jx)] = [] := by simp [optsOf, optStep, dput]
 rw [e1] at hil
 rw [e2] at hol
 refine G_tuple ok' (.tup t) ⟨rfl, ht⟩ (fun _ _ e => by cases e) rfl ?_
 refine G_name ok' (by k_lt sv) ?_
 refine G_name ok' (by k_lt sv) ?_
 refine G_name ok' (by k_lt sv) ?_
 try refine TGTS_nil ?_
 k_lt w
 try refine C_inS' (o := none) ok' hol (dlook_nil _) ?_
 k_lt w
 try refine SB_list hil (by omega) (by omega) rfl ?_
 k_lt w
 try refine SB_list hil (by omega) (by omega) rfl ?_
 k_lt w
 refine Yb (ct_subset_one hK ok' (by omega) (hF.mono le1) fo.lab fo.m0 (hix.mono le1) (hjx.mono le1) hp.i1 (hp.j1 j List.mem_cons_self) hp.i2 fo.sd hp.i3 hj fun y k2 l2 xs2 a2 σ2 le2 hv hb he => ?_)
 k_lt w
 exact h y _ _ _ _ σ2 (le1.trans le2) hv hb he
theorem pickC_all {xs : List (Str × List V)} {m : Nat} (h : xs.length = m) : pickC xs (List.range m) = xs := by
 subst h
 unfold pickC
 apply List.ext_getElem?
 intro i
 rw [List.getElem?_map]
 by_cases hi : i < xs.length
 · simp [List.getElem?_range hi, List.getD_eq_getElem?_getD, hi]
 · rw [List.getElem?_eq_none (by simpa using hi), List.getElem?_eq_none (by omega)]; rfl
theorem pickS_all {xs : List Str} {m : Nat} (h : xs.length = m) : pickS xs (List.range m) = xs := by
 subst h
 unfold pickS
 apply List.ext_getElem?
 intro i
 rw [List.getElem?_map]
 by_cases hi : i < xs.length
 · simp [List.getElem?_range hi, List.getD_eq_getElem?_getD, hi]
 · rw [List.getElem?_eq_none (by simpa using hi), List.getElem?_eq_none (by omega)]; rfl
theorem Frm.sl {x l a nx nl cx cl rx rl : Addr} {vs : List V} {cols : List (Str × List V)} {ss : List Str} {mk : Str} {marks : List V} (h : Frm K σ x l a nx nl cx cl rx rl vs cols (txs ss) mk marks) : ss.length = cols.length ∧ vs.length = cols.length := by
 have h1 := h.nlen
 have h2 := h.cs.len
 rw [Ym] at h1
 omega
theorem ct_bsub_side (hK : KOk K) (ok : c.Ok prog w K n) (hn : 8 ≤ n) {x jx al t0 t1 : Addr} {f : FD} {js : List Nat} {aj : Bool} {iv ev : V} {Q : V → Sig → Prop} (hF : FrmE K σ x f) (fo : f.Ok) (hjs : ∀ p ∈ js, p < f.ss.length) (hjn : js.Nodup) (hjl : js.length ≤ 1000)
 (hjx : Ix prog w K σ jx f.ss.length (txs f.ss) js aj)
 (ha : σ al = some (.list [.ref t0, .ref t1])) (h0 : σ t0 = some (.tup [.none, .ref x])) (h1 : σ t1 = some (.tup [.none, .ref jx]))
 (h : ∀ y σ', Le σ σ' → FrmE K σ' y (f.side js) → Q (.ref y) σ') : CODE prog w c ρ σ (.ref (gv K "b_subset_frame")) [iv, .ref al, ev] [] Q := by
 have hFE := hF
 obtain ⟨l, a, nx, nl, cx, cl, rx, rl, vs, hF⟩ := hF
 refine en_b_subset_frame hK ok (by omega) fun c' ok' sc' gl' => ?_
 k_lt w
 refine Yb (ct_index_arguments hK ok' (by omega) hF ha h0 (.cons h1 .nil) (by simp) (by simp) fun t il ol σ1 le1 ht hil hol => ?_)
 have e1 : idxOf [(V.none, V.ref jx)] = [.ref jx] := by simp [idxOf, idxStep]
 have e2 : optsOf [(V.none, V.ref jx)] = [] := by simp [optsOf, optStep, dput]
 rw [e1] at hil
 rw [e2] at hol
 refine G_tuple ok' (.tup t) ⟨rfl, ht⟩ (fun _ _ e => by cases e) rfl ?_
 refine G_name ok' (by k_lt sv) ?_
 refine G_name ok' (by k_lt sv) ?_
 refine G_name ok' (by k_lt sv) ?_
 try refine TGTS_nil ?_
 k_lt w
 try refine C_inS' (o := none) ok' hol (dlook_nil _) ?_
 k_lt w
 try refine SB_list hil (by omega) (by omega) rfl ?_
 have hjx1 := hjx.mono le1
 have hjx2 := hjx1
 cases hjx1 with
 | vec g1 g2 g3 =>
  rcases g2 with rfl | rfl | rfl
  all_goals
   k_lt w
   try refine SB_list hil (by omega) (by omega) rfl ?_
   k_lt w
   refine Yb (ct_select_columns hK ok' (by omega) (hF.mono le1) hjx2 hjs hjn fo.sd hjl fun y l2 a2 nx2 nl2 cx2 cl2 ws σ2 le2 hF2 => ?_)
   k_lt w
   exact h y σ2 (le1.trans le2) ⟨_, _, _, _, _, _, _, _, _, hF2⟩
 | miss g1 g2 =>
  try refine O_get hK ok' g1 (by decide +kernel) .head rfl ?_
  k_lt w
  refine h x σ1 le1 ?_
  have e3 : f.side js = f := by
   subst g2
   unfold FD.side
   rw [pickC_all hF.sl.1.symm, pickS_all rfl]
  rw [e3]
  exact hFE.mono le1
end
section
variable {n : Nat} {c : Cx} {ρ : Loc} {σ : Sig}
theorem ct_kind_order (hK : KOk K) (ok : c.Ok prog w K n) (hn : 1 ≤ n) {k : Str} {j : Nat} {Q : V → Sig → Prop} (hk : inOk (.str k) kinds7V = true) (hi : isIn (.str k) kinds7V = true) (hj : kindAt k j = true) (h : Q (.int (j : Nat)) σ) : CODE prog w c ρ σ (.ref (gv K "kind_order")) [.str k] [] Q := by
 refine CODE.drop (en_kind_order hK ok (by omega) fun c' ok' sc' gl' => ?_)
 k_lt w
 refine fun t ht => ?_
 have le := Yc (o := .tup kinds7V) ht
 have e : (σ.set t (.tup kinds7V)) t = some (.tup kinds7V) := Ya
 have e2 : (σ.set t (.tup kinds7V)) t = some (.tup (kinds7.map V.str)) := Ya
 show RUN _ _ _ _ _ (σ.set t (.tup kinds7V))
 generalize σ.set t (.tup kinds7V) = σ1 at le e e2 ⊢
 k_lt w
 refine C_inT' ok' e hk hi ?_
 k_lt w
 refine Q_index ok' e2 (kindAt_spec hj).1 (kindAt_spec hj).2 ?_
 k_lt w
 exact ⟨σ, le, h⟩
theorem ct_common_kind (hK : KOk K) (ok : c.Ok prog w K n) (hn : 2 ≤ n) {k1 k2 k : Str} {kl : Addr} {Q : V → Sig → Prop} (hl : σ kl = some (.list [.str k1, .str k2])) (hk : (k1 = "integer" ∧ k2 = "integer" ∧ k = "integer") ∨ (k1 = "character" ∧ k2 = "character" ∧ k = "character") ∨ (k1 = "character" ∧ k2 = "integer" ∧ k = "character"))
 (h : Q (.str k) σ) : CODE prog w c ρ σ (.ref (gv K "common_kind")) [.ref kl] [] Q := by
 refine CODE.drop (en_common_kind hK ok (by omega) fun c' ok' sc' gl' => ?_)
 k_lt w
 refine fun t ht => ?_
 have le := Yc (o := .tup kinds7V) ht
 have e : (σ.set t (.tup kinds7V)) t = some (.tup kinds7V) := Ya
 show RUN _ _ _ _ _ (σ.set t (.tup kinds7V))
 generalize σ.set t (.tup kinds7V) = σ1 at le e ⊢
 have hl1 := le _ _ hl
 rcases hk with ⟨rfl, rfl, rfl⟩ | ⟨rfl, rfl, rfl⟩ | ⟨rfl, rfl, rfl⟩
 all_goals
  k_lt w
  refine S_forU ok' ?_ (hs := fun _ => rfl)
  k_lt w
  refine ⟨.list kl, _, ⟨rfl, hl1⟩, ?_⟩
  intro c2 S2 ok2
  have gl2 := S2.gl.trans gl'
  k_lt w
  first
   | refine Yb (ct_kind_order hK ok2 (by omega) (j := 2) (by decide +kernel) (by decide +kernel) (by decide +kernel) ?_)
   | refine Yb (ct_kind_order hK ok2 (by omega) (j := 4) (by decide +kernel) (by decide +kernel) (by decide +kernel) ?_)
  k_lt w
  refine M_max ok2 ?_
  k_lt w
  refine ⟨hl1, ?_⟩
  intro c3 S3 ok3
  have gl3 := S3.gl.trans gl'
  k_lt w
  first
   | refine Yb (ct_kind_order hK ok3 (by omega) (j := 2) (by decide +kernel) (by decide +kernel) (by decide +kernel) ?_)
   | refine Yb (ct_kind_order hK ok3 (by omega) (j := 4) (by decide +kernel) (by decide +kernel) (by decide +kernel) ?_)
  k_lt w
  refine M_max ok3 ?_
  k_lt w
  refine ⟨hl1, ?_⟩
  show Then _ _ _ _ _
  k_lt w
  try refine SB_tup e (by omega) (by omega) rfl ?_
  k_lt w
  exact ⟨σ, le, h⟩
theorem ct_is_factor (hK : KOk K) (ok : c.Ok prog w K n) (hn : 3 ≤ n) {x l : Addr} {k : Str} {xs : List V} {Q : V → Sig → Prop} (hv : Vec K σ x k l xs .none) (hk : k = "integer" ∨ k = "character") (h : Q (.bool false) σ) : CODE prog w c ρ σ (.ref (gv K "is_factor")) [.ref x] [] Q := by
 rcases hk with rfl | rfl
 · refine CODE.drop (en_is_factor hK ok (by omega) fun c' ok' sc' gl' => ?_)
   k_lt w
   refine Yb (ct_class_attr0 hK ok' (by omega) hv fun m hm => ?_)
   k_lt w
   refine C_inL' (b := false) ok' Ya (by decide +kernel) (by decide +kernel) ?_
   k_lt w
   exact ⟨σ, Yc hm, h⟩
 · refine en_is_factor hK ok (by omega) fun c' ok' sc' gl' => ?_
   k_lt w
   exact h
theorem ct_to_text (hK : KOk K) (ok : c.Ok prog w K n) (hn : 1 ≤ n) {i : Int} {Q : V → Sig → Prop} (hi : i.natAbs < 1000000) (h : Q (lab "integer" (.int i)) σ) : CODE prog w c ρ σ (.ref (gv K "to_text")) [.str "integer", .int i] [] Q := by
 refine en_to_text hK ok (by omega) fun c' ok' sc' gl' => ?_
 k_lt w
 refine S_str hi ?_
 k_lt w
 exact h
theorem ct_is_atomic_kind (hK : KOk K) (ok : c.Ok prog w K n) (hn : 1 ≤ n) {Q : V → Sig → Prop} (h : Q (.bool true) σ) : CODE prog w c ρ σ (.ref (gv K "is_atomic_kind")) [.str "integer"] [] Q := by
 refine en_is_atomic_kind hK ok (by omega) fun c' ok' sc' gl' => ?_
 k_lt w
 exact h
theorem ct_item_as (hK : KOk K) (ok : c.Ok prog w K n) (hn : 2 ≤ n) {i : Int} {nt : V} {Q : V → Sig → Prop} (hi : i.natAbs < 1000000) (h : Q (lab "integer" (.int i)) σ) : CODE prog w c ρ σ (.ref (gv K "item_as")) [.str "integer", .int i, .str "character", nt] [] Q := by
 refine en_item_as hK ok (by omega) fun c' ok' sc' gl' => ?_
 k_lt w
 refine Yb (ct_is_atomic_kind hK ok' (by omega) ?_)
 k_lt w
 refine Yb (ct_to_text hK ok' (by omega) hi ?_)
 k_lt w
 exact h
noncomputable def smallInt (v : V) : Prop := ∃ i : Int, v = .int i ∧ i.natAbs < 1000000
theorem ct_as_kind_text (hK : KOk K) (ok : c.Ok prog w K n) (hn : 4 ≤ n) {x l : Addr} {xs : List V} {nt : V} {Q : V → Sig → Prop} (hv : Vec K σ x "integer" l xs .none) (hi : ∀ v ∈ xs, smallInt v) (hl : xs.length ≤ 1000)
 (h : ∀ y ly σ', Le σ σ' → Vec K σ' y "character" ly (xs.map (lab "integer")) .none → Q (.ref y) σ') : CODE prog w c ρ σ (.ref (gv K "as_kind")) [.ref x, .str "character", nt] [] Q := by
 refine en_as_kind hK ok (by omega) fun c' ok' sc' gl' => ?_
 k_lt C
 k_lt st
 k_lt w
 refine R_st <| S_assign_comp ok' [("v", .ref x), ("kind", .str "character"), ("notes", nt)] [("item_as", .ref (gv K "item_as"))] (compAt (by k_lt co) (by k_lt cp) (by k_lt gs)) ?_ (swapsT ok' sc' (by decide +kernel)) (hs := fun _ => rfl)
 k_lt w
 refine ⟨.list l, xs, fun i ys σ' => ys = (xs.take i).map (lab "integer") ∧ σ' = σ, ⟨rfl, hv.list⟩, Yk (by omega), ⟨rfl, rfl⟩, ⟨?_, ?_⟩, ?_⟩
 · rintro i ys σ' ⟨_, rfl⟩; exact hv.list
 · rintro c2 i v ys σ' ok2 gl2 k1 k2 hx ⟨rfl, rfl⟩
   obtain ⟨z, rfl, hz⟩ := hi v (List.mem_of_getElem? hx)
   refine Yt ?_
   k_lt w
   refine Yb (ct_item_as hK ok2 (by omega) hz ?_)
   k_lt w
   exact ⟨by rw [List.take_add_one, hx]; simp, rfl⟩
 rintro D ys σ' ⟨rfl, rfl⟩ hD
 rw [List.take_length]
 have le0 := Yc (o := .list (xs.map (lab "integer"))) hD
 have hD1 : (σ'.set D (.list (xs.map (lab "integer")))) D = some (.list (xs.map (lab "integer"))) := Ya
 generalize σ'.set D (.list (xs.map (lab "integer"))) = σ1 at le0 hD1 ⊢
 k_lt w
 refine N_list ok' (k := .list _) ⟨rfl, hD1⟩ (by simp; omega) fun m hm => ?_
 k_lt w
 refine mk_Vector1 hK ok' (by omega) fun y d f => ?_
 obtain ⟨le1, v1⟩ := Yh (k := "character") (a := .none) hm f
 generalize Yj K (σ1.set m (AObj.list (xs.map (lab "integer")))) y d (V.str "character") (V.ref m) V.none = σ2 at le1 v1 ⊢
 k_lt w
 refine Yb (ct_names_of0 hK ok' (by omega) (hv.mono (le0.trans le1)) (by decide +kernel) (by decide +kernel) ?_)
 k_lt w
 refine Yb (ct_with_names0 hK ok' (by omega) ?_)
 k_lt w
 exact h y m σ2 (le0.trans le1) v1
theorem ct_kind_items (hK : KOk K) (ok : c.Ok prog w K n) (hn : 5 ≤ n) {x l : Addr} {k k2 : Str} {xs : List V} {nt : V} {Q : V → Sig → Prop} (hv : Vec K σ x k l xs .none) (hk : k2 = k ∨ (k = "integer" ∧ k2 = "character" ∧ ∀ v ∈ xs, smallInt v)) (hl : xs.length ≤ 1000)
 (h : ∀ ly σ', Le σ σ' → σ' ly = some (.list (if k2 = k then xs else xs.map (lab "integer"))) → Q (.ref ly) σ') : CODE prog w c ρ σ (.ref (gv K "kind_items")) [.ref x, .str k2, nt] [] Q := by
 rcases hk with rfl | ⟨rfl, rfl, hs⟩
 · refine en_kind_items hK ok (by omega) fun c' ok' sc' gl' => ?_
   k_lt w
   refine h l σ Le.refl ?_
   rw [if_pos rfl]; exact hv.list
 · refine en_kind_items hK ok (by omega) fun c' ok' sc' gl' => ?_
   k_lt w
   refine Yb (ct_as_kind_text hK ok' (by omega) hv hs hl fun y ly σ1 le1 hy => ?_)
   k_lt w
   refine h ly σ1 le1 ?_
   rw [if_neg (by decide +kernel)]; exact hy.list
end
section
variable {n : Nat} {c : Cx} {ρ : Loc} {σ : Sig}
noncomputable def putN (xs : List V) (ps : List Nat) (ys : List V) (i : Nat) : List V := (List.range i).foldl (fun acc s => acc.set (ps.getD s 0) (ys.getD (s % ys.length) .none)) xs
theorem putN_succ {xs : List V} {ps : List Nat} {ys : List V} {i : Nat} : putN xs ps ys (i + 1) = (putN xs ps ys i).set (ps.getD i 0) (ys.getD (i % ys.length) .none) := by simp [putN, List.range_succ]
theorem putN_len {xs : List V} {ps : List Nat} {ys : List V} {i : Nat} : (putN xs ps ys i).length = xs.length := by
 induction i with
 | zero => rfl
 | succ i ih => rw [putN_succ, List.length_set, ih]
theorem fmodN (i m : Nat) : ((i : Nat) : Int).fmod (m : Nat) = ((i % m : Nat) : Int) := by
 rw [Int.fmod_eq_emod_of_nonneg _ (by omega)]; rfl
theorem ct_put_places (hK : KOk K) (ok : c.Ok prog w K n) (hn : 6 ≤ n) {x cl pl v vl : Addr} {k kv : Str} {xs ys : List V} {ps : List Nat} {nt : V} {Q : V → Sig → Prop} (hv : Vec K σ x k cl xs .none) (hw : Vec K σ v kv vl ys .none) (hp : σ pl = some (.list (nats ps)))
 (hk : (k = "integer" ∧ kv = "integer") ∨ (k = "character" ∧ kv = "character") ∨ (k = "character" ∧ kv = "integer" ∧ ∀ v ∈ ys, smallInt v)) (hps : ∀ p ∈ ps, p < xs.length) (hy : ys ≠ []) (l1 : xs.length ≤ 1000) (l2 : ys.length ≤ 1000) (l3 : ps.length ≤ 1000)
 (h : ∀ y ly σ', Le σ σ' → σ ly = none → Vec K σ' y k ly (putN xs ps (if k = kv then ys else ys.map (lab "integer")) ps.length) .none → Q (.ref y) σ') : CODE prog w c ρ σ (.ref (gv K "put_places")) [.ref x, .ref pl, .ref v, nt] [] Q := by
 refine en_put_places hK ok (by omega) fun c' ok' sc' gl' => ?_
 k_lt w
 refine Yb (ct_is_factor hK ok' (by omega) hv (by rcases hk with ⟨a, _⟩ | ⟨a, _⟩ | ⟨a, _⟩ <;> simp [a]) ?_)
 k_lt w
 refine Yb (ct_is_factor hK ok' (by omega) hw (by rcases hk with ⟨_, a⟩ | ⟨_, a⟩ | ⟨_, a, _⟩ <;> simp [a]) ?_)
 k_lt w
 refine fun kl hkl => ?_
 k_lt w
 have hk3 : (k = "integer" ∧ kv = "integer" ∧ k = "integer") ∨ (k = "character" ∧ kv = "character" ∧ k = "character") ∨ (k = "character" ∧ kv = "integer" ∧ k = "character") := by
  rcases hk with ⟨a, b⟩ | ⟨a, b⟩ | ⟨a, b, _⟩
  · exact .inl ⟨a, b, a⟩
  · exact .inr (.inl ⟨a, b, a⟩)
  · exact .inr (.inr ⟨a, b, a⟩)
 k_lt w
 refine Yb (ct_common_kind hK ok' (by omega) Ya hk3 ?_)
 have le1 := Yc (o := .list [.str k, .str kv]) hkl
 generalize σ.set kl (.list [.str k, .str kv]) = σ1 at le1 ⊢
 k_lt w
 have hk2 : k = kv ∨ (kv = "integer" ∧ k = "character" ∧ ∀ v ∈ ys, smallInt v) := by
  rcases hk with ⟨a, b⟩ | ⟨a, b⟩ | ⟨a, b, d⟩
  · exact .inl (a.trans b.symm)
  · exact .inl (a.trans b.symm)
  · exact .inr ⟨b, a, d⟩
 k_lt w
 refine Yb (ct_kind_items hK ok' (by omega) (hw.mono le1) hk2 l2 fun il σ2 le2 hil => ?_)
 have hzl : (if k = kv then ys else ys.map (lab "integer")).length = ys.length := by split <;> simp
 generalize (if k = kv then ys else ys.map (lab "integer")) = zs at hil hzl h
 have hz0 : 0 < zs.length := by rw [hzl]; exact List.length_pos_iff.mpr hy
 k_lt w
 refine Yb (ct_kind_items hK ok' (by omega) ((hv.mono le1).mono le2) (.inl rfl) l1 fun jl σ3 le3 hjl => ?_)
 k_lt w
 try rw [if_pos rfl] at hjl
 k_lt w
 refine N_list ok' (k := .list _) ⟨rfl, hjl⟩ (by omega) fun ml hml => ?_
 have hvm := (((hv.mono le1).mono le2).mono le3).mono (Yc (o := .list xs) hml)
 k_lt w
 refine Yb (ct_kept_attrs hK ok' (by omega) hvm ?_)
 k_lt w
 refine mk_Vector hK ok' (by omega) fun y d f => ?_
 obtain ⟨le4, hyv⟩ := Yh (k := k) (a := .none) hml f
 have leA := (le1.trans le2).trans le3
 generalize Yj K (σ3.set ml (AObj.list xs)) y d (V.str k) (V.ref ml) V.none = σ4 at le4 hyv ⊢
 k_lt w
 have hpl4 := (leA.trans le4) _ _ hp
 have hnp : (nats ps).length ≤ 100000 := by rw [Yi]; omega
 refine S_for ok' ?_ (hs := fun _ => rfl)
 k_lt w
 try rw [Yi]
 k_lt w
 refine R_one ok' fun r hr => ?_
 have le5 := le4.trans (Yc (o := .rng 0 ps.length) hr)
 have hy5 := hyv.mono (Yc (o := .rng 0 ps.length) hr)
 have hr5 : (σ4.set r (.rng 0 ps.length)) r = some (.rng 0 ps.length) := Ya
 generalize σ4.set r (.rng 0 ps.length) = σ5 at le5 hy5 hr5 ⊢
 refine ⟨.rng 0 ps.length, spanZ 0 ps.length, fun i ρ' σ' => ∃ o, ρ' = ([("column", some (.ref x)), ("places", some (.ref pl)), ("value", some (.ref v)), ("notes", some nt), ("kind", some (.str k)), ("items", some (.ref il)), ("made", some (.ref y)), ("step", o)] : List (Str × Option V)) ∧ Le σ3 σ' ∧ Vec K σ' y k ml (putN xs ps zs i) .none,
  Yr hr5 (by omega), jv1 _ rfl ⟨le5, hy5⟩, ⟨?_, ?_, ?_⟩⟩
 · rintro i ρ' σ' _; rfl
 · intro c2 i u ρ' σ' S2 ok2 hx; apply iv1; intro o; rintro ⟨le, hyi⟩
   obtain ⟨hi, rfl⟩ := Yn hx
   have gl2 := S2.gl.trans gl'
   have hil2 := (le3.trans le) _ _ hil
   have hpl2 := (leA.trans le) _ _ hp
   have hlt := hps ps[i] (List.getElem_mem hi)
   have hzn : zs.length ≤ 100000 := by omega
   refine G_name ok2 (by k_lt sv) ?_
   k_lt w
   refine B_mod (by omega) ?_
   k_lt w
   try rw [fmodN]
   have hm := Nat.mod_lt i hz0
   k_lt w
   refine SB_list hil2 (by omega) (by omega) (getD_get hm) ?_
   k_lt w
   refine SB_list hpl2 (by omega) (by omega) (v := .int (ps[i] : Nat)) (by simp [nats, hi]) ?_
   k_lt w
   refine I_set hyi.list (by omega) (by omega) (by rw [putN_len]; omega) ?_
   k_lt w
   refine jv1 _ rfl ⟨le.setD hml, ?_⟩
   have e : (putN xs ps zs i).set ((ps[i] : Nat) : Int).toNat (zs.getD (i % zs.length) .none) = putN xs ps zs (i + 1) := by
    rw [putN_succ, List.getD_eq_getElem?_getD, List.getD_eq_getElem?_getD, List.getElem?_eq_getElem hi]; rfl
   rw [e]
   exact hyi.setList
 · intro ρ' σ'; apply iv1; intro o; rintro ⟨le, hyi⟩
   rw [Yf] at hyi
   k_lt w
   refine h y ml σ' (leA.trans le) ?_ hyi
   cases q : σ ml with
   | none => rfl
   | some z => rw [leA _ _ q] at hml; cases hml
theorem ct_fitted_column (hK : KOk K) (ok : c.Ok prog w K n) (hn : 3 ≤ n) {x l : Addr} {k : Str} {xs : List V} {m : Nat} {Q : V → Sig → Prop} (hv : Vec K σ x k l xs .none) (hm : xs.length = m) (hl : m ≤ 1000)
 (h : ∀ y σ', Le σ σ' → Vec K σ' y k l xs .none → Q (.ref y) σ') : CODE prog w c ρ σ (.ref (gv K "fitted_column")) [.ref x, .int m] [] Q := by
 subst hm
 have hvl := hv.list
 refine en_fitted_column hK ok (by omega) fun c' ok' sc' gl' => ?_
 k_lt w
 refine Yb (ct_is_vector hK ok' (by omega) hv ?_)
 k_lt w
 refine Yb (ct_kept_attrs hK ok' (by omega) hv ?_)
 k_lt w
 refine mk_Vector hK ok' (by omega) fun y d f => ?_
 k_lt w
 exact h y _ (newVec_le f) (newVec_vec f hvl)
noncomputable def IxV (prog : Program) (w : World) (K : Frag) (σ : Sig) (v : V) (m : Nat) (texts : List V) (ps : List Nat) (ab : Bool) : Prop := (v = .none ∧ ab = true ∧ ps = List.range m) ∨ ∃ a, v = .ref a ∧ Ix prog w K σ a m texts ps ab
theorem IxV.mono {v : V} {m : Nat} {texts : List V} {ps : List Nat} {ab : Bool} {σ σ' : Sig} (h : IxV prog w K σ v m texts ps ab) (le : Le σ σ') : IxV prog w K σ' v m texts ps ab := by
 rcases h with h | ⟨a, h1, h2⟩
 · exact .inl h
 · exact .inr ⟨a, h1, h2.mono le⟩
theorem IxV.all {v : V} {m : Nat} {texts : List V} {ps : List Nat} (h : IxV prog w K σ v m texts ps true) : ps = List.range m := by
 rcases h with ⟨_, _, h⟩ | ⟨a, _, h⟩
 · exact h
 · cases h with | miss _ h => exact h
theorem IxV.vec {v : V} {m : Nat} {texts : List V} {ps : List Nat} (h : IxV prog w K σ v m texts ps false) : ∃ a, v = .ref a ∧ ∀ b, PosOk prog w K σ a m texts b ps := by
 rcases h with ⟨_, h, _⟩ | ⟨a, h0, h⟩
 · cases h
 · cases h with | vec _ _ h => exact ⟨a, h0, h⟩
theorem ct_is_absentV (hK : KOk K) (ok : c.Ok prog w K n) (hn : 1 ≤ n) {v : V} {m : Nat} {texts : List V} {ps : List Nat} {ab : Bool} {Q : V → Sig → Prop} (hix : IxV prog w K σ v m texts ps ab) (h : Q (.bool ab) σ) : CODE prog w c ρ σ (.ref (gv K "is_absent")) [v] [] Q := by
 rcases hix with ⟨rfl, rfl, _⟩ | ⟨a, rfl, h2⟩
 · exact ct_is_absent0 hK ok hn h
 · exact ct_is_absentX hK ok hn h2 h
theorem ct_part_rows (hK : KOk K) (ok : c.Ok prog w K n) (hn : 6 ≤ n) {x l a nx nl cx cl rx rl : Addr} {vs : List V} {cols : List (Str × List V)} {names : List V} {mk : Str} {marks : List V} {iv : V} {ps : List Nat} {ab : Bool} {Q : V → Sig → Prop} (hF : Frm K σ x l a nx nl cx cl rx rl vs cols names mk marks) (hlab : ∀ v ∈ marks, LabOk mk v) (h0 : marks ≠ [])
 (hix : IxV prog w K σ iv marks.length (marks.map (lab mk)) ps ab) (hps : ∀ p ∈ ps, p < marks.length)
 (h : ∀ t pl ad σ', Le σ σ' → σ' t = some (.tup [.ref pl, .int marks.length, ad]) → σ' pl = some (.list (nats ps)) → Q (.ref t) σ') : CODE prog w c ρ σ (.ref (gv K "part_rows")) [.ref x, iv] [] Q := by
 have hhi := hF.high
 cases ab with
 | true =>
  have e := hix.all
  refine en_part_rows hK ok (by omega) fun c' ok' sc' gl' => ?_
  k_lt w
  refine Yb (ct_frame_rows hK ok' (by omega) hF ?_)
  k_lt w
  refine Yb (ct_is_absentV hK ok' (by omega) hix ?_)
  k_lt w
  refine R_one ok' fun r hr => ?_
  k_lt w
  refine N_list ok' (Yr Ya (by omega)) (by rw [Yf]; omega) fun y hy => ?_
  k_lt w
  refine fun t ht => ?_
  k_lt w
  refine h t y .none _ (((Yc hr).trans (Yc hy)).trans (Yc ht)) Ya (Yg ht ?_)
  rw [Ya, span_nats, e]
 | false =>
  obtain ⟨ix, rfl, hpos⟩ := hix.vec
  refine en_part_rows hK ok (by omega) fun c' ok' sc' gl' => ?_
  k_lt w
  refine Yb (ct_frame_rows hK ok' (by omega) hF ?_)
  k_lt w
  refine Yb (ct_is_absentV hK ok' (by omega) hix ?_)
  k_lt w
  refine Yb (ct_row_names hK ok' (by omega) hF hlab h0 fun m hm => ?_)
  have le1 : Le σ (σ.set m (.list (marks.map (lab mk)))) := Yc hm
  k_lt w
  refine Yb (hpos true _ _ _ _ _ _ ok' (by omega) le1 Ya fun t y ad σ2 le2 ht hy _ => ?_)
  refine G_tuple ok' (.tup t) ⟨rfl, ht⟩ (fun _ _ e => by cases e) rfl ?_
  refine G_name ok' (by k_lt sv) ?_
  refine G_name ok' (by k_lt sv) ?_
  refine TGTS_nil ?_
  k_lt w
  refine S_for ok' ?_ (hs := fun _ => rfl)
  k_lt w
  refine ⟨.list y, nats ps, fun i ρ' σ' => ∃ o, ρ' = ([("df", some (.ref x)), ("ix", some (.ref ix)), ("count", some (.int marks.length)), ("places", some (.ref y)), ("added", some ad), ("after", some (.int marks.length)), ("place", o)] : List (Str × Option V)) ∧ σ' = σ2, ⟨rfl, hy⟩, jv1 _ rfl rfl, ⟨?_, ?_, ?_⟩⟩
  · rintro i ρ' σ' ⟨o, _, rfl⟩; exact hy
  · intro c2 i v ρ' σ' S2 ok2 hi; apply iv1; intro o; rintro rfl
    obtain ⟨p, hp, rfl⟩ := nats_get hi
    have hlt := hps p (List.mem_of_getElem? hp)
    have gl2 := S2.gl.trans gl'
    refine G_name ok2 (by k_lt sv) ?_
    k_lt w
    refine M_max ok2 ?_
    k_lt w
    try rw [Int.max_eq_left (by omega)]
    k_lt w
    exact jv1 _ rfl rfl
  · intro ρ' σ'; apply iv1; intro o; rintro rfl
    k_lt w
    refine fun t2 ht2 => ?_
    k_lt w
    exact h t2 y ad _ ((le1.trans le2).trans (Yc ht2)) Ya (Yg ht2 hy)
theorem ct_part_columns (hK : KOk K) (ok : c.Ok prog w K n) (hn : 6 ≤ n) {x l a nx nl cx cl rx rl : Addr} {vs : List V} {cols : List (Str × List V)} {ss : List Str} {mk : Str} {marks : List V} {iv : V} {ps : List Nat} {ab : Bool} {Q : V → Sig → Prop} (hF : Frm K σ x l a nx nl cx cl rx rl vs cols (txs ss) mk marks)
 (hix : IxV prog w K σ iv ss.length (txs ss) ps ab) (hps : ∀ p ∈ ps, p < ss.length)
 (h : ∀ t pl nm σ', Le σ σ' → σ' t = some (.tup [.ref pl, .ref nm]) → σ' pl = some (.list (nats ps)) → σ' nm = some (.list (txs ss)) → Q (.ref t) σ') : CODE prog w c ρ σ (.ref (gv K "part_columns")) [.ref x, iv] [] Q := by
 have hwi := hF.wide
 have hnl := hF.nlen
 rw [Ym] at hnl
 have hnn : (txs ss).length ≤ 100000 := by rw [Ym]; omega
 cases ab with
 | true =>
  have e := hix.all
  refine en_part_columns hK ok (by omega) fun c' ok' sc' gl' => ?_
  k_lt w
  refine Yb (ct_column_names hK ok' (by omega) hF txs_str fun m σ1 le1 hm0 hm => ?_)
  k_lt w
  refine Yb (ct_is_absentV hK ok' (by omega) (hix.mono le1) ?_)
  k_lt w
  try rw [Ym]
  k_lt w
  refine R_one ok' fun r hr => ?_
  k_lt w
  refine N_list ok' (Yr Ya (by omega)) (by rw [Yf]; omega) fun y hy => ?_
  k_lt w
  refine fun t ht => ?_
  k_lt w
  refine h t y m _ (((le1.trans (Yc hr)).trans (Yc hy)).trans (Yc ht)) Ya (Yg ht ?_) (Yg ht (Yg hy (Yg hr hm)))
  rw [Ya, span_nats, e]
 | false =>
  obtain ⟨ix, rfl, hpos⟩ := hix.vec
  refine en_part_columns hK ok (by omega) fun c' ok' sc' gl' => ?_
  k_lt w
  refine Yb (ct_column_names hK ok' (by omega) hF txs_str fun m σ1 le1 hm0 hm => ?_)
  k_lt w
  refine Yb (ct_is_absentV hK ok' (by omega) (hix.mono le1) ?_)
  k_lt w
  try rw [Ym]
  k_lt w
  refine Yb (hpos true _ _ _ _ _ _ ok' (by omega) le1 hm fun t y ad σ2 le2 ht hy _ => ?_)
  have hm2 := le2 _ _ hm
  refine G_tuple ok' (.tup t) ⟨rfl, ht⟩ (fun _ _ e => by cases e) rfl ?_
  refine G_name ok' (by k_lt sv) ?_
  refine G_name ok' (by k_lt sv) ?_
  refine TGTS_nil ?_
  k_lt w
  try rw [Ym]
  refine S_for ok' ?_ (hs := fun _ => rfl)
  k_lt w
  refine ⟨.list y, nats ps, fun i ρ' σ' => ∃ o, ρ' = ([("df", some (.ref x)), ("ix", some (.ref ix)), ("names", some (.ref m)), ("places", some (.ref y)), ("added", some ad), ("wide", some (.int ss.length)), ("place", o)] : List (Str × Option V)) ∧ σ' = σ2, ⟨rfl, hy⟩, jv1 _ rfl rfl, ⟨?_, ?_, ?_⟩⟩
  · rintro i ρ' σ' ⟨o, _, rfl⟩; exact hy
  · intro c2 i v ρ' σ' S2 ok2 hi; apply iv1; intro o; rintro rfl
    obtain ⟨p, hp, rfl⟩ := nats_get hi
    have hlt := hps p (List.mem_of_getElem? hp)
    have gl2 := S2.gl.trans gl'
    refine G_name ok2 (by k_lt sv) ?_
    k_lt w
    refine M_max ok2 ?_
    k_lt w
    try rw [Int.max_eq_left (by omega)]
    k_lt w
    exact jv1 _ rfl rfl
  · intro ρ' σ'; apply iv1; intro o; rintro rfl
    k_lt w
    refine S_forU ok' ?_ (hs := fun _ => rfl)
    k_lt w
    try rw [Ym]
    k_lt w
    refine R_two ok' fun r hr => ?_
    k_lt w
    refine ⟨.rng ss.length ss.length, [], ⟨?_, ⟨r, rfl, Ya⟩, by omega, by omega, by omega, by omega⟩, ?_⟩
    · unfold spanZ; rw [show ((ss.length : Int) - ss.length).toNat = 0 by omega]; rfl
    show Then _ _ _ _ _
    k_lt w
    refine fun t2 ht2 => ?_
    k_lt w
    exact h t2 y m _ (((le1.trans le2).trans (Yc hr)).trans (Yc ht2)) Ya (Yg ht2 (Yg hr hy)) (Yg ht2 (Yg hr hm2))
theorem ct_longer_labels (hK : KOk K) (ok : c.Ok prog w K n) (hn : 1 ≤ n) {x l a nx nl cx cl rx rl : Addr} {vs : List V} {cols : List (Str × List V)} {names : List V} {mk : Str} {marks : List V} {ad : V} {Q : V → Sig → Prop} (hF : Frm K σ x l a nx nl cx cl rx rl vs cols names mk marks) (h : Q (.ref rx) σ) : CODE prog w c ρ σ (.ref (gv K "longer_labels")) [.ref x, .int marks.length, ad] [] Q := by
 have h1 := hF.self; have h2 := hF.at'; have h3 := hF.rn; have h4 := h3.list; have hhi := hF.high
 refine en_longer_labels hK ok (by omega) fun c' ok' sc' gl' => ?_
 k_lt w
 exact h
theorem ct_spread_list (hK : KOk K) (ok : c.Ok prog w K n) (hn : 2 ≤ n) {x l : Addr} {a : V} {vs : List V} {cols : List (Str × List V)} {m : Nat} {Q : V → Sig → Prop} (hv : Vec K σ x "list" l vs a) (hc : Cols K σ vs cols) (hcl : ∀ p ∈ cols, p.2.length = m) (hm : 1 ≤ m) (hm2 : m ≤ 1000) (hw : 1 ≤ vs.length) (hw2 : vs.length ≤ 1000)
 (h : ∀ y σ', Le σ σ' → σ' y = some (.list vs) → Q (.ref y) σ') : CODE prog w c ρ σ (.ref (gv K "spread_list")) [.ref x, .int m, .int vs.length] [] Q := by
 have hvl := hv.list
 refine en_spread_list hK ok (by omega) fun c' ok' sc' gl' => ?_
 k_lt w
 refine fun fl hfl => ?_
 have le1 := Yc (o := .list []) hfl
 have hv1 := hv.mono le1
 have hvl1 := hv1.list
 have hf1 : (σ.set fl (.list [])) fl = some (.list []) := Ya
 generalize σ.set fl (.list []) = σ1 at le1 hv1 hvl1 hf1 ⊢
 k_lt w
 refine S_for ok' ?_ (hs := fun _ => rfl)
 k_lt w
 refine R_one ok' fun r hr => ?_
 have le2 := le1.trans (Yc (o := .rng 0 vs.length) hr)
 have hf2 := (Yc (o := .rng 0 vs.length) hr) _ _ hf1
 have hr2 : (σ1.set r (.rng 0 vs.length)) r = some (.rng 0 vs.length) := Ya
 generalize σ1.set r (.rng 0 vs.length) = σ2 at le2 hf2 hr2 ⊢
 refine ⟨.rng 0 vs.length, spanZ 0 vs.length, fun i ρ' σ' => ∃ o o2 o3, ρ' = ([("value", some (.ref x)), ("rows", some (.int m)), ("columns", some (.int vs.length)), ("found", some (.ref fl)), ("count", some (.int vs.length)), ("step", o), ("one", o2), ("size", o3)] : List (Str × Option V)) ∧ Le σ σ' ∧ σ' fl = some (.list (vs.take i)),
  Yr hr2 (by omega), jv3 _ _ _ rfl ⟨le2, hf2⟩, ⟨?_, ?_, ?_⟩⟩
 · rintro i ρ' σ' _; rfl
 · intro c2 i u ρ' σ' S2 ok2 hx; apply iv3; intro o o2 o3; rintro ⟨le, hfi⟩
   obtain ⟨hi, rfl⟩ := Yn hx
   have gl2 := S2.gl.trans gl'
   have hvi := hv.mono le
   refine (ex4 fun z lz k xs => an3 fun hz hq hvz => ?_) ((hc.mono le).get (List.getElem?_eq_getElem hi))
   have hxl : xs.length = m := hcl _ (List.mem_of_getElem? hq)
   have hzl := hvz.list
   have hln : (vs.take i).length ≤ 100000 := by rw [List.length_take]; omega
   refine G_name ok2 (by k_lt sv) ?_
   k_lt w
   refine B_mod (by omega) ?_
   k_lt w
   try rw [fmodN, Nat.mod_eq_of_lt hi]
   k_lt w
   refine SB_list hvi.list (by omega) (by omega) (v := .ref z) (by simp [hi, hz]) ?_
   k_lt w
   refine Yb (ct_is_vector hK ok2 (by omega) hvz ?_)
   k_lt w
   refine B_mod (by omega) ?_
   k_lt w
   try rw [hxl, fmodN, Nat.mod_self]
   k_lt w
   refine jv3 _ _ _ rfl ⟨le.setD hfl, ?_⟩
   rw [Ya, List.take_add_one, List.getElem?_eq_getElem hi, hz]; rfl
 · intro ρ' σ'; apply iv3; intro o o2 o3; rintro ⟨le, hfi⟩
   rw [Yf, List.take_length] at hfi
   k_lt w
   exact h fl σ' le hfi
end
section
variable {n : Nat} {c : Cx} {ρ : Loc} {σ : Sig}
theorem S_while0 {test : PySem.Expr} {body : List PySem.Stmt} {pos : Pos} {Q : Out → Loc → Sig → Prop} (h : TST prog w c ρ σ test fun b σ₁ => b = false ∧ Q .next ρ σ₁) : ST prog w c ρ σ (.While test body [] pos) Q := by
 refine S_while (fun m ρ' σ' => ρ' = ρ ∧ σ' = σ) 0 ⟨rfl, rfl⟩ ?_
 rintro m ρ' σ' ⟨rfl, rfl⟩
 refine TE.mono h fun b σ₁ => an2 fun hb hq => ?_
 subst hb
 simpa using hq
theorem Vec.offList {x l ml : Addr} {k : Str} {xs ys : List V} {a : V} {o : AObj} (h : Vec K σ x k l xs a) (hm : σ ml = some (.list ys)) (hne : xs ≠ ys) : Vec K (σ.set ml o) x k l xs a := by
 revert h; refine ex1 fun d => an3 fun h1 h2 h3 => ?_
 refine ⟨d, ?_, ?_, ?_⟩
 · rw [Yd]; exact h1
   rintro rfl; rw [h1] at hm; cases hm
 · rw [Yd]; exact h2
   rintro rfl; rw [h2] at hm; cases hm
 · rw [Yd]; exact h3
   rintro rfl; rw [h3] at hm; cases hm; exact hne rfl
theorem Cols.offList {ml : Addr} {vs ys : List V} {cs : List (Str × List V)} {o : AObj} (h : Cols K σ vs cs) (hm : σ ml = some (.list ys)) (hne : ∀ p ∈ cs, p.2 ≠ ys) : Cols K (σ.set ml o) vs cs := by
 induction h with
 | nil => exact .nil
 | cons h _ ih => exact .cons (h.offList hm (hne _ List.mem_cons_self)) (ih fun p hp => hne p (List.mem_cons_of_mem _ hp))
theorem Cols.put {vs : List V} {cs : List (Str × List V)} (h : Cols K σ vs cs) : ∀ {i : Nat} {x l : Addr} {k : Str} {xs : List V}, cs[i]? = some (k, xs) → Vec K σ x k l xs .none → Cols K σ (vs.set i (.ref x)) cs := by
 induction h with
 | nil => intro i x l k xs e; cases e
 | cons h h' ih =>
  intro i x l k xs e hv
  cases i with
  | zero => cases e; exact .cons hv h'
  | succ i => exact .cons h (ih (by simpa using e) hv)
theorem Cols.refs {vs : List V} {cs : List (Str × List V)} (h : Cols K σ vs cs) : ∀ v ∈ vs, scal v = false := by
 induction h with
 | nil => intro v hv; cases hv
 | cons h _ ih => intro v hv; rcases List.mem_cons.mp hv with rfl | hv; rfl; exact ih v hv
theorem ne_refs {xs ys : List V} (hx : ∀ v ∈ xs, scal v = true) (hy : ∀ v ∈ ys, scal v = false) (h0 : ys ≠ []) : xs ≠ ys := by
 rintro rfl
 refine (ex2 fun v r => ?_) (List.exists_cons_of_ne_nil h0); rintro rfl
 have h1 := hx v List.mem_cons_self
 have h2 := hy v List.mem_cons_self
 rw [h1] at h2; cases h2
theorem putN_pick {xs : List V} {ps : List Nat} (i : Nat) (hps : ∀ p ∈ ps, p < xs.length) (hi : i ≤ ps.length) : putN xs ps (pickL xs ps) i = xs := by
 induction i with
 | zero => rfl
 | succ i ih =>
  have hlt : i < ps.length := by omega
  rw [putN_succ, ih (by omega)]
  have e1 : i % (pickL xs ps).length = i := Nat.mod_eq_of_lt (by rw [pickL_len]; omega)
  have e2 : ps.getD i 0 = ps[i] := by rw [List.getD_eq_getElem?_getD, List.getElem?_eq_getElem hlt]; rfl
  have hq := hps ps[i] (List.getElem_mem hlt)
  have e3 : (pickL xs ps).getD i .none = xs[ps[i]] := by
   rw [List.getD_eq_getElem?_getD]; unfold pickL
   rw [List.getElem?_map, List.getElem?_eq_getElem hlt]
   simp [List.getD_eq_getElem?_getD, hq]
  rw [e1, e2, e3]
  exact List.set_getElem_self hq
theorem pickC_get {cols : List (Str × List V)} {ps : List Nat} {i : Nat} {q : Str × List V} (h : (pickC cols ps)[i]? = some q) (hps : ∀ p ∈ ps, p < cols.length) : ∃ p, ps[i]? = some p ∧ cols[p]? = some q := by
 unfold pickC at h
 rw [List.getElem?_map, Option.map_eq_some_iff] at h
 obtain ⟨p, h1, h2⟩ := h
 refine ⟨p, h1, ?_⟩
 have := hps p (List.mem_of_getElem? h1)
 rw [← h2, List.getD_eq_getElem?_getD, List.getElem?_eq_getElem this]; rfl
theorem FrmE.sl {x : Addr} {f : FD} (h : FrmE K σ x f) : f.ss.length = f.cols.length := by obtain ⟨_, _, _, _, _, _, _, _, _, hF⟩ := h; exact hF.sl.1
theorem FrmE.clen {x : Addr} {f : FD} (h : FrmE K σ x f) : ∀ p ∈ f.cols, p.2.length = f.marks.length := by obtain ⟨_, _, _, _, _, _, _, _, _, hF⟩ := h; exact hF.clen
theorem FrmE.high {x : Addr} {f : FD} (h : FrmE K σ x f) : f.marks.length ≤ 1000 := by obtain ⟨_, _, _, _, _, _, _, _, _, hF⟩ := h; exact hF.high
theorem FrmE.wide {x : Addr} {f : FD} (h : FrmE K σ x f) : f.cols.length ≤ 1000 := by obtain ⟨_, _, _, _, _, _, _, _, _, hF⟩ := h; have := hF.wide; have := hF.sl; omega
theorem ct_assign_frame (hK : KOk K) (ok : c.Ok prog w K n) (hn : 7 ≤ n) {x v : Addr} {f g : FD} {iv jv nt : V} {is js : List Nat} {ai aj : Bool} {Q : V → Sig → Prop} (hF : FrmE K σ x f) (hG : FrmE K σ v g) (fo : f.Ok) (hp : Picks f is js)
 (hg : g.cols = (pickC f.cols js).map fun p => (p.1, pickL p.2 is)) (hgm : g.marks.length = is.length)
 (hix : IxV prog w K σ iv f.marks.length (rowTexts f) is ai) (hjx : IxV prog w K σ jv f.ss.length (txs f.ss) js aj)
 (h : ∀ y σ', Le σ σ' → FrmE K σ' y f → Q (.ref y) σ') : CODE prog w c ρ σ (.ref (gv K "assign_frame")) [.ref x, iv, jv, .ref v, nt] [] Q := by
 have hFE := hF
 have hsl := hF.sl
 have hhi := hF.high
 have hwi := hF.wide
 have hcl := hF.clen
 obtain ⟨l, a, nx, nl, cx, cl, rx, rl, vs, hF⟩ := hF
 obtain ⟨l2, a2, nx2, nl2, cx2, cl2, rx2, rl2, vs2, hG⟩ := hG
 have hG0 := hG.self
 have hvs2 : vs2.length = js.length := by rw [hG.cs.len, hg, List.length_map, pickC_len]
 have hvs : vs.length = f.cols.length := hF.cs.len
 refine en_assign_frame hK ok (by omega) fun c' ok' sc' gl' => ?_
 k_lt w
 refine Yb (ct_part_rows hK ok' (by omega) hF fo.lab fo.m0 hix hp.i1 fun t pr ad σ1 le1 ht hpr => ?_)
 refine G_tuple ok' (.tup t) ⟨rfl, ht⟩ (fun _ _ e => by cases e) rfl ?_
 k_lt w
 refine Yb (ct_part_columns hK ok' (by omega) (hF.mono le1) (hjx.mono le1) hp.j1 fun t2 pc nm σ2 le2 ht2 hpc hnm => ?_)
 refine G_tuple ok' (.tup t2) ⟨rfl, ht2⟩ (fun _ _ e => by cases e) rfl ?_
 have hpr2 := le2 _ _ hpr
 have leA := le1.trans le2
 have hG2 := hG0.mono leA
 have li := hp.i3
 have lj := hp.j3
 have lni : (nats is).length ≤ 100000 := by rw [Yi]; omega
 have lnj : (nats js).length ≤ 100000 := by rw [Yi]; omega
 k_lt w
 have e1 : decide (((nats is).length : Int) = 0) = decide (is = []) := by rw [Yi]; simp
 have e2 : decide (((nats js).length : Int) = 0) = decide (js = []) := by rw [Yi]; simp
 rw [e1]
 k_lt w
 refine R_D (fun hi0 => ?_) fun hi0 => ?_
 · k_lt w
   exact h x σ2 leA (hFE.mono leA)
 k_lt w
 try rw [e2]
 k_lt w
 refine R_D (fun hj0 => ?_) fun hj0 => ?_
 · k_lt w
   exact h x σ2 leA (hFE.mono leA)
 k_lt w
 refine Yb (ct_is_vector hK ok' (by omega) hG2 ?_)
 k_lt w
 have hi1 : 1 ≤ is.length := List.length_pos_iff.mpr hi0
 have hj1 : 1 ≤ js.length := List.length_pos_iff.mpr hj0
 refine R_callL ok' (by k_lt hv) (KOk.kpn hK (by decide +kernel)) rfl ?_
 k_lt w
 try rw [Yi, Yi, ← hvs2]
 k_lt w
 refine Yb (ct_spread_list hK ok' (by omega) hG2 (hG.cs.mono leA) (m := is.length) (by rw [← hgm]; exact hG.clen) hi1 li (by omega) (by omega) fun vl σ3 le3 hvl => ?_)
 k_lt w
 refine fun ml hml => ?_
 have leB := (leA.trans le3)
 have le4 := leB.trans (Yc (o := .list []) hml)
 have hm4 : (σ3.set ml (.list [])) ml = some (.list []) := Ya
 have hml0 : σ ml = none := by
  cases q : σ ml with
  | none => rfl
  | some z => rw [leB _ _ q] at hml; cases hml
 have hF4 := hF.mono le4
 have hF41 := hF4.self
 have hF4l := hF41.list
 have le34 : Le σ3 (σ3.set ml (.list [])) := Yc hml
 generalize σ3.set ml (.list []) = σ4 at le4 hm4 hF4 hF41 hF4l le34 ⊢
 k_lt w
 refine S_for ok' ?_ (hs := fun _ => rfl)
 k_lt w
 refine ⟨.list l, vs, fun i ρ' σ' => ∃ o, ρ' = ([("df", some (.ref x)), ("i", some iv), ("j", some jv), ("value", some (.ref v)), ("notes", some nt), ("rows", some (.ref pr)), ("after", some (.int f.marks.length)), ("new_rows", some ad), ("columns", some (.ref pc)), ("names", some (.ref nm)), ("spread", some (.ref (gv K "spread_list"))), ("values", some (.ref vl)), ("made", some (.ref ml)), ("column", o), ("step", none), ("place", none)] : List (Str × Option V)) ∧ Le σ3 σ' ∧ σ' ml = some (.list (vs.take i)),
  ⟨rfl, hF4l⟩, jv1 _ rfl ⟨le34, hm4⟩, ⟨?_, ?_, ?_⟩⟩
 · refine fun i ρ' σ' => ex1 fun o => an3 fun _ le _ => ?_; exact (leB.trans le) _ _ hF.self.list
 · intro c2 i u ρ' σ' S2 ok2 hx; apply iv1; intro o; rintro ⟨le, hmi⟩
   have gl2 := S2.gl.trans gl'
   have hiv : i < vs.length := (List.getElem?_eq_some_iff.mp hx).1
   have hln : (vs.take i).length ≤ 100000 := by rw [List.length_take]; omega
   refine G_name ok2 (by k_lt sv) ?_
   k_lt w
   refine Yb (ct_frame_rows hK ok2 (by omega) (hF.mono (leB.trans le)) ?_)
   k_lt w
   refine jv1 _ rfl ⟨le.setD hml, ?_⟩
   rw [Ya, List.take_add_one, hx]; rfl
 intro ρ' σ'; apply iv1; intro o; rintro ⟨le5, hm5⟩
 rw [List.take_length] at hm5
 k_lt w
 refine S_for ok' ?_ (hs := fun _ => rfl)
 have hpc5 := (le3.trans le5) _ _ hpc
 k_lt w
 try rw [Yi]
 k_lt w
 refine R_one ok' fun r hr => ?_
 have le6 := le5.trans (Yc (o := .rng 0 js.length) hr)
 have hm6 := (Yc (o := .rng 0 js.length) hr) _ _ hm5
 have hr6 : (σ'.set r (.rng 0 js.length)) r = some (.rng 0 js.length) := Ya
 generalize σ'.set r (.rng 0 js.length) = σ6 at le6 hm6 hr6 ⊢
 refine ⟨.rng 0 js.length, spanZ 0 js.length, fun i ρ' σ' => ∃ o o2 o3 ys, ρ' = ([("df", some (.ref x)), ("i", some iv), ("j", some jv), ("value", some (.ref v)), ("notes", some nt), ("rows", some (.ref pr)), ("after", some (.int f.marks.length)), ("new_rows", some ad), ("columns", some (.ref pc)), ("names", some (.ref nm)), ("spread", some (.ref (gv K "spread_list"))), ("values", some (.ref vl)), ("made", some (.ref ml)), ("column", o), ("step", o2), ("place", o3)] : List (Str × Option V)) ∧ Le σ3 σ' ∧ σ' ml = some (.list ys) ∧ Cols K σ' ys f.cols,
  Yr hr6 (by omega), jv4 _ _ _ _ rfl ⟨le6, hm6, hF.cs.mono (leB.trans le6)⟩, ⟨?_, ?_, ?_⟩⟩
 · rintro i ρ' σ' _; rfl
 · intro c2 i u ρ' σ' S2 ok2 hx; apply iv4; refine fun o o2 o3 ys => an3 fun le hmi hci => ?_
   obtain ⟨hi, rfl⟩ := Yn hx
   have gl2 := S2.gl.trans gl'
   have hpci := (le3.trans le) _ _ hpc
   have hvli := le _ _ hvl
   have hpri := (le3.trans le) _ _ hpr2
   have hyl : ys.length = f.cols.length := hci.len
   have hjlt : js[i] < f.cols.length := by rw [← hsl]; exact hp.j1 _ (List.getElem_mem hi)
   have hyn : ys ≠ [] := by rintro rfl; simp at hyl; omega
   have hne : ∀ p ∈ f.cols, p.2 ≠ ys := fun p hp => ne_refs (fo.sc p hp) hci.refs hyn
   have lny : ys.length ≤ 100000 := by omega
   refine G_name ok2 (by k_lt sv) ?_
   k_lt w
   refine SB_list hpci (by omega) (by omega) (v := .int (js[i] : Nat)) (by simp [nats, hi]) ?_
   k_lt w
   refine S_while0 ?_
   k_lt w
   refine ⟨decide_eq_false (by omega), ?_⟩
   k_lt w
   refine Yb (ct_is_absentV hK ok2 (by omega) (hix.mono (leB.trans le)) ?_)
   -- the new column's data
   have hi2 : i < vs2.length := by omega
   refine (ex4 fun z lz k xs => an3 fun hz hq hvz => ?_) ((hG.cs.mono (leB.trans le)).get (List.getElem?_eq_getElem hi2))
   rw [hg, List.getElem?_map, Option.map_eq_some_iff] at hq
   obtain ⟨⟨k0, xs0⟩, hq1, hq2⟩ := hq
   obtain ⟨p, hp1, hq3⟩ := pickC_get hq1 (by rw [← hsl]; exact hp.j1)
   obtain rfl : js[i] = p := by rw [List.getElem?_eq_getElem hi] at hp1; exact Option.some.inj hp1
   obtain ⟨rfl, rfl⟩ : k0 = k ∧ pickL xs0 is = xs := by simpa using hq2
   have hxl : xs0.length = f.marks.length := hcl _ (List.mem_of_getElem? hq3)
   have hkn := fo.kn _ (List.mem_of_getElem? hq3)
   have hgy : ys[js[i]]? = some ys[js[i]] := List.getElem?_eq_getElem (by omega)
   refine (ex4 fun u lu k1 xs1 => an3 fun hu hq4 hvu => ?_) (hci.get hgy)
   rw [hq3] at hq4
   obtain ⟨rfl, rfl⟩ : k0 = k1 ∧ xs0 = xs1 := by simpa using hq4
   cases ai with
   | true =>
    have hall := hix.all
    k_lt w
    refine SB_list hvli (by omega) (by omega) (v := .ref z) (by simp [hi2, hz]) ?_
    k_lt w
    have e3 : pickL xs0 is = xs0 := by rw [hall, pickL_all hxl]
    rw [e3] at hvz
    k_lt w
    refine Yb (ct_fitted_column hK ok2 (by omega) hvz hxl (by omega) fun y σ8 le8 hy8 => ?_)
    have hm8 := le8 _ _ hmi
    k_lt w
    refine I_set hm8 (by omega) (by omega) (by omega) ?_
    k_lt w
    refine jv4 _ _ _ _ rfl ⟨(le.trans le8).setD hml, Ya, ?_⟩
    have := (hci.mono le8).offList (o := .list (ys.set ((js[i] : Nat) : Int).toNat (.ref y))) hm8 hne
    exact this.put hq3 (hy8.offList hm8 (hne _ (List.mem_of_getElem? hq3)))
   | false =>
    k_lt w
    refine SB_list hmi (by omega) (by omega) (v := .ref u) (by rw [← hu]; exact hgy) ?_
    k_lt w
    refine SB_list hvli (by omega) (by omega) (v := .ref z) (by simp [hi2, hz]) ?_
    k_lt w
    refine Yb (ct_put_places hK ok2 (by omega) hvu hvz hpri (by rcases hkn with e | e <;> (dsimp only at e; subst e; simp)) (by rw [hxl]; exact hp.i1) (by intro e; have := congrArg List.length e; rw [pickL_len] at this; exact hi0 (List.length_eq_zero_iff.mp this)) (by omega) (by rw [pickL_len]; omega) (by omega) fun y ly σ8 le8 _ hy8 => ?_)
    k_lt w
    try rw [if_pos rfl, putN_pick _ (by rw [hxl]; exact hp.i1) (Nat.le_refl _)] at hy8
    have hm8 := le8 _ _ hmi
    k_lt w
    refine I_set hm8 (by omega) (by omega) (by omega) ?_
    k_lt w
    refine jv4 _ _ _ _ rfl ⟨(le.trans le8).setD hml, Ya, ?_⟩
    have := (hci.mono le8).offList (o := .list (ys.set ((js[i] : Nat) : Int).toNat (.ref y))) hm8 hne
    exact this.put hq3 (hy8.offList hm8 (hne _ (List.mem_of_getElem? hq3)))
 intro ρ' σ9; apply iv4; refine fun o o2 o3 ys => an3 fun le9 hm9 hc9 => ?_
 k_lt w
 have hF9 := hF.mono (leB.trans le9)
 have hyl : ys.length = f.cols.length := hc9.len
 k_lt w
 refine Yb (ct_longer_labels hK ok' (by omega) hF9 ?_)
 k_lt w
 refine Yb (ct_new_frame hK ok' (by omega) (skc := .list ml) (skn := .list nm) ⟨rfl, hm9⟩ hc9 ⟨rfl, (le3.trans le9) _ _ hnm⟩ hF9.rn (by omega) hF9.high (by rw [Ym]; omega) hcl fun x' l' a' nx' nl' cx' cl' σ10 le10 hF10 => ?_)
 k_lt w
 exact h _ σ10 ((leB.trans le9).trans le10) ⟨_, _, _, _, _, _, _, _, _, hF10⟩
end
section
variable {n : Nat} {c : Cx} {ρ : Loc} {σ : Sig}
noncomputable def evFs (b g f o wl h r : Addr) : List (Str × V) := [("limit", .int 100), ("most_frames", .int 40), ("steps", .int 0), ("next_number", .int 2), ("base", .ref b), ("globals", .ref g), ("frames", .ref f), ("out", .ref o), ("warnings", .ref wl), ("handlers", .ref h), ("restarts", .ref r), ("targets", .int 0), ("visible", .bool true), ("current", .none), ("dispatcher", .none), ("signaller", .none), ("warner", .none), ("deparser", .none), ("s4", .none)]
inductive Itp (K : Frag) (σ : Sig) (x : Addr) : Prop
 | mk (b g f o wl h r : Addr) (e : Obj0 K σ x "Evaluator" (evFs b g f o wl h r)) (q : σ wl = some (.list []))
theorem Itp.mono {x : Addr} {σ σ' : Sig} (h : Itp K σ x) (le : Le σ σ') : Itp K σ' x := by obtain ⟨b, g, f, o, wl, h', r, h1, h2⟩ := h; exact ⟨b, g, f, o, wl, h', r, h1.mono le, le _ _ h2⟩
theorem noF_warn {b g f o wl h r : Addr} : NoF (evFs b g f o wl h r) "warn_all" := by
 unfold evFs
 repeat (first | exact .nil | refine .cons (by dsimp only; decide +kernel) ?_)
theorem M_warn_all (hK : KOk K) (ok : c.Ok prog w K n) {x : Addr} (hx : Itp K σ x) : METH prog w K c ρ σ (.ref x) "warn_all" (.ref (mt K "Evaluator" "warn_all")) [.ref x] := by
 obtain ⟨b, g, f, o, wl, h, r, ⟨d, h1, h2⟩, h3⟩ := hx
 refine (an4 fun m1 m2 m3 m4 => ?_) (hK.mf (208, 5, "Evaluator", "warn_all", "Evaluator.warn_all", [.none]) (List.mem_of_getElem? (i := 3) rfl))
 exact M_inst ok h1 h2 noF_warn m4 m1 m2 m3
theorem ct_warn_all (hK : KOk K) (ok : c.Ok prog w K n) (hn : 1 ≤ n) {x nl : Addr} {Q : V → Sig → Prop} (hx : Itp K σ x) (hl : σ nl = some (.list [])) (h : Q .none σ) : CODE prog w c ρ σ (.ref (mt K "Evaluator" "warn_all")) [.ref x, .ref nl] [] Q := by
 obtain ⟨b, g, f, o, wl, h', r, h1, h3⟩ := hx
 refine en_Evaluator_warn_all_1 hK ok (by omega) fun c' ok' sc' gl' => ?_
 k_lt w
 unfold evFs at h1
 k_lt w
 refine S_forU ok' ?_ (hs := fun _ => rfl)
 k_lt w
 refine ⟨.list nl, [], ⟨rfl, hl⟩, ?_⟩
 show Then _ _ _ _ _
 k_lt w
 exact h
theorem ct_setter_arguments (hK : KOk K) (ok : c.Ok prog w K n) (hn : 7 ≤ n) {x al ti : Addr} {f : FD} {tag u : V} {rest : List V} {r : List (V × V)} {Q : V → Sig → Prop} (hF : FrmE K σ x f)
 (ha : σ al = some (.list (.ref ti :: rest))) (ht : σ ti = some (.tup [tag, .ref x])) (hr : Args σ rest r) (hlen : rest.length ≤ 1000) (htag : ∀ p ∈ r, p.1 = .none ∨ p.1 = .str "drop" ∨ p.1 = .str "exact" ∨ p.1 = .str "value") (hd : dlook (optsOf r) "value" = some u)
 (h : ∀ t il σ', Le σ σ' → σ' t = some (.tup [.ref x, .ref il, u]) → σ' il = some (.list (idxOf r)) → Q (.ref t) σ') : CODE prog w c ρ σ (.ref (gv K "setter_arguments")) [.ref al] [] Q := by
 obtain ⟨l, a, nx, nl, cx, cl, rx, rl, vs, hF⟩ := hF
 refine en_setter_arguments hK ok (by omega) fun c' ok' sc' gl' => ?_
 k_lt w
 refine Yb (ct_index_arguments hK ok' (by omega) hF ha ht hr hlen htag fun t il ol σ1 le1 ht1 hil hol => ?_)
 refine G_tuple ok' (.tup t) ⟨rfl, ht1⟩ (fun _ _ e => by cases e) rfl ?_
 k_lt w
 refine fun t2 ht2 => ?_
 k_lt w
 exact h t2 il _ (le1.trans (Yc ht2)) Ya (Yg ht2 hil)
theorem ct_flagm_no (hK : KOk K) (ok : c.Ok prog w K n) (hn : 3 ≤ n) {ix x : Addr} {m : Nat} {texts : List V} {ps : List Nat} {ab : Bool} {f : FD} {Q : V → Sig → Prop} (hix : Ix prog w K σ ix m texts ps ab) (hF : FrmE K σ x f) (h : Q (.bool false) σ) : CODE prog w c ρ σ (.ref (gv K "is_flag_matrix")) [.ref ix, .ref x] [] Q := by
 have hwi := hF.wide
 have hhi := hF.high
 cases hix with
 | miss h1 h2 =>
  refine en_is_flag_matrix hK ok (by omega) fun c' ok' sc' gl' => ?_
  k_lt w
  exact h
 | vec h1 h2 h3 =>
  rcases h2 with rfl | rfl | rfl
  · refine en_is_flag_matrix hK ok (by omega) fun c' ok' sc' gl' => ?_
    k_lt w
    exact h
  · obtain ⟨l, a, nx, nl, cx, cl, rx, rl, vs, hF⟩ := hF
    have hs := hF.self
    have hsl := hs.list
    have hvs := hF.cs.len
    refine CODE.drop (en_is_flag_matrix hK ok (by omega) fun c' ok' sc' gl' => ?_)
    k_lt w
    refine Yb (ct_dim_of0 hK ok' (by omega) h1 ?_)
    k_lt w
    refine Yb (ct_frame_rows hK ok' (by omega) hF ?_)
    k_lt w
    refine fun t ht => ?_
    k_lt w
    refine C_eqD ok' (.sc (x := .none) rfl) (Yo Ya (by simp [sci])) rfl ?_ (by simp [Dn, PyData.depth]) ?_
    · simp [PyData.canLay0, Di, PyData.canLayAll0]
    · have e : PyData.eqv (Dv .none) (.list (List.map Dv [.int f.marks.length, .int vs.length])) = false := by simp [Dn, PyData.eqv]
      rw [e]
      k_lt w
      exact ⟨σ, Yc ht, h⟩
  · refine en_is_flag_matrix hK ok (by omega) fun c' ok' sc' gl' => ?_
    k_lt w
    exact h
theorem side_part {f : FD} {js : List Nat} (hcl : ∀ p ∈ f.cols, p.2.length = f.marks.length) (hjs : ∀ p ∈ js, p < f.cols.length) : pickC f.cols js = (pickC f.cols js).map fun p => (p.1, pickL p.2 (List.range f.marks.length)) := by
 symm
 refine (List.map_congr_left fun p hp => ?_).trans (List.map_id _)
 rw [pickL_all (hcl p (pickC_mem hp hjs))]; rfl
theorem ct_bset_two (hK : KOk K) (ok : c.Ok prog w K n) (hn : 8 ≤ n) {ip x v ix jx al t0 t1 t2 t3 : Addr} {f : FD} {is js : List Nat} {ai aj : Bool} {ev : V} {Q : V → Sig → Prop} (hI : Itp K σ ip) (hF : FrmE K σ x f) (fo : f.Ok) (hp : Picks f is js)
 (hix : Ix prog w K σ ix f.marks.length (rowTexts f) is ai) (hjx : Ix prog w K σ jx f.ss.length (txs f.ss) js aj) (hG : FrmE K σ v (f.part is js))
 (ha : σ al = some (.list [.ref t0, .ref t1, .ref t2, .ref t3])) (h0 : σ t0 = some (.tup [.none, .ref x])) (h1 : σ t1 = some (.tup [.none, .ref ix])) (h2 : σ t2 = some (.tup [.none, .ref jx])) (h3 : σ t3 = some (.tup [.str "value", .ref v]))
 (h : ∀ y σ', Le σ σ' → FrmE K σ' y f → Q (.ref y) σ') : CODE prog w c ρ σ (.ref (gv K "b_set_frame")) [.ref ip, .ref al, ev] [] Q := by
 have e1 : idxOf [(V.none, V.ref ix), (V.none, V.ref jx), (V.str "value", V.ref v)] = [.ref ix, .ref jx] := by simp [idxOf, idxStep]
 have e2 : optsOf [(V.none, V.ref ix), (V.none, V.ref jx), (V.str "value", V.ref v)] = ([("value", .ref v)] : List (Str × V)) := by simp [optsOf, optStep, dput]
 refine en_b_set_frame hK ok (by omega) fun c' ok' sc' gl' => ?_
 k_lt w
 refine Yb (ct_setter_arguments hK ok' (by omega) hF ha h0 (.cons h1 (.cons h2 (.cons h3 .nil))) (by simp) (by simp) (by rw [e2]; exact dlook_hd) fun t il σ1 le1 ht hil => ?_)
 k_lt w
 try rw [e1] at hil
 refine G_tuple ok' (.tup t) ⟨rfl, ht⟩ (fun _ _ e => by cases e) rfl ?_
 k_lt w
 refine fun nl hnl => ?_
 have le2 := le1.trans (Yc (o := .list []) hnl)
 have hil := (Yc (o := .list []) hnl) _ _ hil
 have hn2 : (σ1.set nl (.list [])) nl = some (.list []) := Ya
 generalize σ1.set nl (.list []) = σ2 at le2 hil hn2 ⊢
 k_lt w
 refine Yb (ct_assign_frame hK ok' (by omega) (hF.mono le2) (hG.mono le2) fo hp rfl pickL_len (.inr ⟨ix, rfl, hix.mono le2⟩) (.inr ⟨jx, rfl, hjx.mono le2⟩) fun y σ3 le3 hy => ?_)
 have hn3 := le3 _ _ hn2
 have hI3 := hI.mono (le2.trans le3)
 k_lt w
 refine R_methG (M_warn_all hK ok' hI3) ?_
 k_lt w
 refine Yb (ct_warn_all hK ok' (by omega) hI3 hn3 ?_)
 k_lt w
 exact h y σ3 (le2.trans le3) hy
theorem ct_bset_side (hK : KOk K) (ok : c.Ok prog w K n) (hn : 8 ≤ n) {ip x v jx al t0 t1 t2 : Addr} {f : FD} {js : List Nat} {aj : Bool} {ev : V} {Q : V → Sig → Prop} (hI : Itp K σ ip) (hF : FrmE K σ x f) (fo : f.Ok) (hjs : ∀ p ∈ js, p < f.ss.length) (hjn : js.Nodup) (hjl : js.length ≤ 1000)
 (hjx : Ix prog w K σ jx f.ss.length (txs f.ss) js aj) (hG : FrmE K σ v (f.side js))
 (ha : σ al = some (.list [.ref t0, .ref t1, .ref t2])) (h0 : σ t0 = some (.tup [.none, .ref x])) (h1 : σ t1 = some (.tup [.none, .ref jx])) (h2 : σ t2 = some (.tup [.str "value", .ref v]))
 (h : ∀ y σ', Le σ σ' → FrmE K σ' y f → Q (.ref y) σ') : CODE prog w c ρ σ (.ref (gv K "b_set_frame")) [.ref ip, .ref al, ev] [] Q := by
 have e1 : idxOf [(V.none, V.ref jx), (V.str "value", V.ref v)] = [.ref jx] := by simp [idxOf, idxStep]
 have e2 : optsOf [(V.none, V.ref jx), (V.str "value", V.ref v)] = ([("value", .ref v)] : List (Str × V)) := by simp [optsOf, optStep, dput]
 have hhi := hF.high
 refine en_b_set_frame hK ok (by omega) fun c' ok' sc' gl' => ?_
 k_lt w
 refine Yb (ct_setter_arguments hK ok' (by omega) hF ha h0 (.cons h1 (.cons h2 .nil)) (by simp) (by simp) (by rw [e2]; exact dlook_hd) fun t il σ1 le1 ht hil => ?_)
 k_lt w
 try rw [e1] at hil
 refine G_tuple ok' (.tup t) ⟨rfl, ht⟩ (fun _ _ e => by cases e) rfl ?_
 k_lt w
 refine fun nl hnl => ?_
 have le2 := le1.trans (Yc (o := .list []) hnl)
 have hil := (Yc (o := .list []) hnl) _ _ hil
 have hn2 : (σ1.set nl (.list [])) nl = some (.list []) := Ya
 generalize σ1.set nl (.list []) = σ2 at le2 hil hn2 ⊢
 k_lt w
 refine Yb (ct_flagm_no hK ok' (by omega) (hjx.mono le2) (hF.mono le2) ?_)
 k_lt w
 refine Yb (ct_assign_frame hK ok' (by omega) (is := List.range f.marks.length) (hF.mono le2) (hG.mono le2) fo ⟨fun p hp => List.mem_range.mp hp, hjs, List.nodup_range, hjn, by rw [List.length_range]; exact hhi, hjl⟩ (side_part hF.clen (by rw [← hF.sl]; exact hjs)) (by rw [List.length_range]; rfl) (.inl ⟨rfl, rfl, rfl⟩) (.inr ⟨jx, rfl, hjx.mono le2⟩) fun y σ3 le3 hy => ?_)
 have hn3 := le3 _ _ hn2
 have hI3 := hI.mono (le2.trans le3)
 k_lt w
 refine R_methG (M_warn_all hK ok' hI3) ?_
 k_lt w
 refine Yb (ct_warn_all hK ok' (by omega) hI3 hn3 ?_)
 k_lt w
 exact h y σ3 (le2.trans le3) hy
end
section
variable {n : Nat} {c : Cx} {ρ : Loc} {σ : Sig}
theorem intBits_small {a : Int} (h : a.natAbs < 2 ^ 64) : Builtin.Int.intBits a ≤ 64 := by
 unfold Builtin.Int.intBits
 split
 · omega
 · rename_i h0
   have := (Nat.log2_lt (by simpa using h0)).mpr h
   omega
theorem mulN {a : Int} {b : Int} (h : a.natAbs ≤ 1000000) : IntMulOk a b := IntMulOk.of_left (intBits_small (by omega))
noncomputable def Ys (ts : List Bool) (high c : Nat) : List Bool := (ts.drop (c * high)).take high
noncomputable def usedAt (ts : List Bool) (high : Nat) : Nat → Nat
 | 0 => 0
 | c + 1 => usedAt ts high c + (trues (Ys ts high c)).length
noncomputable def spareAt (sp : List V) (u m : Nat) : List V := (List.range m).map fun s => sp.getD ((u + s) % sp.length) .none
noncomputable def setItems (k : Str) (xs sp : List V) (fl : List Bool) (u : Nat) : List V :=
 putN xs (trues fl) (if k = "integer" then spareAt sp u (trues fl).length else (spareAt sp u (trues fl).length).map (lab "integer")) (trues fl).length
noncomputable def setCol (ts : List Bool) (high : Nat) (sp : List V) (c : Nat) (q : Str × List V) : Str × List V := (q.1, setItems q.1 q.2 sp (Ys ts high c) (usedAt ts high c))
noncomputable def setCols (ts : List Bool) (high : Nat) (sp : List V) (cols : List (Str × List V)) : List (Str × List V) := cols.mapIdx fun c q => setCol ts high sp c q
theorem flagCol_len {ts : List Bool} {high c wide : Nat} (h : ts.length = high * wide) (hc : c < wide) : (Ys ts high c).length = high := by
 unfold Ys
 rw [List.length_take, List.length_drop, h]
 have h1 : (c + 1) * high ≤ wide * high := Nat.mul_le_mul_right high hc
 rw [Nat.add_mul, Nat.one_mul] at h1
 have h2 : high * wide = wide * high := Nat.mul_comm ..
 omega
theorem flagsL_drop {ts : List Bool} {a b : Nat} : ((Yp ts).drop a).take b = Yp ((ts.drop a).take b) := by
 unfold Yp; rw [List.map_take, List.map_drop]
theorem isIn_flags {ts : List Bool} : isIn .none (Yp ts) = false := by
 unfold isIn Yp
 rw [List.any_map, List.any_eq_false]
 intro b _
 cases b <;> simp [Dn, Di, PyData.eqv]
theorem flags_scal {ts : List Bool} : ∀ y ∈ Yp ts, scal y = true := by
 intro y hy
 obtain ⟨b, _, rfl⟩ := List.mem_map.mp hy
 rfl
theorem trues_lt {fl : List Bool} : ∀ p ∈ trues fl, p < fl.length := fun p hp => List.mem_range.mp (List.mem_filter.mp hp).1
theorem trues_len {fl : List Bool} : (trues fl).length ≤ fl.length := by
 have := List.length_filter_le (fun i => fl.getD i false) (List.range fl.length)
 rw [List.length_range] at this; exact this
theorem usedAt_le {ts : List Bool} {high wide : Nat} (h : ts.length = high * wide) : ∀ c, c ≤ wide → usedAt ts high c ≤ c * high
 | 0, _ => by simp [usedAt]
 | c + 1, hc => by
  have h1 := usedAt_le h c (by omega)
  have h2 := trues_len (fl := Ys ts high c)
  rw [flagCol_len h (by omega)] at h2
  rw [Nat.add_mul]
  simp only [usedAt]
  omega
theorem setCols_get {ts : List Bool} {high : Nat} {sp : List V} {cols : List (Str × List V)} {c : Nat} {q : Str × List V} (h : cols[c]? = some q) : (setCols ts high sp cols)[c]? = some (setCol ts high sp c q) := by
 unfold setCols; rw [List.getElem?_mapIdx, h]; rfl
theorem setCols_len {ts : List Bool} {high : Nat} {sp : List V} {cols : List (Str × List V)} : (setCols ts high sp cols).length = cols.length := by simp [setCols]
theorem Sig.set_del {ml : Addr} {o : AObj} : (σ.set ml o).del ml = σ.del ml := by
 funext b
 by_cases q : b = ml
 · subst q; rw [Yq, Yq]
 · rw [Ye q, Ye q, Yd q]
theorem Le.del {ml : Addr} {σ' : Sig} (le : Le σ σ') : Le (σ.del ml) (σ'.del ml) := fun b o e => by
 by_cases q : b = ml
 · subst q; rw [Yq] at e; cases e
 · rw [Ye q] at e ⊢; exact le _ _ e
theorem Le.ofDel {ml : Addr} : Le (σ.del ml) σ := fun b o e => by
 by_cases q : b = ml
 · subst q; rw [Yq] at e; cases e
 · rw [Ye q] at e; exact e
theorem Vec.del {x l ml : Addr} {k : Str} {xs ys : List V} {a : V} (h : Vec K σ x k l xs a) (hm : σ ml = some (.list ys)) (hne : l ≠ ml) : Vec K (σ.del ml) x k l xs a := by
 revert h; refine ex1 fun d => an3 fun h1 h2 h3 => ?_
 refine ⟨d, ?_, ?_, ?_⟩
 · rw [Ye]; exact h1
   rintro rfl; rw [h1] at hm; cases hm
 · rw [Ye]; exact h2
   rintro rfl; rw [h2] at hm; cases hm
 · rw [Ye hne]; exact h3
theorem ct_assign_flags (hK : KOk K) (ok : c.Ok prog w K n) (hn : 7 ≤ n) {x ix il v vl : Addr} {ma : V} {f : FD} {ts : List Bool} {sp : List V} {nt : V} {Q : V → Sig → Prop} (hF : FrmE K σ x f) (fo : f.Ok)
 (hix : Vec K σ ix "logical" il (Yp ts) ma) (hts : ts.length = f.marks.length * f.cols.length) (hv : Vec K σ v "integer" vl sp .none) (hs0 : sp ≠ []) (hs1 : sp.length ≤ 1000) (hsi : ∀ v ∈ sp, smallInt v) (hsz : f.marks.length * f.cols.length ≤ 1000)
 (h : ∀ y σ', Le σ σ' → FrmE K σ' y ⟨setCols ts f.marks.length sp f.cols, f.ss, f.kd, f.marks⟩ → Q (.ref y) σ') : CODE prog w c ρ σ (.ref (gv K "assign_flags")) [.ref x, .ref ix, .ref v, nt] [] Q := by
 have hsl := hF.sl
 have hhi := hF.high
 have hwi := hF.wide
 have hcl := hF.clen
 obtain ⟨l, a, nx, nl, cx, cl, rx, rl, vs, hF⟩ := hF
 have hvs : vs.length = f.cols.length := hF.cs.len
 have hFl := hF.self.list
 have hFs := hF.self
 have hil := hix.list
 have hvl := hv.list
 have hsp : 0 < sp.length := List.length_pos_iff.mpr hs0
 have hfl : (Yp ts).length ≤ 100000 := by rw [flagsL_len, hts]; omega
 generalize hhigh : f.marks.length = high at *
 refine en_assign_flags hK ok (by omega) fun c' ok' sc' gl' => ?_
 k_lt w
 refine Yb (ct_frame_rows hK ok' (by omega) hF ?_)
 k_lt w
 try rw [hhigh]
 k_lt w
 refine Yb (ct_is_vector hK ok' (by omega) hv ?_)
 k_lt w
 refine fun ml hml => ?_
 have le1 := Yc (o := .list []) hml
 have hm1 : (σ.set ml (.list [])) ml = some (.list []) := Ya
 have hF1l := le1 _ _ hFl
 have hF1s := hFs.mono le1
 generalize σ.set ml (.list []) = σ1 at le1 hm1 hF1l hF1s ⊢
 k_lt w
 refine S_for ok' ?_ (hs := fun _ => rfl)
 k_lt w
 refine R_one ok' fun r hr => ?_
 have le2 := le1.trans (Yc (o := .rng 0 vs.length) hr)
 have hm2 := (Yc (o := .rng 0 vs.length) hr) _ _ hm1
 have hr2 : (σ1.set r (.rng 0 vs.length)) r = some (.rng 0 vs.length) := Ya
 generalize σ1.set r (.rng 0 vs.length) = σ2 at le2 hm2 hr2 ⊢
 refine ⟨.rng 0 vs.length, spanZ 0 vs.length, fun i ρ' σ' => ∃ o1 o2 o3 o4 o5 ys, ρ' = ([("df", some (.ref x)), ("ix", some (.ref ix)), ("value", some (.ref v)), ("notes", some nt), ("rows", some (.int high)), ("columns", some (.ref ml)), ("used", some (.int (usedAt ts high i))), ("place", o1), ("flags", o2), ("places", o3), ("column", o4), ("items", o5)] : List (Str × Option V)) ∧ Le σ σ' ∧ σ' ml = some (.list ys) ∧ Cols K (σ'.del ml) ys ((setCols ts high sp f.cols).take i),
  Yr hr2 (by omega), ⟨_, _, _, _, _, [], rfl, le2, hm2, .nil⟩, ⟨?_, ?_, ?_⟩⟩
 · rintro i ρ' σ' _; rfl
 · intro c2 i u ρ' σ' S2 ok2 hx; apply iv6; refine fun o1 o2 o3 o4 o5 ys => an3 fun le hmi hci => ?_
   obtain ⟨hi, rfl⟩ := Yn hx
   have gl2 := S2.gl.trans gl'
   have sc2 : c2.env.scope = _ := (congrArg Env.scope S2.env).trans sc'
   have hix2 := hix.mono le
   have hv2 := hv.mono le
   have hF2 := hF.mono le
   have hF2s := hF2.self
   have hyl : ys.length = i := by rw [hci.len, List.length_take, setCols_len]; omega
   have hiw : i < f.cols.length := by omega
   have hfc := flagCol_len hts hiw
   have hu := usedAt_le hts i (by omega)
   have hle : (i + 1) * high ≤ high * f.cols.length := by rw [Nat.mul_comm high]; exact Nat.mul_le_mul_right high hiw
   have hle2 : i * high ≤ high * f.cols.length := by rw [Nat.mul_comm high]; exact Nat.mul_le_mul_right high (by omega)
   refine G_name ok2 (by k_lt sv) ?_
   k_lt w
   refine B_mul (mulN (by omega)) ?_
   k_lt w
   refine B_mul (mulN (by omega)) ?_
   k_lt w
   have e1 : ((i : Nat) : Int) * (high : Nat) = ((i * high : Nat) : Int) := by push_cast; rfl
   have e2 : (((i : Nat) : Int) + 1) * (high : Nat) = (((i + 1) * high : Nat) : Int) := by push_cast; rfl
   rw [e1, e2]
   have e3 : (i + 1) * high - i * high = high := by rw [Nat.add_mul, Nat.one_mul, Nat.add_sub_cancel_left]
   refine ⟨il, _, _, rfl, hix2.list, hfl, .run _ _ _ (by rw [Nat.add_mul]; omega) (by rw [flagsL_len, hts]; exact hle), fun fa hfa => ?_⟩
   rw [e3, flagsL_drop]
   show RUN _ _ _ _ _ (σ'.set fa (.list (Yp (Ys ts high i))))
   generalize hflag : Ys ts high i = fl at hfc
   have le3 := le.trans (Yc (o := .list (Yp fl)) hfa)
   have hm3 := (Yc (o := .list (Yp fl)) hfa) _ _ hmi
   have hc3 := hci.mono (Le.del (ml := ml) (Yc (o := .list (Yp fl)) hfa))
   have hfa3 : (σ'.set fa (.list (Yp fl))) fa = some (.list (Yp fl)) := Ya
   generalize σ'.set fa (.list (Yp fl)) = σ3 at le3 hm3 hc3 hfa3 ⊢
   k_lt w
   refine C_inL ok2 hfa3 rfl flags_scal ?_
   k_lt w
   try rw [isIn_flags]
   k_lt w
   refine R_st <| S_assign_comp ok2 [("flags", .ref fa)] [] (compAt (by k_lt co) (by k_lt cp) (by k_lt gs)) ?_ (swapsT ok2 sc2 (by decide +kernel)) (hs := fun _ => rfl)
   k_lt w
   refine R_one ok2 fun r2 hr2 => ?_
   have le4 := le3.trans (Yc (o := .rng 0 high) hr2)
   have hm4 := (Yc (o := .rng 0 high) hr2) _ _ hm3
   have hc4 := hc3.mono (Le.del (ml := ml) (Yc (o := .rng 0 high) hr2))
   have hfa4 := (Yc (o := .rng 0 high) hr2) _ _ hfa3
   have hr4 : (σ3.set r2 (.rng 0 high)) r2 = some (.rng 0 high) := Ya
   generalize σ3.set r2 (.rng 0 high) = σ4 at le4 hm4 hc4 hfa4 hr4 ⊢
   refine ⟨.rng 0 high, spanZ 0 high, fun j zs τ => zs = nats ((List.range j).filter fun p => fl.getD p false) ∧ τ = σ4, Yr hr4 (by omega), Yk (by rw [Yf]; omega), ⟨rfl, rfl⟩, ⟨?_, ?_⟩, ?_⟩
   · rintro j zs τ _; rfl
   · rintro c3 j u zs τ ok3 gl3 k1 k2 hx ⟨rfl, rfl⟩
     obtain ⟨hj, rfl⟩ := Yn hx
     refine IFS_one ?_
     k_lt w
     refine SB_list hfa4 (by omega) (by omega) (v := .int (if fl.getD j false then 1 else 0)) (by simp [Yp, List.getD, hfc, hj]) ?_
     k_lt w
     try rw [List.range_succ, List.filter_append]
     cases hb : fl.getD j false with
     | true =>
      simp only [if_true]
      k_lt w
      try rw [List.filter_cons, if_pos hb]
      exact ⟨by simp [nats], rfl⟩
     | false =>
      simp only [Bool.false_eq_true, if_false]
      k_lt w
      try rw [List.filter_cons, if_neg (by rw [hb]; simp)]
      simp
   rintro D zs τ ⟨rfl, rfl⟩ hD
   rw [Yf]
   have etr : ((List.range high).filter fun p => fl.getD p false) = trues fl := by unfold trues; rw [hfc]
   rw [etr]
   have hpl := trues_len (fl := fl)
   have hplt := trues_lt (fl := fl)
   generalize hps : trues fl = ps at hpl hplt
   have le5 := le4.trans (Yc (o := .list (nats ps)) hD)
   have hm5 := (Yc (o := .list (nats ps)) hD) _ _ hm4
   have hc5 := hc4.mono (Le.del (ml := ml) (Yc (o := .list (nats ps)) hD))
   have hD5 : (τ.set D (.list (nats ps))) D = some (.list (nats ps)) := Ya
   generalize τ.set D (.list (nats ps)) = σ5 at le5 hm5 hc5 hD5 ⊢
   have hF5 := hF.mono le5
   have hF5s := hF5.self
   have hF5l := hF5s.list
   have hgv : vs[i]? = some vs[i] := List.getElem?_eq_getElem hi
   refine (ex4 fun z lz k xs => an3 fun hz hq hvz => ?_) (hF5.cs.get hgv)
   have hgz : vs[((i : Nat) : Int).toNat]? = some (.ref z) := by rw [← hz]; exact hgv
   have hxl : xs.length = high := hcl _ (List.mem_of_getElem? hq)
   have hkn := fo.kn _ (List.mem_of_getElem? hq)
   have hlp : (nats ps).length ≤ 100000 := by rw [Yi]; omega
   have hyln : ys.length ≤ 100000 := by omega
   have hml0 : σ ml = none := hml
   have hfin : ∀ (τ' : Sig) (y ly : Addr), Le σ5 τ' → ly ≠ ml → Vec K τ' y k ly (setItems k xs sp fl (usedAt ts high i)) .none → Le σ (τ'.set ml (.list (ys ++ [.ref y]))) ∧ (τ'.set ml (.list (ys ++ [.ref y]))) ml = some (.list (ys ++ [.ref y])) ∧ Cols K ((τ'.set ml (.list (ys ++ [.ref y]))).del ml) (ys ++ [.ref y]) ((setCols ts high sp f.cols).take (i + 1)) := by
    intro τ' y ly le6 hly hy6
    refine ⟨(le5.trans le6).setD hml0, Ya, ?_⟩
    rw [List.take_add_one, setCols_get hq, Sig.set_del]
    have hsc : (setCol ts high sp i (k, xs)) = (k, setItems k xs sp fl (usedAt ts high i)) := by unfold setCol; rw [hflag]
    rw [hsc]
    exact (hc5.mono (Le.del le6)).snoc (hy6.del (le6 _ _ hm5) hly)
   by_cases h0 : ps = []
   · subst h0
     k_lt w
     refine SB_list hF5l (by omega) (by omega) hgz ?_
     k_lt w
     have hzit : setItems k xs sp fl (usedAt ts high i) = xs := by unfold setItems; rw [hps]; rfl
     refine (an3 fun q1 q2 q3 => ?_) (hfin σ5 z lz Le.refl (by
      rintro rfl
      obtain ⟨z', lz', k', xs', hz', hq', hvz'⟩ := hF.cs.get hgv
      rw [hz] at hz'; cases hz'
      obtain ⟨d1, a1, a2, a3⟩ := hvz'.mono le5
      obtain ⟨d2, b1, b2, b3⟩ := hvz
      rw [b1] at a1; cases a1
      rw [b2] at a2; cases a2
      rw [hvz'.list] at hml0; cases hml0) (by rw [hzit]; exact hvz))
     have e8 : ((usedAt ts high i : Nat) : Int) + ((nats ([] : List Nat)).length : Nat) = ((usedAt ts high (i + 1) : Nat) : Int) := by simp [usedAt, hflag, hps, Yi]
     rw [e8]
     exact jv6 _ _ _ _ _ _ rfl ⟨q1, q2, q3⟩
   · have hp0 : 0 < ps.length := List.length_pos_iff.mpr h0
     have hp1 : decide (((nats ps).length : Int) > 0) = true := by rw [Yi]; exact decide_eq_true (by omega)
     k_lt w
     refine SB_list hF5l (by omega) (by omega) hgz ?_
     k_lt w
     have hv5 := hv.mono le5
     refine R_st <| S_assign_comp ok2 [("value", .ref v), ("used", .int (usedAt ts high i))] [("len", .bi "len")] (compAt (by k_lt co) (by k_lt cp) (by k_lt gs)) ?_ (swapsT ok2 sc2 (by decide +kernel)) (hs := fun _ => rfl)
     k_lt w
     try rw [Yi]
     k_lt w
     refine R_one ok2 fun r6 hr6 => ?_
     have l56 := Yc (o := .rng 0 ps.length) hr6
     have hr7 : (σ5.set r6 (.rng 0 ps.length)) r6 = some (.rng 0 ps.length) := Ya
     generalize σ5.set r6 (.rng 0 ps.length) = σ6 at l56 hr7 ⊢
     have hv6 := hv5.mono l56
     have hv6l := hv6.list
     have hspl : sp.length ≤ 100000 := by omega
     refine ⟨.rng 0 ps.length, spanZ 0 ps.length, fun j zs τ => zs = spareAt sp (usedAt ts high i) j ∧ τ = σ6, Yr hr7 (by omega), Yk (by rw [Yf]; omega), ⟨rfl, rfl⟩, ⟨?_, ?_⟩, ?_⟩
     · rintro j zs τ _; rfl
     · rintro c3 j u zs τ ok3 gl3 k1 k2 hx ⟨rfl, rfl⟩
       obtain ⟨hj, rfl⟩ := Yn hx
       refine Yt ?_
       k_lt w
       refine B_mod (by omega) ?_
       have e7 : ((usedAt ts high i : Nat) : Int) + (j : Nat) = ((usedAt ts high i + j : Nat) : Int) := by push_cast; rfl
       rw [e7, fmodN]
       have hm := Nat.mod_lt (usedAt ts high i + j) hsp
       k_lt w
       refine SB_list hv6l (by omega) (by omega) (getD_get hm) ?_
       k_lt w
       refine ⟨?_, rfl⟩
       unfold spareAt; rw [List.range_succ, List.map_append]; rfl
     rintro D2 zs τ ⟨rfl, rfl⟩ hD2
     rw [Yf]
     have hzl : (spareAt sp (usedAt ts high i) ps.length).length = ps.length := by simp [spareAt]
     have hzs : ∀ v ∈ spareAt sp (usedAt ts high i) ps.length, smallInt v := by
      intro v hv
      obtain ⟨s, _, rfl⟩ := List.mem_map.mp hv
      have hm := Nat.mod_lt (usedAt ts high i + s) hsp
      rw [List.getD_eq_getElem?_getD, List.getElem?_eq_getElem hm]
      exact hsi _ (List.getElem_mem hm)
     have hset : setItems k xs sp fl (usedAt ts high i) = putN xs ps (if k = "integer" then spareAt sp (usedAt ts high i) ps.length else (spareAt sp (usedAt ts high i) ps.length).map (lab "integer")) ps.length := by unfold setItems; rw [hps]
     generalize hzz : spareAt sp (usedAt ts high i) ps.length = zs at hzl hzs hset
     have l57 := l56.trans (Yc (o := .list zs) hD2)
     have hD7 : (τ.set D2 (.list zs)) D2 = some (.list zs) := Ya
     generalize τ.set D2 (.list zs) = σ7 at l57 hD7 ⊢
     have hv7 := hv5.mono l57
     k_lt w
     refine mk_Vector hK ok2 (by omega) fun y d fr => ?_
     have l78 := newVec_le (k := .str "integer") (l := .ref D2) (a := .none) fr
     have hy8 := newVec_vec (k := "integer") (a := .none) fr hD7
     generalize Yj K σ7 y d (V.str "integer") (V.ref D2) V.none = σ8 at l78 hy8 ⊢
     have l58 := l57.trans l78
     k_lt w
     refine Yb (ct_put_places hK ok2 (by omega) (hvz.mono l58) hy8 (l58 _ _ hD5) (by
      rcases hkn with e | e
      · exact .inl ⟨e, rfl⟩
      · exact .inr (.inr ⟨e, rfl, hzs⟩)) (by rw [hxl]; intro p hp; have := hplt p hp; omega) (by intro e; rw [e] at hzl; simp at hzl; omega) (by omega) (by omega) (by omega) fun y2 ly2 σ9 l89 hly hy9 => ?_)
     have hD9 := (l58.trans l89) _ _ hD5
     k_lt w
     try rw [← hset] at hy9
     refine (an3 fun q1 q2 q3 => ?_) (hfin σ9 y2 ly2 (l58.trans l89) (by rintro rfl; rw [l58 _ _ hm5] at hly; cases hly) hy9)
     have hm9 := (l58.trans l89) _ _ hm5
     k_lt w
     have e8 : ((usedAt ts high i : Nat) : Int) + ((nats ps).length : Nat) = ((usedAt ts high (i + 1) : Nat) : Int) := by simp [usedAt, hflag, hps, Yi]
     rw [e8]
     exact jv6 _ _ _ _ _ _ rfl ⟨q1, q2, q3⟩
 · intro ρ' σ'; apply iv6; refine fun o1 o2 o3 o4 o5 ys => an3 fun le hmi hci => ?_
   rw [Yf, hvs, ← setCols_len (ts := ts) (high := high) (sp := sp), List.take_length] at hci
   have hc9 := hci.mono Le.ofDel
   have hF9 := hF.mono le
   have h51 := hF9.self; have h52 := hF9.at'; have h53 := hF9.rn
   have hyl : ys.length = f.cols.length := by rw [hc9.len, setCols_len]
   k_lt w
   refine Yb (ct_column_names hK ok' (by omega) hF9 txs_str fun m σ10 le10 hm0 hm10 => ?_)
   have hF10 := hF9.mono le10
   have h61 := hF10.self; have h62 := hF10.at'; have h63 := hF10.rn
   k_lt w
   refine Yb (ct_new_frame hK ok' (by omega) (skc := .list ml) (skn := .list m) ⟨rfl, le10 _ _ hmi⟩ (hc9.mono le10) ⟨rfl, hm10⟩ h63 (by omega) hF10.high (by rw [Ym]; omega) ?_ fun x' l' a' nx' nl' cx' cl' σ11 le11 hF11 => ?_)
   · intro p hp
     obtain ⟨j, hj, ej⟩ := List.mem_iff_getElem.mp hp
     have hj2 : j < f.cols.length := by rw [setCols_len] at hj; exact hj
     have hg := setCols_get (ts := ts) (high := high) (sp := sp) (List.getElem?_eq_getElem hj2)
     rw [List.getElem?_eq_getElem hj, ej] at hg
     cases hg
     show (setItems _ _ _ _ _).length = _
     unfold setItems
     rw [putN_len, hcl _ (List.getElem_mem hj2), hhigh]
   k_lt w
   exact h _ σ11 ((le.trans le10).trans le11) ⟨_, _, _, _, _, _, _, _, _, hF11⟩
end
section
variable {n : Nat} {c : Cx} {ρ : Loc} {σ : Sig}
theorem ct_dim_of2 (hK : KOk K) (ok : c.Ok prog w K n) (hn : 2 ≤ n) {x l a y l2 : Addr} {k k2 : Str} {xs ys : List V} {g : List (Str × V)} {a2 : V} {Q : V → Sig → Prop} (hv : Vec K σ x k l xs (.ref a)) (ha : σ a = some (.dicS g)) (hd : dlook g "dim" = some (.ref y)) (hy : Vec K σ y k2 l2 ys a2) (hlen : ys.length ≤ 100000)
 (h : ∀ m, σ m = none → Q (.ref m) (σ.set m (.list ys))) : CODE prog w c ρ σ (.ref (gv K "dim_of")) [.ref x] [] Q := by
 refine en_dim_of hK ok (by omega) fun c' ok' sc' gl' => ?_
 k_lt w
 refine Yb (ct_get_attr hK ok' (by omega) hv ha hd ?_)
 k_lt w
 try rw [Option.getD_some]
 k_lt w
 refine N_list ok' (k := .list _) ⟨rfl, hy.list⟩ hlen fun m hm => ?_
 k_lt w
 exact h m hm
structure Mat (K : Frag) (σ : Sig) (ix il : Addr) (ts : List Bool) (high wide : Nat) : Prop where
 ex : ∃ ma dx dl, Vec K σ ix "logical" il (Yp ts) (.ref ma) ∧ σ ma = some (.dicS [("dim", .ref dx)]) ∧ Vec K σ dx "integer" dl [.int high, .int wide] .none
theorem Mat.mono {ix il : Addr} {ts : List Bool} {high wide : Nat} {σ σ' : Sig} (h : Mat K σ ix il ts high wide) (le : Le σ σ') : Mat K σ' ix il ts high wide := by
 refine (ex3 fun ma dx dl => an3 fun h1 h2 h3 => ?_) h.ex
 exact ⟨ma, dx, dl, h1.mono le, le _ _ h2, h3.mono le⟩
theorem ct_flagm_yes (hK : KOk K) (ok : c.Ok prog w K n) (hn : 3 ≤ n) {ix il x : Addr} {ts : List Bool} {f : FD} {Q : V → Sig → Prop} (hix : Mat K σ ix il ts f.marks.length f.cols.length) (hF : FrmE K σ x f) (h : Q (.bool true) σ) : CODE prog w c ρ σ (.ref (gv K "is_flag_matrix")) [.ref ix, .ref x] [] Q := by
 have hwi := hF.wide
 have hhi := hF.high
 refine (ex3 fun ma dx dl => an3 fun h1 h2 h3 => ?_) hix.ex
 obtain ⟨l, a, nx, nl, cx, cl, rx, rl, vs, hF⟩ := hF
 have hvs := hF.cs.len
 refine CODE.drop (en_is_flag_matrix hK ok (by omega) fun c' ok' sc' gl' => ?_)
 k_lt w
 refine Yb (ct_dim_of2 hK ok' (by omega) h1 h2 (by k_lt dl) h3 (by simp) fun m hm => ?_)
 have le1 := Yc (o := .list [.int f.marks.length, .int f.cols.length]) hm
 have hm1 : (σ.set m (.list [.int f.marks.length, .int f.cols.length])) m = some (.list [.int f.marks.length, .int f.cols.length]) := Ya
 generalize σ.set m (.list [.int f.marks.length, .int f.cols.length]) = σ1 at le1 hm1 ⊢
 have hF1 := hF.mono le1
 have hs := hF1.self
 have hsl := hs.list
 k_lt w
 refine Yb (ct_frame_rows hK ok' (by omega) hF1 ?_)
 k_lt w
 refine fun t ht => ?_
 rw [hvs]
 have hsc : ∀ y ∈ [V.int f.marks.length, V.int f.cols.length], scal y = true := by simp [sci]
 k_lt w
 refine C_eqD ok' (Yo (Yc ht _ _ hm1) hsc) (Yo Ya hsc) (by rw [PyData.canLay0]; exact Yl hsc) (by rw [PyData.canLay0]; exact Yl hsc) (by rw [PyData.depth, depthAll_Dv]; omega) ?_
 k_lt w
 try rw [PySem.SeqAt.eqv_refl _ (by rw [PyData.canLay0]; exact Yl hsc)]
 k_lt w
 exact ⟨σ, le1.trans (Yc ht), h⟩
theorem ct_bset_flags (hK : KOk K) (ok : c.Ok prog w K n) (hn : 8 ≤ n) {ip x v vl ix il al t0 t1 t2 : Addr} {f : FD} {ts : List Bool} {sp : List V} {ev : V} {Q : V → Sig → Prop} (hI : Itp K σ ip) (hF : FrmE K σ x f) (fo : f.Ok)
 (hix : Mat K σ ix il ts f.marks.length f.cols.length) (hts : ts.length = f.marks.length * f.cols.length) (hv : Vec K σ v "integer" vl sp .none) (hs0 : sp ≠ []) (hs1 : sp.length ≤ 1000) (hsi : ∀ v ∈ sp, smallInt v) (hsz : f.marks.length * f.cols.length ≤ 1000)
 (ha : σ al = some (.list [.ref t0, .ref t1, .ref t2])) (h0 : σ t0 = some (.tup [.none, .ref x])) (h1 : σ t1 = some (.tup [.none, .ref ix])) (h2 : σ t2 = some (.tup [.str "value", .ref v]))
 (h : ∀ y σ', Le σ σ' → FrmE K σ' y ⟨setCols ts f.marks.length sp f.cols, f.ss, f.kd, f.marks⟩ → Q (.ref y) σ') : CODE prog w c ρ σ (.ref (gv K "b_set_frame")) [.ref ip, .ref al, ev] [] Q := by
 have e1 : idxOf [(V.none, V.ref ix), (V.str "value", V.ref v)] = [.ref ix] := by simp [idxOf, idxStep]
 have e2 : optsOf [(V.none, V.ref ix), (V.str "value", V.ref v)] = ([("value", .ref v)] : List (Str × V)) := by simp [optsOf, optStep, dput]
 refine en_b_set_frame hK ok (by omega) fun c' ok' sc' gl' => ?_
 k_lt w
 refine Yb (ct_setter_arguments hK ok' (by omega) hF ha h0 (.cons h1 (.cons h2 .nil)) (by simp) (by simp) (by rw [e2]; exact dlook_hd) fun t il2 σ1 le1 ht hil => ?_)
 k_lt w
 try rw [e1] at hil
 refine G_tuple ok' (.tup t) ⟨rfl, ht⟩ (fun _ _ e => by cases e) rfl ?_
 k_lt w
 refine fun nl hnl => ?_
 have le2 := le1.trans (Yc (o := .list []) hnl)
 have hil := (Yc (o := .list []) hnl) _ _ hil
 have hn2 : (σ1.set nl (.list [])) nl = some (.list []) := Ya
 generalize σ1.set nl (.list []) = σ2 at le2 hil hn2 ⊢
 k_lt w
 have hix2 := hix.mono le2
 k_lt w
 refine Yb (ct_flagm_yes hK ok' (by omega) hix2 (hF.mono le2) ?_)
 k_lt w
 refine (ex3 fun ma dx dl => an3 fun hx1 _ _ => ?_) hix2.ex
 k_lt w
 refine Yb (ct_assign_flags hK ok' (by omega) (hF.mono le2) fo hx1 hts (hv.mono le2) hs0 hs1 hsi hsz fun y σ3 le3 hy => ?_)
 have hn3 := le3 _ _ hn2
 have hI3 := hI.mono (le2.trans le3)
 k_lt w
 refine R_methG (M_warn_all hK ok' hI3) ?_
 k_lt w
 refine Yb (ct_warn_all hK ok' (by omega) hI3 hn3 ?_)
 k_lt w
 exact h y σ3 (le2.trans le3) hy
end
section
variable {n : Nat} {c : Cx} {ρ : Loc} {σ : Sig}
theorem CODE.monoQ {f : V} {xs : List V} {kw : List (Str × V)} {Q Q' : V → Sig → Prop} (h : CODE prog w c ρ σ f xs kw Q) (k : ∀ v σ', Q v σ' → Q' v σ') : CODE prog w c ρ σ f xs kw Q' := by
 intro g vs kv h1 h2 h3 s F
 refine codeAny_mono (h g vs kv h1 h2 h3 s F) fun r s' hr => ?_
 cases r with
 | error e => exact hr
 | ok f =>
  cases f with
  | ret v => obtain ⟨σ', F', hq⟩ := hr; exact ⟨σ', F', k _ _ hq⟩
  | next => exact hr
  | brk => exact hr
  | cont => exact hr
inductive One (K : Frag) (σ : Sig) (ix : Addr) (ss : List Str) (p : Nat) : Prop
 | name {il : Addr} {s : Str} : Vec K σ ix "character" il [.str s] .none → ss[p]? = some s → One K σ ix ss p
 | num {il : Addr} : Vec K σ ix "integer" il [.int ((p : Nat) + 1)] .none → One K σ ix ss p
theorem One.mono {ix : Addr} {ss : List Str} {p : Nat} {σ σ' : Sig} (h : One K σ ix ss p) (le : Le σ σ') : One K σ' ix ss p := by
 cases h with
 | name h1 h2 => exact .name (h1.mono le) h2
 | num h1 => exact .num (h1.mono le)
theorem One.vec {ix : Addr} {ss : List Str} {p : Nat} (h : One K σ ix ss p) : ∃ k il v, Vec K σ ix k il [v] .none ∧ (k = "character" ∨ k = "integer") := by
 cases h with
 | name h1 h2 => exact ⟨_, _, _, h1, .inl rfl⟩
 | num h1 => exact ⟨_, _, _, h1, .inr rfl⟩
theorem ct_one_name (hK : KOk K) (ok : c.Ok prog w K n) (hn : 2 ≤ n) {nm : Addr} {ss : List Str} {s : Str} {p : Nat} {Q : V → Sig → Prop} (hnm : σ nm = some (.list (txs ss))) (hl : ss.length ≤ 1000) (hnd : ss.Nodup) (hne : ∀ s ∈ ss, s ≠ "") (hs : ss[p]? = some s) (h : Q (.int (p : Nat)) σ) : CODE prog w c ρ σ (.ref (gv K "one_name")) [.str s, .ref nm, .bool true] [] Q := by
 refine CODE.drop (en_one_name hK ok (by omega) fun c' ok' sc' gl' => ?_)
 k_lt w
 refine Yb (ct_first_places hK ok' (by omega) hnm hl hnd hne fun d g σ1 le1 hd0 hd hg hk => ?_)
 have hd2 := hk p s hs
 k_lt w
 refine Q_get2 ok' hd ?_
 k_lt w
 try rw [hd2]
 k_lt w
 exact ⟨σ, le1, h⟩
theorem ct_one_whole (hK : KOk K) (ok : c.Ok prog w K n) (hn : 1 ≤ n) {p : Nat} {m : V} {Q : V → Sig → Prop} (h : Q (.int (p : Nat)) σ) : CODE prog w c ρ σ (.ref (gv K "one_whole")) [.int ((p : Nat) + 1), m] [] Q := by
 refine en_one_whole hK ok (by omega) fun c' ok' sc' gl' => ?_
 k_lt w
 try rw [Int.add_sub_cancel]
 exact h
theorem ct_one_place (hK : KOk K) (ok : c.Ok prog w K n) (hn : 3 ≤ n) {ix : Addr} {ss : List Str} {p : Nat} {m nv : V} {Q : V → Sig → Prop} (hix : One K σ ix ss p) (hl : ss.length ≤ 1000) (hnd : ss.Nodup) (hne : ∀ s ∈ ss, s ≠ "")
 (hnv : (∃ il, Vec K σ ix "integer" il [.int ((p : Nat) + 1)] .none) ∨ ∃ nm, nv = .ref nm ∧ σ nm = some (.list (txs ss))) (h : Q (.int (p : Nat)) σ) : CODE prog w c ρ σ (.ref (gv K "one_place")) [.ref ix, m, nv, .bool true] [] Q := by
 have num : ∀ il, Vec K σ ix "integer" il [.int ((p : Nat) + 1)] .none → CODE prog w c ρ σ (.ref (gv K "one_place")) [.ref ix, m, nv, .bool true] [] Q := by
  intro il h1
  have h1l := h1.list
  refine en_one_place hK ok (by omega) fun c' ok' sc' gl' => ?_
  k_lt w
  refine Yb (ct_whole_subscripts hK ok' (by omega) h1 ?_)
  k_lt w
  refine Yb (ct_one_whole hK ok' (by omega) ?_)
  k_lt w
  exact h
 cases hix with
 | num h1 => exact num _ h1
 | name h1 h2 =>
  rcases hnv with ⟨il2, h3⟩ | ⟨nm, rfl, h3⟩
  · exact num _ h3
  · have h1l := h1.list
    refine en_one_place hK ok (by omega) fun c' ok' sc' gl' => ?_
    k_lt w
    refine Yb (ct_one_name hK ok' (by omega) h3 hl hnd hne h2 ?_)
    k_lt w
    exact h
theorem ct_is_list_kind (hK : KOk K) (ok : c.Ok prog w K n) (hn : 1 ≤ n) {k : Str} {b : Bool} {Q : V → Sig → Prop} (hk : (k = "list" ∧ b = true) ∨ ((k = "integer" ∨ k = "character") ∧ b = false)) (h : Q (.bool b) σ) : CODE prog w c ρ σ (.ref (gv K "is_list_kind")) [.str k] [] Q := by
 rcases hk with ⟨rfl, rfl⟩ | ⟨rfl | rfl, rfl⟩
 all_goals
  refine en_is_list_kind hK ok (by omega) fun c' ok' sc' gl' => ?_
  k_lt w
  exact h
theorem ct_is_long_index (hK : KOk K) (ok : c.Ok prog w K n) (hn : 2 ≤ n) {ix : Addr} {ss : List Str} {p : Nat} {Q : V → Sig → Prop} (hix : One K σ ix ss p) (h : Q (.bool false) σ) : CODE prog w c ρ σ (.ref (gv K "is_long_index")) [.ref ix] [] Q := by
 refine (ex3 fun k il v => ?_) hix.vec; rintro ⟨hv, hk⟩
 have hvl := hv.list
 refine en_is_long_index hK ok (by omega) fun c' ok' sc' gl' => ?_
 k_lt w
 refine Yb (ct_is_vector hK ok' (by omega) hv ?_)
 k_lt w
 refine Yb (ct_is_list_kind hK ok' (by omega) (b := false) (.inr ⟨hk.symm, rfl⟩) ?_)
 k_lt w
 exact h
theorem ct_vector_element_df (hK : KOk K) (ok : c.Ok prog w K n) (hn : 5 ≤ n) {x ix l a nx nl cx cl rx rl : Addr} {vs : List V} {cols : List (Str × List V)} {ss : List Str} {mk : Str} {marks : List V} {p : Nat} {z : Addr} {Q : V → Sig → Prop} (hF : Frm K σ x l a nx nl cx cl rx rl vs cols (txs ss) mk marks) (hnd : ss.Nodup) (hne : ∀ s ∈ ss, s ≠ "")
 (hix : One K σ ix ss p) (hp : vs[p]? = some (.ref z)) (h : Q (.ref z) σ) : CODE prog w c ρ σ (.ref (gv K "vector_element")) [.ref x, .ref ix, .bool true] [] Q := by
 have hs := hF.self
 have hsl := hs.list
 have hwi := hF.wide
 have hsz := hF.sl
 have hp2 := (List.getElem?_eq_some_iff.mp hp).1
 refine CODE.drop (en_vector_element hK ok (by omega) fun c' ok' sc' gl' => ?_)
 k_lt w
 refine Yb (ct_names_of hK ok' (by omega) hF fun m hm => ?_)
 have le1 := Yc (o := .list (txs ss)) hm
 have hm1 : (σ.set m (.list (txs ss))) m = some (.list (txs ss)) := Ya
 generalize σ.set m (.list (txs ss)) = σ1 at le1 hm1 ⊢
 have hs1 := hs.mono le1
 have hs1l := hs1.list
 k_lt w
 refine Yb (ct_one_place hK ok' (by omega) (hix.mono le1) (by omega) hnd hne (.inr ⟨m, rfl, hm1⟩) ?_)
 k_lt w
 have en : CODE prog w c' [("v", some (.ref x)), ("ix", some (.ref ix)), ("exact", some (.bool true)), ("n", some (.int vs.length)), ("place", some (.int p))] σ1 (.ref (gv K "one_item")) [.ref x, .int p] [] fun v σ' => v = .ref z ∧ σ' = σ1 := by
  refine en_one_item hK ok' (by omega) fun c2 ok2 sc2 gl2 => ?_
  k_lt w
  refine Yb (ct_is_list_kind hK ok2 (by omega) (b := true) (.inl ⟨rfl, rfl⟩) ?_)
  k_lt w
  refine SB_list hs1l (by omega) (by omega) (v := .ref z) (by simpa using hp) ?_
  k_lt w
  exact ⟨rfl, rfl⟩
 k_lt w
 refine Yb (en.monoQ ?_)
 rintro v σ' ⟨rfl, rfl⟩
 k_lt w
 exact ⟨σ, le1, h⟩
theorem ct_vector_element_col (hK : KOk K) (ok : c.Ok prog w K n) (hn : 5 ≤ n) {x ix l il : Addr} {k : Str} {xs : List V} {p : Nat} {Q : V → Sig → Prop} (hv : Vec K σ x k l xs .none) (hk : k = "integer" ∨ k = "character") (hl : xs.length ≤ 1000)
 (hix : Vec K σ ix "integer" il [.int ((p : Nat) + 1)] .none) (hp : p < xs.length) (h : ∀ y ly σ', Le σ σ' → Vec K σ' y k ly [xs.getD p .none] .none → Q (.ref y) σ') : CODE prog w c ρ σ (.ref (gv K "vector_element")) [.ref x, .ref ix, .bool true] [] Q := by
 have hvl := hv.list
 refine en_vector_element hK ok (by omega) fun c' ok' sc' gl' => ?_
 k_lt w
 refine Yb (ct_names_of0 hK ok' (by omega) hv (by rcases hk with rfl | rfl <;> decide +kernel) (by rcases hk with rfl | rfl <;> decide +kernel) ?_)
 k_lt w
 refine Yb (ct_one_place hK ok' (by omega) (ss := []) (.num hix) (by simp) (by simp) (by simp) (.inl ⟨il, hix⟩) ?_)
 k_lt w
 have en : CODE prog w c' [("v", some (.ref x)), ("ix", some (.ref ix)), ("exact", some (.bool true)), ("n", some (.int xs.length)), ("place", some (.int p))] σ (.ref (gv K "one_item")) [.ref x, .int p] [] fun v σ' => ∃ y ly, v = .ref y ∧ Le σ σ' ∧ Vec K σ' y k ly [xs.getD p .none] .none := by
  refine en_one_item hK ok' (by omega) fun c2 ok2 sc2 gl2 => ?_
  k_lt w
  refine Yb (ct_is_list_kind hK ok2 (by omega) (b := false) (.inr ⟨hk, rfl⟩) ?_)
  k_lt w
  refine SB_list hvl (by omega) (by omega) (getD_get hp) ?_
  k_lt w
  refine fun m hm => ?_
  k_lt w
  refine mk_Vector1 hK ok2 (by omega) fun y d fr => ?_
  k_lt w
  exact ⟨y, m, rfl, (Yh (k := k) (a := .none) hm fr).1, (Yh (k := k) (a := .none) hm fr).2⟩
 k_lt w
 refine Yb (en.monoQ ?_)
 refine fun v σ' => ex2 fun y ly => an3 ?_; rintro rfl; intro le1 hy
 k_lt w
 exact h y ly σ' le1 hy
end
section
variable {n : Nat} {c : Cx} {ρ : Loc} {σ : Sig}
theorem ct_element_df (hK : KOk K) (ok : c.Ok prog w K n) (hn : 7 ≤ n) {x ix il l a nx nl cx cl rx rl : Addr} {vs : List V} {cols : List (Str × List V)} {ss : List Str} {mk : Str} {marks : List V} {p : Nat} {z : Addr} {Q : V → Sig → Prop} (hF : Frm K σ x l a nx nl cx cl rx rl vs cols (txs ss) mk marks) (hnd : ss.Nodup) (hne : ∀ s ∈ ss, s ≠ "")
 (hix : One K σ ix ss p) (hil : σ il = some (.list [.ref ix])) (hp : vs[p]? = some (.ref z)) (h : Q (.ref z) σ) : CODE prog w c ρ σ (.ref (gv K "element")) [.ref x, .ref il, .bool true] [] Q := by
 have hs := hF.self
 refine (ex3 fun k jl v => ?_) hix.vec; rintro ⟨hv, hk⟩
 have en : ∀ (c' : Cx) (ρ' : Loc), c'.Ok prog w K (n - 1) → CODE prog w c' ρ' σ (.ref (gv K "element_step")) [.ref x, .ref ix, .bool true] [] fun v σ' => v = .ref z ∧ σ' = σ := by
  intro c' ρ' ok'
  refine en_element_step hK ok' (by omega) fun c2 ok2 sc2 gl2 => ?_
  k_lt w
  refine Yb (ct_is_vector hK ok2 (by omega) hs ?_)
  k_lt w
  refine Yb (ct_vector_element_df hK ok2 (by omega) hF hnd hne hix hp ?_)
  k_lt w
  exact ⟨rfl, rfl⟩
 refine en_element hK ok (by omega) fun c' ok' sc' gl' => ?_
 rcases hk with rfl | rfl
 all_goals
  k_lt w
  refine Yb (ct_is_long_index hK ok' (by omega) hix ?_)
  k_lt w
  refine Yb ((en c' _ ok').monoQ ?_)
  rintro v σ' ⟨rfl, rfl⟩
  k_lt w
  exact h
theorem ct_element_col (hK : KOk K) (ok : c.Ok prog w K n) (hn : 7 ≤ n) {x ix il jl l : Addr} {k : Str} {xs : List V} {p : Nat} {Q : V → Sig → Prop} (hv : Vec K σ x k l xs .none) (hk : k = "integer" ∨ k = "character") (hl : xs.length ≤ 1000)
 (hix : Vec K σ ix "integer" jl [.int ((p : Nat) + 1)] .none) (hil : σ il = some (.list [.ref ix])) (hp : p < xs.length) (h : ∀ y ly σ', Le σ σ' → Vec K σ' y k ly [xs.getD p .none] .none → Q (.ref y) σ') : CODE prog w c ρ σ (.ref (gv K "element")) [.ref x, .ref il, .bool true] [] Q := by
 have en : ∀ (c' : Cx) (ρ' : Loc), c'.Ok prog w K (n - 1) → CODE prog w c' ρ' σ (.ref (gv K "element_step")) [.ref x, .ref ix, .bool true] [] fun v σ' => ∃ y ly, v = .ref y ∧ Le σ σ' ∧ Vec K σ' y k ly [xs.getD p .none] .none := by
  intro c' ρ' ok'
  refine en_element_step hK ok' (by omega) fun c2 ok2 sc2 gl2 => ?_
  rcases hk with rfl | rfl
  · k_lt w
    refine Yb (ct_is_vector hK ok2 (by omega) hv ?_)
    k_lt w
    refine Yb (ct_vector_element_col hK ok2 (by omega) hv (.inl rfl) hl hix hp fun y ly σ' le hy => ?_)
    k_lt w
    exact ⟨y, ly, rfl, le, hy⟩
  · k_lt w
    refine Yb (ct_is_vector hK ok2 (by omega) hv ?_)
    k_lt w
    refine Yb (ct_vector_element_col hK ok2 (by omega) hv (.inr rfl) hl hix hp fun y ly σ' le hy => ?_)
    k_lt w
    exact ⟨y, ly, rfl, le, hy⟩
 refine en_element hK ok (by omega) fun c' ok' sc' gl' => ?_
 k_lt w
 refine Yb (ct_is_long_index hK ok' (by omega) (ss := []) (.num hix) ?_)
 k_lt w
 refine Yb ((en c' _ ok').monoQ ?_)
 refine fun v σ' => ex2 fun y ly => an3 ?_; rintro rfl; intro le hy
 k_lt w
 exact h y ly σ' le hy
theorem ct_belem_one (hK : KOk K) (ok : c.Ok prog w K n) (hn : 8 ≤ n) {x ix al t0 t1 l a nx nl cx cl rx rl : Addr} {vs : List V} {cols : List (Str × List V)} {ss : List Str} {mk : Str} {marks : List V} {p : Nat} {z : Addr} {iv ev : V} {Q : V → Sig → Prop} (hF : Frm K σ x l a nx nl cx cl rx rl vs cols (txs ss) mk marks) (hnd : ss.Nodup) (hne : ∀ s ∈ ss, s ≠ "")
 (hix : One K σ ix ss p) (hp : vs[p]? = some (.ref z)) (ha : σ al = some (.list [.ref t0, .ref t1])) (h0 : σ t0 = some (.tup [.none, .ref x])) (h1 : σ t1 = some (.tup [.none, .ref ix]))
 (h : Q (.ref z) σ) : CODE prog w c ρ σ (.ref (gv K "b_element_frame")) [iv, .ref al, ev] [] Q := by
 have e1 : idxOf [(V.none, V.ref ix)] = [.ref ix] := by simp [idxOf, idxStep]
 have e2 : optsOf [(V.none, V.ref ix)] = [] := by simp [optsOf, optStep]
 refine CODE.drop (en_b_element_frame hK ok (by omega) fun c' ok' sc' gl' => ?_)
 k_lt w
 refine Yb (ct_index_arguments hK ok' (by omega) hF ha h0 (.cons h1 .nil) (by simp) (by simp) fun t il ol σ1 le1 ht hil hol => ?_)
 k_lt w
 try rw [e1] at hil
 rw [e2] at hol
 refine G_tuple ok' (.tup t) ⟨rfl, ht⟩ (fun _ _ e => by cases e) rfl ?_
 k_lt w
 refine Yb (ct_is_true0 hK ok' (by omega) ?_)
 k_lt w
 refine Yb (ct_element_df hK ok' (by omega) (hF.mono le1) hnd hne (hix.mono le1) hil hp ?_)
 k_lt w
 exact ⟨σ, le1, h⟩
theorem ct_belem_two (hK : KOk K) (ok : c.Ok prog w K n) (hn : 9 ≤ n) {x ix jx il0 jl0 al t0 t1 t2 : Addr} {f : FD} {p q : Nat} {k : Str} {xs : List V} {iv ev : V} {Q : V → Sig → Prop} (hF : FrmE K σ x f) (fo : f.Ok)
 (hix : Vec K σ ix "integer" il0 [.int ((q : Nat) + 1)] .none) (hjx : Vec K σ jx "integer" jl0 [.int ((p : Nat) + 1)] .none) (hp : f.cols[p]? = some (k, xs)) (hq : q < f.marks.length)
 (ha : σ al = some (.list [.ref t0, .ref t1, .ref t2])) (h0 : σ t0 = some (.tup [.none, .ref x])) (h1 : σ t1 = some (.tup [.none, .ref ix])) (h2 : σ t2 = some (.tup [.none, .ref jx]))
 (h : ∀ y ly σ', Le σ σ' → Vec K σ' y k ly [xs.getD q .none] .none → Q (.ref y) σ') : CODE prog w c ρ σ (.ref (gv K "b_element_frame")) [iv, .ref al, ev] [] Q := by
 have hcl := hF.clen
 have hhi := hF.high
 obtain ⟨l, a, nx, nl, cx, cl, rx, rl, vs, hF⟩ := hF
 have e1 : idxOf [(V.none, V.ref ix), (V.none, V.ref jx)] = [.ref ix, .ref jx] := by simp [idxOf, idxStep]
 have e2 : optsOf [(V.none, V.ref ix), (V.none, V.ref jx)] = [] := by simp [optsOf, optStep]
 have hpl := (List.getElem?_eq_some_iff.mp hp).1
 have hvs := hF.cs.len
 have hgv : vs[p]? = some vs[p] := List.getElem?_eq_getElem (by omega)
 refine (ex4 fun z lz k1 xs1 => an3 fun hz hq1 hvz => ?_) (hF.cs.get hgv)
 rw [hp] at hq1
 obtain ⟨rfl, rfl⟩ : k = k1 ∧ xs = xs1 := by simpa using hq1
 have hgz : vs[p]? = some (.ref z) := hgv.trans (congrArg some hz)
 have hxl : xs.length = f.marks.length := hcl _ (List.mem_of_getElem? hp)
 have hkn := fo.kn _ (List.mem_of_getElem? hp)
 refine en_b_element_frame hK ok (by omega) fun c' ok' sc' gl' => ?_
 k_lt w
 refine Yb (ct_index_arguments hK ok' (by omega) hF ha h0 (.cons h1 (.cons h2 .nil)) (by simp) (by simp) fun t il ol σ1 le1 ht hil hol => ?_)
 k_lt w
 try rw [e1] at hil
 rw [e2] at hol
 refine G_tuple ok' (.tup t) ⟨rfl, ht⟩ (fun _ _ e => by cases e) rfl ?_
 k_lt w
 refine Yb (ct_is_true0 hK ok' (by omega) ?_)
 k_lt w
 refine ⟨il, _, [.ref jx], rfl, hil, by simp, .frm 1 _, fun sl hsl => ?_⟩
 have le2 := le1.trans (Yc (o := .list [.ref jx]) hsl)
 have hil2 := (Yc (o := .list [.ref jx]) hsl) _ _ hil
 have hsl2 : (σ1.set sl (.list [.ref jx])) sl = some (.list [.ref jx]) := Ya
 generalize σ1.set sl (.list [.ref jx]) = σ2 at le2 hil2 hsl2 ⊢
 k_lt w
 refine Yb (ct_element_df hK ok' (by omega) (hF.mono le2) fo.sd fo.ne (.num (hjx.mono le2)) hsl2 hgz ?_)
 k_lt w
 have hix2 := hix.mono le2
 k_lt w
 refine Yb (ct_row_placesX hK ok' (by omega) (ps := [q]) (ab := false) (hF.mono le2) fo.lab fo.m0 (.vec hix2 (.inl rfl) fun b => posOk_up hK (ps := [q]) hix2 (by simp)) fun pl σ3 le3 hpl3 => ?_)
 have hpl4 : σ3 pl = some (.list [.int q]) := hpl3
 k_lt w
 refine Yb (ct_frame_rows hK ok' (by omega) (hF.mono (le2.trans le3)) ?_)
 k_lt w
 refine fun nl2 hnl2 => ?_
 k_lt w
 refine Yb (ct_integer hK ok' (by omega) (sk := .list nl2) ⟨rfl, Ya⟩ (by simp) fun u d l5 hl5 fr => ?_)
 obtain ⟨le5, hu⟩ := Yh (k := "integer") (a := .none) hl5 fr
 have le6 := (Yc hnl2).trans le5
 generalize Yj K ((σ3.set nl2 (.list [.int ((q : Nat) + 1)])).set l5 (.list [.int ((q : Nat) + 1)])) u d (V.str "integer") (V.ref l5) V.none = σ6 at le6 hu ⊢
 k_lt w
 refine fun ql hql => ?_
 k_lt w
 have leZ := ((le2.trans le3).trans le6).trans (Yc (o := .list [.ref u]) hql)
 k_lt w
 refine Yb (ct_element_col hK ok' (by omega) (hvz.mono leZ) hkn (by omega) (hu.mono (Yc (o := .list [.ref u]) hql)) Ya (by omega) fun y ly σ9 le9 hy => ?_)
 k_lt w
 exact h y ly σ9 (leZ.trans le9) hy
theorem ct_b_dim_frame (hK : KOk K) (ok : c.Ok prog w K n) (hn : 6 ≤ n) {x al t0 : Addr} {f : FD} {iv ev : V} {Q : V → Sig → Prop} (hF : FrmE K σ x f) (ha : σ al = some (.list [.ref t0])) (h0 : σ t0 = some (.tup [.none, .ref x]))
 (h : ∀ y ly σ', Le σ σ' → Vec K σ' y "integer" ly [.int f.marks.length, .int f.cols.length] .none → Q (.ref y) σ') : CODE prog w c ρ σ (.ref (gv K "b_dim_frame")) [iv, .ref al, ev] [] Q := by
 have hwi := hF.wide
 obtain ⟨l, a, nx, nl, cx, cl, rx, rl, vs, hF⟩ := hF
 have hs := hF.self
 have hsl := hs.list
 have hvs := hF.cs.len
 refine en_b_dim_frame hK ok (by omega) fun c' ok' sc' gl' => ?_
 k_lt w
 refine Yb (ct_first_frame hK ok' (by omega) hF ha h0 (by simp) ?_)
 k_lt w
 refine Yb (ct_frame_rows hK ok' (by omega) hF ?_)
 k_lt w
 refine fun m hm => ?_
 k_lt w
 try rw [hvs]
 k_lt w
 refine Yb (ct_integer hK ok' (by omega) (sk := .list m) ⟨rfl, Ya⟩ (by simp) fun u d l5 hl5 fr => ?_)
 obtain ⟨le5, hu⟩ := Yh (k := "integer") (a := .none) hl5 fr
 k_lt w
 exact h u l5 _ ((Yc hm).trans le5) hu
end
section
variable {n : Nat} {c : Cx} {ρ : Loc} {σ : Sig}
theorem UNR_nil {target : PySem.Expr} {body : List PySem.Stmt} {Q : Out → Loc → Sig → Prop} {k : SK} {full : List V} (h : Q .next ρ σ) : UNR prog w K n c target body Q k full [] ρ σ := h
theorem span1 : spanZ 0 ((1 : Nat) : Int) = [.int 0] := rfl
theorem span2 : spanZ 0 ((2 : Nat) : Int) = [.int 0, .int 1] := rfl
theorem rng_src1 {r : Addr} (h : σ r = some (.rng 0 1)) : SrcOf σ (.ref r) (.rng 0 1) [.int 0] := Yr (m := 1) h (by omega)
theorem rng_src2 {r : Addr} (h : σ r = some (.rng 0 2)) : SrcOf σ (.ref r) (.rng 0 2) [.int 0, .int 1] := Yr (m := 2) h (by omega)
theorem S_while1 {test : PySem.Expr} {body : List PySem.Stmt} {pos : Pos} {Q : Out → Loc → Sig → Prop}
 (h : TST prog w c ρ σ test fun b σ₁ => if b = true then STS prog w c ρ σ₁ body (LoopQ (fun ρ₂ σ₂ => TST prog w c ρ₂ σ₂ test fun b σ₃ => b = false ∧ Q .next ρ₂ σ₃) Q) else Q .next ρ σ₁) : ST prog w c ρ σ (.While test body [] pos) Q := by
 refine S_while (fun m ρ' σ' => (m = 1 ∧ ρ' = ρ ∧ σ' = σ) ∨ (m = 0 ∧ TST prog w c ρ' σ' test fun b σ₃ => b = false ∧ Q .next ρ' σ₃)) 1 (.inl ⟨rfl, rfl, rfl⟩) ?_
 rintro m ρ' σ' (⟨rfl, rfl, rfl⟩ | ⟨rfl, h0⟩)
 · refine TE.mono h fun b σ₁ hb => ?_
   cases b with
   | false => simpa using hb
   | true =>
    simp only [if_true] at hb ⊢
    intro s F
    refine wpAny_mono (hb s F) (fun f s' => ex2 fun ρ₂ σ₂ => an2 fun F₂ h₂ => ⟨ρ₂, σ₂, F₂, ?_⟩) fun _ _ z => z
    cases f with
    | next => exact ⟨0, by omega, .inr ⟨rfl, h₂⟩⟩
    | cont => exact ⟨0, by omega, .inr ⟨rfl, h₂⟩⟩
    | brk => exact h₂
    | ret v => exact h₂
 · refine TE.mono h0 fun b σ₁ => an2 fun hb hq => ?_
   subst hb
   simpa using hq
theorem C_eqNS (ok : c.Ok prog w K n) {s : Str} {Q : V → Sig → Prop} (hs : PyData.strOk s = true) (h : Q (.bool false) σ) : CMP prog w c ρ σ .Eq .none (.str s) Q := by
 refine C_eqv ok rfl hs ?_
 have e : PyData.eqv (Dv .none) (Dv (.str s)) = false := by simp [Dn, Ds, PyData.eqv]
 rw [e]; exact h
structure Mch (K : Frag) (σ : Sig) (x fl tl ul pd : Addr) (fs tags used : List V) (ps : List (Str × V)) : Prop where
 o : Obj0 K σ x "Matching" [("formals", .ref fl), ("tags", .ref tl), ("used", .ref ul), ("places", .ref pd)]
 f : σ fl = some (.list fs)
 t : σ tl = some (.list tags)
 u : σ ul = some (.list used)
 p : σ pd = some (.dicS ps)
 n1 : fl ≠ ul
 n2 : tl ≠ ul
section
variable {x fl tl ul pd : Addr} {fs tags used : List V} {ps : List (Str × V)}
theorem Mch.mono {σ' : Sig} (h : Mch K σ x fl tl ul pd fs tags used ps) (le : Le σ σ') : Mch K σ' x fl tl ul pd fs tags used ps := ⟨h.o.mono le, le _ _ h.f, le _ _ h.t, le _ _ h.u, le _ _ h.p, h.n1, h.n2⟩
theorem Mch.setU {used' : List V} (h : Mch K σ x fl tl ul pd fs tags used ps) : Mch K (σ.set ul (.list used')) x fl tl ul pd fs tags used' ps := by
 obtain ⟨⟨d, a1, a2⟩, a3, a4, a5, a6, a7, a8⟩ := h
 refine ⟨⟨d, ?_, ?_⟩, ?_, ?_, Ya, ?_, a7, a8⟩
 · rw [Yd]; exact a1
   rintro rfl; rw [a1] at a5; cases a5
 · rw [Yd]; exact a2
   rintro rfl; rw [a2] at a5; cases a5
 · rw [Yd a7]; exact a3
 · rw [Yd a8]; exact a4
 · rw [Yd]; exact a6
   rintro rfl; rw [a6] at a5; cases a5
theorem Mch.setP {ps' : List (Str × V)} (h : Mch K σ x fl tl ul pd fs tags used ps) : Mch K (σ.set pd (.dicS ps')) x fl tl ul pd fs tags used ps' := by
 obtain ⟨⟨d, a1, a2⟩, a3, a4, a5, a6, a7, a8⟩ := h
 refine ⟨⟨d, ?_, ?_⟩, ?_, ?_, ?_, Ya, a7, a8⟩
 · rw [Yd]; exact a1
   rintro rfl; rw [a1] at a6; cases a6
 · rw [Yd]; exact a2
   rintro rfl; rw [a2] at a6; cases a6
 · rw [Yd]; exact a3
   rintro rfl; rw [a3] at a6; cases a6
 · rw [Yd]; exact a4
   rintro rfl; rw [a4] at a6; cases a6
 · rw [Yd]; exact a5
   rintro rfl; rw [a5] at a6; cases a6
theorem M_mch (hK : KOk K) (ok : c.Ok prog w K n) {j : Nat} {nm q : Str} (h : Mch K σ x fl tl ul pd fs tags used ps) (hm : ((88, j, "Matching", nm, q, []) : Nat × Nat × Str × Str × Str × List V) ∈ mtTab.take 14) (hno : ([("formals", V.none), ("tags", .none), ("used", .none), ("places", .none)] : List (Str × V)).all (fun p => !(p.1 == nm)) = true) : METH prog w K c ρ σ (.ref x) nm (.ref (mt K "Matching" nm)) [.ref x] := by
 obtain ⟨d, h1, h2⟩ := h.o
 refine (an4 fun m1 m2 m3 m4 => ?_) (hK.mf (88, j, "Matching", nm, q, []) hm)
 refine M_inst ok h1 h2 ?_ m4 m1 m2 m3
 simp only [List.all_cons, List.all_nil, Bool.and_true, Bool.and_eq_true, Bool.not_eq_true'] at hno
 exact .cons hno.1 (.cons hno.2.1 (.cons hno.2.2.1 (.cons hno.2.2.2 .nil)))
end
noncomputable def OffM (σ σ' : Sig) (ul pd : Addr) : Prop := ∀ τ, Le τ σ → τ ul = none → τ pd = none → Le τ σ'
theorem OffM.refl {ul pd : Addr} : OffM σ σ ul pd := fun _ h _ _ => h
theorem OffM.le {ul pd : Addr} {σ1 σ2 : Sig} (h : OffM σ σ1 ul pd) (le : Le σ1 σ2) : OffM σ σ2 ul pd := fun τ a b c => (h τ a b c).trans le
theorem OffM.trans {ul pd : Addr} {σ1 σ2 : Sig} (h : OffM σ σ1 ul pd) (k : OffM σ1 σ2 ul pd) : OffM σ σ2 ul pd := fun τ a b c => k τ (h τ a b c) b c
theorem OffM.setU {ul pd : Addr} {σ1 : Sig} {o : AObj} (h : OffM σ σ1 ul pd) : OffM σ (σ1.set ul o) ul pd := fun τ a b c => (h τ a b c).setD b
theorem OffM.setP {ul pd : Addr} {σ1 : Sig} {o : AObj} (h : OffM σ σ1 ul pd) : OffM σ (σ1.set pd o) ul pd := fun τ a b c => (h τ a b c).setD c
noncomputable def fs1 : List V := [.str "x", .str "value"]
noncomputable def fs2 : List V := [.str "x", .str "do.NULL", .str "prefix"]
noncomputable def tg1 : List V := [.none, .str "value"]
noncomputable def tg2 : List V := [.none]
theorem ct_exact1 (hK : KOk K) (ok : c.Ok prog w K n) (hn : 1 ≤ n) {x fl tl ul pd : Addr} {Q : V → Sig → Prop} (hM : Mch K σ x fl tl ul pd fs1 tg1 [.int 0, .int 0] [])
 (h : ∀ σ', OffM σ σ' ul pd → Mch K σ' x fl tl ul pd fs1 tg1 [.int 0, .int 2] [("value", .int 1)] → Q .none σ') : CODE prog w c ρ σ (.ref (mt K "Matching" "exact")) [.ref x] [] Q := by
 refine en_Matching_exact hK ok (by omega) fun c' ok' sc' gl' => ?_
 have ho := hM.o
 have hf := hM.f
 have ht : σ tl = some (.list [.none, .str "value"]) := hM.t
 k_lt C
 refine S_forU ok' ?_ (hs := fun _ => rfl)
 k_lt w
 refine ⟨.list fl, _, ⟨rfl, hf⟩, ?_⟩
 intro c2 S2 ok2
 have gl2 := S2.gl.trans gl'
 k_lt w
 refine S_forU ok2 ?_ (hs := fun _ => rfl)
 k_lt w
 refine R_one ok2 fun r hr => ?_
 have le1 := Yc (o := .rng 0 2) hr
 have hr1 : (σ.set r (.rng 0 2)) r = some (.rng 0 2) := Ya
 show ∃ k xs, SrcOf (σ.set r (.rng 0 2)) _ k xs ∧ _
 have hM1 := hM.mono le1
 have off1 : OffM σ (σ.set r (.rng 0 2)) ul pd := OffM.refl.le le1
 generalize σ.set r (.rng 0 2) = σ1 at le1 hr1 hM1 off1 ⊢
 have ho := hM1.o
 have ht : σ1 tl = some (.list [.none, .str "value"]) := hM1.t
 have hu : σ1 ul = some (.list [.int 0, .int 0]) := hM1.u
 refine ⟨.rng 0 2, _, rng_src2 hr1, ?_⟩
 intro c3 S3 ok3
 have gl3 := S3.gl.trans gl2
 k_lt w
 refine C_eqNS ok3 (by decide +kernel) ?_
 k_lt w
 refine ⟨rfl, ?_⟩
 intro c4 S4 ok4
 have gl4 := S4.gl.trans gl2
 k_lt w
 refine ⟨rfl, UNR_nil ?_⟩
 k_lt w
 refine ⟨hM1.f, ?_⟩
 intro c5 S5 ok5
 have gl5 := S5.gl.trans gl'
 k_lt w
 refine S_forU ok5 ?_ (hs := fun _ => rfl)
 k_lt w
 refine R_one ok5 fun r2 hr2 => ?_
 show ∃ k xs, SrcOf (σ1.set r2 (.rng 0 2)) _ k xs ∧ _
 have le2 := Yc (o := .rng 0 2) hr2
 have hr3 : (σ1.set r2 (.rng 0 2)) r2 = some (.rng 0 2) := Ya
 have hM2 := hM1.mono le2
 have off2 := off1.le le2
 generalize σ1.set r2 (.rng 0 2) = σ2 at le2 hr3 hM2 off2 ⊢
 have ho := hM2.o
 have ht : σ2 tl = some (.list [.none, .str "value"]) := hM2.t
 have hu : σ2 ul = some (.list [.int 0, .int 0]) := hM2.u
 have hp := hM2.p
 refine ⟨.rng 0 2, _, rng_src2 hr3, ?_⟩
 intro c6 S6 ok6
 have gl6 := S6.gl.trans gl5
 k_lt w
 refine C_eqNS ok6 (by decide +kernel) ?_
 k_lt w
 refine ⟨rfl, ?_⟩
 intro c7 S7 ok7
 have gl7 := S7.gl.trans gl5
 k_lt w
 refine I_dicS hp (by simp) ?_
 have hM3 := hM2.setP (ps' := [("value", .int 1)])
 have off3 := off2.setP (o := .dicS [("value", .int 1)])
 first | show RUN _ _ _ _ _ (σ2.set pd (.dicS [("value", .int 1)])) | show Then _ _ _ _ (σ2.set pd (.dicS [("value", .int 1)]))
 generalize σ2.set pd (.dicS [("value", .int 1)]) = σ3 at hM3 off3 ⊢
 have ho := hM3.o
 have hu := hM3.u
 k_lt w
 refine I_set hu (by omega) (by omega) (by simp) ?_
 first | show RUN _ _ _ _ _ (σ3.set ul (.list [.int 0, .int 2])) | show Then _ _ _ _ (σ3.set ul (.list [.int 0, .int 2]))
 have hM4 := hM3.setU (used' := [.int 0, .int 2])
 have off4 := off3.setU (o := .list [.int 0, .int 2])
 generalize σ3.set ul (.list [.int 0, .int 2]) = σ4 at hM4 off4 ⊢
 k_lt w
 refine ⟨rfl, UNR_nil ?_⟩
 k_lt w
 refine ⟨hM4.f, UNR_nil ?_⟩
 k_lt w
 exact h σ4 off4 hM4
end
section
variable {n : Nat} {c : Cx} {ρ : Loc} {σ : Sig}
theorem ct_exact2 (hK : KOk K) (ok : c.Ok prog w K n) (hn : 1 ≤ n) {x fl tl ul pd : Addr} {Q : V → Sig → Prop} (hM : Mch K σ x fl tl ul pd fs2 tg2 [.int 0] [])
 (h : ∀ σ', OffM σ σ' ul pd → Mch K σ' x fl tl ul pd fs2 tg2 [.int 0] [] → Q .none σ') : CODE prog w c ρ σ (.ref (mt K "Matching" "exact")) [.ref x] [] Q := by
 refine en_Matching_exact hK ok (by omega) fun c' ok' sc' gl' => ?_
 have ho := hM.o
 have hf := hM.f
 have ht : σ tl = some (.list [.none]) := hM.t
 k_lt C
 refine S_for ok' ?_ (hs := fun _ => rfl)
 k_lt w
 refine ⟨.list fl, fs2, fun i ρ' σ' => ∃ o o2, ρ' = ([("self", some (.ref x)), ("name", o), ("place", o2)] : List (Str × Option V)) ∧ OffM σ σ' ul pd ∧ Mch K σ' x fl tl ul pd fs2 tg2 [.int 0] [], ⟨rfl, hf⟩, jv2 _ _ rfl ⟨OffM.refl, hM⟩, ⟨?_, ?_, ?_⟩⟩
 · refine fun i ρ' σ' => ex2 fun o o2 => an3 fun _ _ hM => ?_; exact hM.f
 · intro c2 i v ρ' σ' S2 ok2 hx; apply iv2; intro o o2; rintro ⟨off, hM⟩
   have gl2 := S2.gl.trans gl'
   have hv : ∃ s : Str, v = .str s ∧ PyData.strOk s = true ∧ decide (s ≠ "...") = true := by
    have hm := List.mem_of_getElem? hx
    simp only [fs2, List.mem_cons, List.not_mem_nil, or_false] at hm
    rcases hm with rfl | rfl | rfl
    · exact jv1 _ rfl ⟨by decide +kernel, by decide +kernel⟩
    · exact jv1 _ rfl ⟨by decide +kernel, by decide +kernel⟩
    · exact jv1 _ rfl ⟨by decide +kernel, by decide +kernel⟩
   revert hv; refine ex1 fun s => an3 ?_; rintro rfl; intro hs1 hs2
   have ho := hM.o
   have ht : σ' tl = some (.list [.none]) := hM.t
   k_lt w
   refine S_forU ok2 ?_ (hs := fun _ => rfl)
   k_lt w
   refine R_one ok2 fun r hr => ?_
   show ∃ k xs, SrcOf (σ'.set r (.rng 0 1)) _ k xs ∧ _
   have le1 := Yc (o := .rng 0 1) hr
   have hr1 : (σ'.set r (.rng 0 1)) r = some (.rng 0 1) := Ya
   have hM1 := hM.mono le1
   have off1 := off.le le1
   generalize σ'.set r (.rng 0 1) = σ1 at le1 hr1 hM1 off1 ⊢
   have ho := hM1.o
   have ht : σ1 tl = some (.list [.none]) := hM1.t
   refine ⟨.rng 0 1, _, rng_src1 hr1, ?_⟩
   intro c3 S3 ok3
   have gl3 := S3.gl.trans gl2
   k_lt w
   refine C_eqNS ok3 hs1 ?_
   k_lt w
   refine ⟨rfl, UNR_nil ?_⟩
   k_lt w
   exact jv2 _ _ rfl ⟨off1, hM1⟩
 · intro ρ' σ'; apply iv2; intro o o2; rintro ⟨off, hM⟩
   k_lt w
   exact h σ' off hM
theorem ct_partial_of (hK : KOk K) (ok : c.Ok prog w K n) (hn : 1 ≤ n) {x fl tl ul pd : Addr} {fs tags used : List V} {ps : List (Str × V)} {s : Str} {Q : V → Sig → Prop} (hM : Mch K σ x fl tl ul pd fs tags used ps) (hl : tags.length ≤ 2)
 (hu : ∀ i (hi : i < tags.length), used[i]? = some (.int 2) ∨ (used[i]? = some (.int 0) ∧ tags[i]? = some .none))
 (h : ∀ σ', OffM σ σ' ul pd → Mch K σ' x fl tl ul pd fs tags used ps → Q .none σ') : CODE prog w c ρ σ (.ref (mt K "Matching" "partial_of")) [.ref x, .str s] [] Q := by
 refine en_Matching_partial_of hK ok (by omega) fun c' ok' sc' gl' => ?_
 have ho := hM.o
 have ht := hM.t
 have hl2 : tags.length ≤ 100000 := by omega
 k_lt C
 refine S_for ok' ?_ (hs := fun _ => rfl)
 k_lt w
 refine R_one ok' fun r hr => ?_
 have le1 := Yc (o := .rng 0 tags.length) hr
 have hr1 : (σ.set r (.rng 0 tags.length)) r = some (.rng 0 tags.length) := Ya
 have hM1 := hM.mono le1
 have off1 : OffM σ (σ.set r (.rng 0 tags.length)) ul pd := OffM.refl.le le1
 generalize σ.set r (.rng 0 tags.length) = σ1 at le1 hr1 hM1 off1 ⊢
 refine ⟨.rng 0 tags.length, spanZ 0 tags.length, fun i ρ' σ' => ∃ o o2, ρ' = ([("self", some (.ref x)), ("name", some (.str s)), ("place", o), ("tag", o2)] : List (Str × Option V)) ∧ σ' = σ1, Yr hr1 (by omega), jv2 _ _ rfl rfl, ⟨?_, ?_, ?_⟩⟩
 · rintro i ρ' σ' _; rfl
 · intro c2 i v ρ' σ' S2 ok2 hx; apply iv2; intro o o2; rintro rfl
   obtain ⟨hi, rfl⟩ := Yn hx
   have gl2 := S2.gl.trans gl'
   have ho := hM1.o
   have htg : tags[((i : Nat) : Int).toNat]? = some tags[i] := List.getElem?_eq_getElem hi
   refine G_name ok2 (by k_lt sv) ?_
   k_lt w
   refine SB_list hM1.t (by omega) (by omega) htg ?_
   rcases hu i hi with e | ⟨e, e2⟩
   · have hug : used[((i : Nat) : Int).toNat]? = some (.int 2) := e
     k_lt w
     refine SB_list hM1.u (by omega) (by omega) hug ?_
     k_lt w
     exact jv2 _ _ rfl rfl
   · have hug : used[((i : Nat) : Int).toNat]? = some (.int 0) := e
     have e3 : tags[i] = .none := by rw [List.getElem?_eq_getElem hi] at e2; exact Option.some.inj e2
     rw [e3]
     k_lt w
     refine SB_list hM1.u (by omega) (by omega) hug ?_
     k_lt w
     exact jv2 _ _ rfl rfl
 · intro ρ' σ'; apply iv2; intro o o2; rintro rfl
   k_lt w
   exact h _ off1 hM1
theorem ct_partial1 (hK : KOk K) (ok : c.Ok prog w K n) (hn : 2 ≤ n) {x fl tl ul pd : Addr} {Q : V → Sig → Prop} (hM : Mch K σ x fl tl ul pd fs1 tg1 [.int 0, .int 2] [("value", .int 1)])
 (h : ∀ σ', OffM σ σ' ul pd → Mch K σ' x fl tl ul pd fs1 tg1 [.int 0, .int 2] [("value", .int 1)] → Q .none σ') : CODE prog w c ρ σ (.ref (mt K "Matching" "partial")) [.ref x] [] Q := by
 refine en_Matching_partial hK ok (by omega) fun c' ok' sc' gl' => ?_
 have ho := hM.o
 have hf := hM.f
 have hp := hM.p
 k_lt C
 refine S_forU ok' ?_ (hs := fun _ => rfl)
 k_lt w
 refine ⟨.list fl, _, ⟨rfl, hf⟩, ?_⟩
 intro c2 S2 ok2
 have gl2 := S2.gl.trans gl'
 k_lt w
 refine R_methG (M_mch hK ok2 hM (List.mem_of_getElem? (i := 10) rfl) (by decide +kernel)) ?_
 k_lt w
 refine Yb (ct_partial_of hK ok2 (by omega) hM (by simp [tg1]) (by
  intro i hi
  have : i = 0 ∨ i = 1 := by simp [tg1] at hi; omega
  rcases this with rfl | rfl
  · exact .inr ⟨rfl, rfl⟩
  · exact .inl rfl) fun σ1 off1 hM1 => ?_)
 k_lt w
 refine ⟨hM1.f, ?_⟩
 intro c3 S3 ok3
 have gl3 := S3.gl.trans gl'
 have ho := hM1.o
 have hp := hM1.p
 k_lt w
 refine ⟨hM1.f, UNR_nil ?_⟩
 k_lt w
 exact h σ1 off1 hM1
theorem ct_partial2 (hK : KOk K) (ok : c.Ok prog w K n) (hn : 2 ≤ n) {x fl tl ul pd : Addr} {Q : V → Sig → Prop} (hM : Mch K σ x fl tl ul pd fs2 tg2 [.int 0] [])
 (h : ∀ σ', OffM σ σ' ul pd → Mch K σ' x fl tl ul pd fs2 tg2 [.int 0] [] → Q .none σ') : CODE prog w c ρ σ (.ref (mt K "Matching" "partial")) [.ref x] [] Q := by
 refine en_Matching_partial hK ok (by omega) fun c' ok' sc' gl' => ?_
 have ho := hM.o
 have hf := hM.f
 k_lt C
 refine S_for ok' ?_ (hs := fun _ => rfl)
 k_lt w
 refine ⟨.list fl, fs2, fun i ρ' σ' => ∃ o, ρ' = ([("self", some (.ref x)), ("name", o)] : List (Str × Option V)) ∧ OffM σ σ' ul pd ∧ Mch K σ' x fl tl ul pd fs2 tg2 [.int 0] [], ⟨rfl, hf⟩, jv1 _ rfl ⟨OffM.refl, hM⟩, ⟨?_, ?_, ?_⟩⟩
 · refine fun i ρ' σ' => ex1 fun o => an3 fun _ _ hM => ?_; exact hM.f
 · intro c2 i v ρ' σ' S2 ok2 hx; apply iv1; intro o; rintro ⟨off, hM⟩
   have gl2 := S2.gl.trans gl'
   have hv : ∃ s : Str, v = .str s ∧ decide (s = "...") = false := by
    have hm := List.mem_of_getElem? hx
    simp only [fs2, List.mem_cons, List.not_mem_nil, or_false] at hm
    rcases hm with rfl | rfl | rfl
    · exact jv1 _ rfl (by decide +kernel)
    · exact jv1 _ rfl (by decide +kernel)
    · exact jv1 _ rfl (by decide +kernel)
   obtain ⟨s, rfl, hs2⟩ := hv
   have ho := hM.o
   have hp := hM.p
   k_lt w
   refine R_methG (M_mch hK ok2 hM (List.mem_of_getElem? (i := 10) rfl) (by decide +kernel)) ?_
   k_lt w
   refine Yb (ct_partial_of hK ok2 (by omega) hM (by simp [tg2]) (by
    intro i hi
    have : i = 0 := by simp [tg2] at hi; omega
    subst this
    exact .inr ⟨rfl, rfl⟩) fun σ1 off1 hM1 => ?_)
   k_lt w
   exact jv1 _ rfl ⟨off.trans off1, hM1⟩
 · intro ρ' σ'; apply iv1; intro o; rintro ⟨off, hM⟩
   k_lt w
   exact h σ' off hM
theorem ct_is_free (hK : KOk K) (ok : c.Ok prog w K n) (hn : 1 ≤ n) {x fl tl ul pd : Addr} {fs tags used : List V} {ps : List (Str × V)} {i : Nat} {b : Bool} {Q : V → Sig → Prop} (hM : Mch K σ x fl tl ul pd fs tags used ps)
 (hi : i ≤ 1) (hu : (used[i]? = some (.int 2) ∧ b = false) ∨ (used[i]? = some (.int 0) ∧ tags[i]? = some .none ∧ b = true)) (h : Q (.bool b) σ) : CODE prog w c ρ σ (.ref (mt K "Matching" "is_free")) [.ref x, .int i] [] Q := by
 refine en_Matching_is_free hK ok (by omega) fun c' ok' sc' gl' => ?_
 have ho := hM.o
 rcases hu with ⟨e, rfl⟩ | ⟨e, e2, rfl⟩
 · have hug : used[((i : Nat) : Int).toNat]? = some (.int 2) := e
   k_lt w
   refine SB_list hM.u (by omega) (by omega) hug ?_
   k_lt w
   exact h
 · have hug : used[((i : Nat) : Int).toNat]? = some (.int 0) := e
   have htg : tags[((i : Nat) : Int).toNat]? = some .none := e2
   k_lt w
   refine SB_list hM.u (by omega) (by omega) hug ?_
   k_lt w
   refine SB_list hM.t (by omega) (by omega) htg ?_
   k_lt w
   exact h
end
section
variable {n : Nat} {c : Cx} {ρ : Loc} {σ : Sig}
theorem ct_positional1 (hK : KOk K) (ok : c.Ok prog w K n) (hn : 2 ≤ n) {x fl tl ul pd : Addr} {Q : V → Sig → Prop} (hM : Mch K σ x fl tl ul pd fs1 tg1 [.int 0, .int 2] [("value", .int 1)])
 (h : ∀ σ', OffM σ σ' ul pd → Mch K σ' x fl tl ul pd fs1 tg1 [.int 2, .int 2] [("value", .int 1), ("x", .int 0)] → Q .none σ') : CODE prog w c ρ σ (.ref (mt K "Matching" "positional")) [.ref x] [] Q := by
 refine en_Matching_positional hK ok (by omega) fun c' ok' sc' gl' => ?_
 have ho := hM.o
 have hf := hM.f
 have hp := hM.p
 have ht : σ tl = some (.list [.none, .str "value"]) := hM.t
 k_lt w
 refine S_forU ok' ?_ (hs := fun _ => rfl)
 k_lt w
 refine ⟨.list fl, _, ⟨rfl, hf⟩, ?_⟩
 intro c2 S2 ok2
 have gl2 := S2.gl.trans gl'
 k_lt w
 refine S_while0 ?_
 k_lt w
 refine R_methG (M_mch hK ok2 hM (List.mem_of_getElem? (i := 12) rfl) (by decide +kernel)) ?_
 k_lt w
 refine Yb (ct_is_free hK ok2 (by omega) (i := 0) hM (by omega) (.inr ⟨rfl, rfl, rfl⟩) ?_)
 k_lt w
 refine ⟨rfl, ?_⟩
 k_lt w
 refine I_dicS hp (by simp) ?_
 have hM3 := hM.setP (ps' := [("value", .int 1), ("x", .int 0)])
 have off3 : OffM σ (σ.set pd (.dicS [("value", .int 1), ("x", .int 0)])) ul pd := OffM.refl.setP
 first | show RUN _ _ _ _ _ (σ.set pd (.dicS [("value", .int 1), ("x", .int 0)])) | show Then _ _ _ _ (σ.set pd (.dicS [("value", .int 1), ("x", .int 0)]))
 generalize σ.set pd (.dicS [("value", .int 1), ("x", .int 0)]) = σ3 at hM3 off3 ⊢
 have ho := hM3.o
 have hu := hM3.u
 k_lt w
 refine I_set hu (by omega) (by omega) (by simp) ?_
 first | show RUN _ _ _ _ _ (σ3.set ul (.list [.int 2, .int 2])) | show Then _ _ _ _ (σ3.set ul (.list [.int 2, .int 2]))
 have hM4 := hM3.setU (used' := [.int 2, .int 2])
 have off4 := off3.setU (o := .list [.int 2, .int 2])
 generalize σ3.set ul (.list [.int 2, .int 2]) = σ4 at hM4 off4 ⊢
 k_lt w
 refine ⟨hM4.f, ?_⟩
 intro c3 S3 ok3
 have gl3 := S3.gl.trans gl'
 have ho := hM4.o
 have hp := hM4.p
 k_lt w
 refine ⟨hM4.f, UNR_nil ?_⟩
 k_lt w
 exact h σ4 off4 hM4
theorem ct_positional2 (hK : KOk K) (ok : c.Ok prog w K n) (hn : 2 ≤ n) {x fl tl ul pd : Addr} {Q : V → Sig → Prop} (hM : Mch K σ x fl tl ul pd fs2 tg2 [.int 0] [])
 (h : ∀ σ', OffM σ σ' ul pd → Mch K σ' x fl tl ul pd fs2 tg2 [.int 2] [("x", .int 0)] → Q .none σ') : CODE prog w c ρ σ (.ref (mt K "Matching" "positional")) [.ref x] [] Q := by
 refine en_Matching_positional hK ok (by omega) fun c' ok' sc' gl' => ?_
 have ho := hM.o
 have hf := hM.f
 have hp := hM.p
 have ht : σ tl = some (.list [.none]) := hM.t
 k_lt w
 refine S_forU ok' ?_ (hs := fun _ => rfl)
 k_lt w
 refine ⟨.list fl, _, ⟨rfl, hf⟩, ?_⟩
 intro c2 S2 ok2
 have gl2 := S2.gl.trans gl'
 k_lt w
 refine S_while0 ?_
 k_lt w
 refine R_methG (M_mch hK ok2 hM (List.mem_of_getElem? (i := 12) rfl) (by decide +kernel)) ?_
 k_lt w
 refine Yb (ct_is_free hK ok2 (by omega) (i := 0) hM (by omega) (.inr ⟨rfl, rfl, rfl⟩) ?_)
 k_lt w
 refine ⟨rfl, ?_⟩
 k_lt w
 refine I_dicS hp (by simp) ?_
 have hM3 := hM.setP (ps' := [("x", .int 0)])
 have off3 : OffM σ (σ.set pd (.dicS [("x", .int 0)])) ul pd := OffM.refl.setP
 first | show RUN _ _ _ _ _ (σ.set pd (.dicS [("x", .int 0)])) | show Then _ _ _ _ (σ.set pd (.dicS [("x", .int 0)]))
 generalize σ.set pd (.dicS [("x", .int 0)]) = σ3 at hM3 off3 ⊢
 have ho := hM3.o
 have hu := hM3.u
 k_lt w
 refine I_set hu (by omega) (by omega) (by simp) ?_
 first | show RUN _ _ _ _ _ (σ3.set ul (.list [.int 2])) | show Then _ _ _ _ (σ3.set ul (.list [.int 2]))
 have hM4 := hM3.setU (used' := [.int 2])
 have off4 := off3.setU (o := .list [.int 2])
 generalize σ3.set ul (.list [.int 2]) = σ4 at hM4 off4 ⊢
 k_lt w
 refine ⟨hM4.f, ?_⟩
 intro c3 S3 ok3
 have gl3 := S3.gl.trans gl'
 have ho := hM4.o
 have hp := hM4.p
 have ht : σ4 tl = some (.list [.none]) := hM4.t
 k_lt w
 refine S_while1 ?_
 k_lt w
 refine R_methG (M_mch hK ok3 hM4 (List.mem_of_getElem? (i := 12) rfl) (by decide +kernel)) ?_
 k_lt w
 refine Yb (ct_is_free hK ok3 (by omega) (i := 0) hM4 (by omega) (.inl ⟨rfl, rfl⟩) ?_)
 k_lt w
 refine ⟨rfl, ?_⟩
 k_lt w
 refine ⟨hM4.f, ?_⟩
 intro c5 S5 ok5
 have gl5 := S5.gl.trans gl'
 k_lt w
 refine S_while0 ?_
 k_lt w
 refine ⟨rfl, ?_⟩
 k_lt w
 refine ⟨hM4.f, UNR_nil ?_⟩
 k_lt w
 exact h σ4 off4 hM4
theorem ct_rest (hK : KOk K) (ok : c.Ok prog w K n) (hn : 1 ≤ n) {x fl tl ul pd : Addr} {fs tags used : List V} {ps : List (Str × V)} {Q : V → Sig → Prop} (hM : Mch K σ x fl tl ul pd fs tags used ps) (hl : tags.length ≤ 2)
 (hu : ∀ i (hi : i < tags.length), used[i]? = some (.int 2))
 (h : ∀ y σ', Le σ σ' → σ' y = some (.list []) → Q (.ref y) σ') : CODE prog w c ρ σ (.ref (mt K "Matching" "rest")) [.ref x] [] Q := by
 refine en_Matching_rest hK ok (by omega) fun c' ok' sc' gl' => ?_
 have ho := hM.o
 have ht := hM.t
 have hl2 : tags.length ≤ 100000 := by omega
 k_lt C
 k_lt st
 k_lt w
 refine R_ex <| X_comp ok' [("self", .ref x)] [] (compAt (by k_lt co) (by k_lt cp) (by k_lt gs)) ?_ (hs := fun _ => rfl)
 k_lt w
 refine R_one ok' fun r hr => ?_
 have le1 := Yc (o := .rng 0 tags.length) hr
 have hr1 : (σ.set r (.rng 0 tags.length)) r = some (.rng 0 tags.length) := Ya
 have hM1 := hM.mono le1
 generalize σ.set r (.rng 0 tags.length) = σ1 at le1 hr1 hM1 ⊢
 refine ⟨.rng 0 tags.length, spanZ 0 tags.length, fun i ys σ' => ys = [] ∧ σ' = σ1, Yr hr1 (by omega), Yk (by rw [Yf]; omega), ⟨rfl, rfl⟩, ⟨?_, ?_⟩, ?_⟩
 · rintro i ys σ' _; rfl
 · rintro c2 i v ys σ' ok2 gl2 k1 k2 hx ⟨rfl, rfl⟩
   obtain ⟨hi, rfl⟩ := Yn hx
   have ho := hM1.o
   have hug : used[((i : Nat) : Int).toNat]? = some (.int 2) := hu i hi
   refine IFS_one ?_
   k_lt w
   refine SB_list hM1.u (by omega) (by omega) hug ?_
   k_lt w
   exact ⟨rfl, rfl⟩
 · rintro D ys σ' ⟨rfl, rfl⟩ hD
   k_lt w
   exact h D _ (le1.trans (Yc hD)) Ya
theorem fresh_alloc {x C d a : Addr} {fs : List (Str × V)} {o : AObj} (ha : fresh σ x C d fs a = none) : (fresh σ x C d fs).set a o = fresh (σ.set a o) x C d fs := by
 have n1 : a ≠ x := by rintro rfl; rw [fresh_x] at ha; cases ha
 have n2 : a ≠ d := by
  rintro rfl
  unfold fresh at ha
  rw [Yd n1, Ya] at ha; cases ha
 unfold fresh
 rw [Sig.set_comm (Ne.symm n1), Sig.set_comm (Ne.symm n2)]
theorem fresh_none {x C d a : Addr} {fs : List (Str × V)} (hx : σ x = none) (hd : σ d = none) (hne : x ≠ d) (ha : fresh σ x C d fs a = none) : σ a = none := by
 cases q : σ a with
 | none => rfl
 | some z => rw [fresh_le hx hd hne _ _ q] at ha; cases ha
theorem mk_Matching (hK : KOk K) (ok : c.Ok prog w K n) (hn : 2 ≤ n) {fl tl : Addr} {fs tags : List V} {Q : V → Sig → Prop} (hf : σ fl = some (.list fs)) (ht : σ tl = some (.list tags)) (hl : tags.length ≤ 1000)
 (h : ∀ x ul pd σ', Le σ σ' → σ ul = none → σ pd = none → Mch K σ' x fl tl ul pd fs tags (List.replicate tags.length (.int 0)) [] → Q (.ref x) σ') : CALL prog w c ρ σ (.ref (gv K "Matching")) [.ref fl, .ref tl] [] Q := by
 have htl : tags.length ≤ 100000 := by omega
 refine MAKE ok (by omega) (hK.c "Matching" (by decide +kernel)) (hK.mf (88, 0, "Matching", "__init__", "Matching.__init__", []) (List.mem_of_getElem? (i := 7) rfl)).1 (hK.mf (88, 0, "Matching", "__init__", "Matching.__init__", []) (List.mem_of_getElem? (i := 7) rfl)).2.1 fun x d c' hx hd hne ok' => ?_
 refine en_Matching_init hK ok' (by omega) fun c'' ok'' sc' gl' => ?_
 show STS _ _ _ _ (fresh σ x (gv K "Matching") d []) _ _
 k_lt w
 refine fun a ha => ?_
 have ha0 := fresh_none hx hd hne ha
 have nax : a ≠ x := by rintro rfl; rw [fresh_x] at ha; cases ha
 rw [fresh_alloc ha]
 have le1 := Yc (o := .list [.int 0]) ha0
 have hx1 : (σ.set a (.list [.int 0])) x = none := by rw [Yd (Ne.symm nax)]; exact hx
 have nad : a ≠ d := by rintro rfl; rw [fresh_d hne] at ha; cases ha
 have hd1 : (σ.set a (.list [.int 0])) d = none := by rw [Yd (Ne.symm nad)]; exact hd
 have ha1 : (σ.set a (.list [.int 0])) a = some (.list [.int 0]) := Ya
 generalize σ.set a (.list [.int 0]) = σ1 at le1 hx1 hd1 ha1 ⊢
 have lf1 := fresh_le (C := gv K "Matching") (fs := [("formals", V.ref fl), ("tags", V.ref tl)]) hx1 hd1 hne
 have ht1 := (le1.trans lf1) _ _ ht
 have ha2 := lf1 _ _ ha1
 k_lt w
 refine B_rep ok'' ha2 (by omega) (by omega) fun ul hul => ?_
 k_lt w
 try rw [show ((tags.length : Nat) : Int).toNat = tags.length by omega]
 have hul0 := fresh_none hx1 hd1 hne hul
 have nux : ul ≠ x := by rintro rfl; rw [fresh_x] at hul; cases hul
 have nud : ul ≠ d := by rintro rfl; rw [fresh_d hne] at hul; cases hul
 rw [fresh_alloc hul]
 have le2 := le1.trans (Yc (o := .list (List.replicate tags.length (.int 0))) hul0)
 have hx2 : (σ1.set ul (.list (List.replicate tags.length (.int 0)))) x = none := by rw [Yd (Ne.symm nux)]; exact hx1
 have hd2 : (σ1.set ul (.list (List.replicate tags.length (.int 0)))) d = none := by rw [Yd (Ne.symm nud)]; exact hd1
 have hu2 : (σ1.set ul (.list (List.replicate tags.length (.int 0)))) ul = some (.list (List.replicate tags.length (.int 0))) := Ya
 have hulσ : σ ul = none := by
  cases q : σ ul with
  | none => rfl
  | some z => rw [le1 _ _ q] at hul0; cases hul0
 generalize σ1.set ul (.list (List.replicate tags.length (.int 0))) = σ2 at le2 hx2 hd2 hu2 ⊢
 k_lt w
 refine R_ex <| X_dict0 ok'' (.dicS []) (.inl rfl) fun pd hpd => ?_
 have hpd0 := fresh_none hx2 hd2 hne hpd
 have npx : pd ≠ x := by rintro rfl; rw [fresh_x] at hpd; cases hpd
 have npd : pd ≠ d := by rintro rfl; rw [fresh_d hne] at hpd; cases hpd
 rw [fresh_alloc hpd]
 have le3 := le2.trans (Yc (o := .dicS []) hpd0)
 have hx3 : (σ2.set pd (.dicS [])) x = none := by rw [Yd (Ne.symm npx)]; exact hx2
 have hd3 : (σ2.set pd (.dicS [])) d = none := by rw [Yd (Ne.symm npd)]; exact hd2
 have hp3 : (σ2.set pd (.dicS [])) pd = some (.dicS []) := Ya
 have hu3 := (Yc (o := .dicS []) hpd0) _ _ hu2
 have hpdσ : σ pd = none := by
  cases q : σ pd with
  | none => rfl
  | some z => rw [le2 _ _ q] at hpd0; cases hpd0
 generalize σ2.set pd (.dicS []) = σ3 at le3 hx3 hd3 hp3 hu3 ⊢
 k_lt w
 have lf := fresh_le (C := gv K "Matching") (fs := [("formals", V.ref fl), ("tags", V.ref tl), ("used", V.ref ul), ("places", V.ref pd)]) hx3 hd3 hne
 refine ⟨rfl, h x ul pd _ (le3.trans lf) hulσ hpdσ ⟨⟨d, fresh_x, fresh_d hne⟩, (le3.trans lf) _ _ hf, (le3.trans lf) _ _ ht, lf _ _ hu3, lf _ _ hp3, ?_, ?_⟩⟩
 · rintro rfl; rw [hf] at hulσ; cases hulσ
 · rintro rfl; rw [ht] at hulσ; cases hulσ
end
section
variable {n : Nat} {c : Cx} {ρ : Loc} {σ : Sig}
theorem ct_tags (ok : c.Ok prog w K n) {al : Addr} {vs : List V} {r : List (V × V)} (ha : σ al = some (.list vs)) (hr : Args σ vs r) (hl : vs.length ≤ 1000) {sc : Scope} {elt : PySem.Expr} (he : ∃ p1 p2 p3, elt = .Subscript (.Name "arg" p1) (.Constant (.int 0) 0 p2) p3) :
 CompInv prog w K n sc "arg" [] [] [] elt (.list al) vs (fun i ys σ' => ys = (r.take i).map (·.1) ∧ σ' = σ) := by
 revert he; refine ex3 fun p1 p2 p3 => ?_; rintro rfl
 refine ⟨?_, ?_⟩
 · rintro i ys σ' ⟨_, rfl⟩; exact ha
 · rintro c2 i v ys σ' ok2 gl2 k1 k2 hx ⟨rfl, rfl⟩
   refine (ex3 fun t tag u => an3 ?_) (hr.get hx); rintro rfl; intro hri ht
   refine Yt ?_
   k_lt w
   exact ⟨by rw [List.take_add_one, hri]; simp, rfl⟩
theorem ct_match_names1 (hK : KOk K) (ok : c.Ok prog w K n) (hn : 4 ≤ n) {fl al : Addr} {vs : List V} {a b sv : V} {Q : V → Sig → Prop} (hf : σ fl = some (.list fs1)) (ha : σ al = some (.list vs)) (hr : Args σ vs [(.none, a), (.str "value", b)])
 (h : ∀ t pd rl σ', Le σ σ' → σ' t = some (.tup [.ref pd, .ref rl]) → σ' pd = some (.dicS [("value", .int 1), ("x", .int 0)]) → Q (.ref t) σ') : CODE prog w c ρ σ (.ref (gv K "match_names")) [.ref fl, .ref al, sv] [] Q := by
 have hvl : vs.length = 2 := hr.len
 refine en_match_names hK ok (by omega) fun c' ok' sc' gl' => ?_
 k_lt w
 refine R_ex <| X_comp ok' [] [] (compAt (by k_lt co) (by k_lt cp) (by k_lt gs)) ?_ (hs := fun _ => rfl)
 k_lt w
 refine ⟨.list al, vs, _, ⟨rfl, ha⟩, Yk (by omega), ⟨rfl, rfl⟩, ct_tags ok' ha hr (by omega) ⟨_, _, _, rfl⟩, ?_⟩
 rintro D ys σ' ⟨rfl, rfl⟩ hD
 rw [hvl]
 have le1 := Yc (o := .list tg1) hD
 show RUN _ _ _ _ _ (σ'.set D (.list tg1))
 have hD1 : (σ'.set D (.list tg1)) D = some (.list tg1) := Ya
 generalize σ'.set D (.list tg1) = σ1 at le1 hD1 ⊢
 k_lt w
 refine mk_Matching hK ok' (by omega) (le1 _ _ hf) hD1 (by simp [tg1]) fun x ul pd σ2 le2 hul hpd hM => ?_
 have hM : Mch K σ2 x fl D ul pd fs1 tg1 [.int 0, .int 0] [] := hM
 k_lt w
 refine R_methG (M_mch hK ok' hM (List.mem_of_getElem? (i := 8) rfl) (by decide +kernel)) ?_
 k_lt w
 refine Yb (ct_exact1 hK ok' (by omega) hM fun σ3 off3 hM => ?_)
 k_lt w
 refine R_methG (M_mch hK ok' hM (List.mem_of_getElem? (i := 9) rfl) (by decide +kernel)) ?_
 k_lt w
 refine Yb (ct_partial1 hK ok' (by omega) hM fun σ4 off4 hM => ?_)
 k_lt w
 refine R_methG (M_mch hK ok' hM (List.mem_of_getElem? (i := 11) rfl) (by decide +kernel)) ?_
 k_lt w
 refine Yb (ct_positional1 hK ok' (by omega) hM fun σ5 off5 hM => ?_)
 k_lt w
 refine R_methG (M_mch hK ok' hM (List.mem_of_getElem? (i := 13) rfl) (by decide +kernel)) ?_
 k_lt w
 have leF : Le σ' σ5 := le1.trans (((off3.trans off4).trans off5) σ1 le2 hul hpd)
 k_lt w
 refine Yb (ct_rest hK ok' (by omega) hM (by simp [tg1]) (by
  intro i hi
  have : i = 0 ∨ i = 1 := by simp [tg1] at hi; omega
  rcases this with rfl | rfl <;> rfl) fun y σ6 le6 hy => ?_)
 have hM := hM.mono le6
 have ho := hM.o
 k_lt w
 refine fun t ht => ?_
 k_lt w
 exact h t pd y _ ((leF.trans le6).trans (Yc ht)) Ya (Yg ht hM.p)
theorem ct_match_names2 (hK : KOk K) (ok : c.Ok prog w K n) (hn : 4 ≤ n) {fl al : Addr} {vs : List V} {a sv : V} {Q : V → Sig → Prop} (hf : σ fl = some (.list fs2)) (ha : σ al = some (.list vs)) (hr : Args σ vs [(.none, a)])
 (h : ∀ t pd rl σ', Le σ σ' → σ' t = some (.tup [.ref pd, .ref rl]) → σ' pd = some (.dicS [("x", .int 0)]) → Q (.ref t) σ') : CODE prog w c ρ σ (.ref (gv K "match_names")) [.ref fl, .ref al, sv] [] Q := by
 have hvl : vs.length = 1 := hr.len
 refine en_match_names hK ok (by omega) fun c' ok' sc' gl' => ?_
 k_lt w
 refine R_ex <| X_comp ok' [] [] (compAt (by k_lt co) (by k_lt cp) (by k_lt gs)) ?_ (hs := fun _ => rfl)
 k_lt w
 refine ⟨.list al, vs, _, ⟨rfl, ha⟩, Yk (by omega), ⟨rfl, rfl⟩, ct_tags ok' ha hr (by omega) ⟨_, _, _, rfl⟩, ?_⟩
 rintro D ys σ' ⟨rfl, rfl⟩ hD
 rw [hvl]
 have le1 := Yc (o := .list tg2) hD
 show RUN _ _ _ _ _ (σ'.set D (.list tg2))
 have hD1 : (σ'.set D (.list tg2)) D = some (.list tg2) := Ya
 generalize σ'.set D (.list tg2) = σ1 at le1 hD1 ⊢
 k_lt w
 refine mk_Matching hK ok' (by omega) (le1 _ _ hf) hD1 (by simp [tg2]) fun x ul pd σ2 le2 hul hpd hM => ?_
 have hM : Mch K σ2 x fl D ul pd fs2 tg2 [.int 0] [] := hM
 k_lt w
 refine R_methG (M_mch hK ok' hM (List.mem_of_getElem? (i := 8) rfl) (by decide +kernel)) ?_
 k_lt w
 refine Yb (ct_exact2 hK ok' (by omega) hM fun σ3 off3 hM => ?_)
 k_lt w
 refine R_methG (M_mch hK ok' hM (List.mem_of_getElem? (i := 9) rfl) (by decide +kernel)) ?_
 k_lt w
 refine Yb (ct_partial2 hK ok' (by omega) hM fun σ4 off4 hM => ?_)
 k_lt w
 refine R_methG (M_mch hK ok' hM (List.mem_of_getElem? (i := 11) rfl) (by decide +kernel)) ?_
 k_lt w
 refine Yb (ct_positional2 hK ok' (by omega) hM fun σ5 off5 hM => ?_)
 k_lt w
 refine R_methG (M_mch hK ok' hM (List.mem_of_getElem? (i := 13) rfl) (by decide +kernel)) ?_
 k_lt w
 have leF : Le σ' σ5 := le1.trans (((off3.trans off4).trans off5) σ1 le2 hul hpd)
 k_lt w
 refine Yb (ct_rest hK ok' (by omega) hM (by simp [tg2]) (by
  intro i hi
  have : i = 0 := by simp [tg2] at hi; omega
  subst this; rfl) fun y σ6 le6 hy => ?_)
 have hM := hM.mono le6
 have ho := hM.o
 k_lt w
 refine fun t ht => ?_
 k_lt w
 exact h t pd y _ ((leF.trans le6).trans (Yc ht)) Ya (Yg ht hM.p)
theorem ct_take1 (hK : KOk K) (ok : c.Ok prog w K n) (hn : 5 ≤ n) {fl al : Addr} {vs : List V} {a b : V} {Q : V → Sig → Prop} (hf : σ fl = some (.list fs1)) (ha : σ al = some (.list vs)) (hr : Args σ vs [(.none, a), (.str "value", b)])
 (h : ∀ y σ', Le σ σ' → σ' y = some (.list [a, b]) → Q (.ref y) σ') : CODE prog w c ρ σ (.ref (gv K "take")) [.ref al, .ref fl] [] Q := by
 obtain ⟨t0, t1, rfl, h0, h1⟩ : ∃ t0 t1, vs = [.ref t0, .ref t1] ∧ σ t0 = some (.tup [.none, a]) ∧ σ t1 = some (.tup [.str "value", b]) := by
  cases hr with | cons h0 hr => cases hr with | cons h1 hr => cases hr with | nil => exact jv2 _ _ rfl ⟨h0, h1⟩
 refine en_take_1 hK ok (by omega) fun c' ok' sc' gl' => ?_
 k_lt w
 refine N_list ok' (k := .list _) ⟨rfl, hf⟩ (by simp [fs1]) fun m hm => ?_
 have le1 := Yc (o := .list fs1) hm
 have hm1 : (σ.set m (.list fs1)) m = some (.list fs1) := Ya
 generalize σ.set m (.list fs1) = σ1 at le1 hm1 ⊢
 k_lt w
 refine Yb (ct_match_names1 hK ok' (by omega) hm1 (le1 _ _ ha) (hr.mono le1) fun t pd rl σ2 le2 ht hpd => ?_)
 refine G_tuple ok' (.tup t) ⟨rfl, ht⟩ (fun _ _ e => by cases e) rfl ?_
 k_lt w
 refine fun vl hvl => ?_
 have leA := le1.trans le2
 have le3 := leA.trans (Yc (o := .list []) hvl)
 have hv0 : σ vl = none := by
  cases q : σ vl with
  | none => rfl
  | some z => rw [leA _ _ q] at hvl; cases hvl
 have hpd3 := (Yc (o := .list []) hvl) _ _ hpd
 have hv3 : (σ2.set vl (.list [])) vl = some (.list []) := Ya
 have npv : pd ≠ vl := by rintro rfl; rw [hpd] at hvl; cases hvl
 generalize σ2.set vl (.list []) = σ3 at le3 hpd3 hv3 ⊢
 k_lt w
 have hf3 : σ3 fl = some (.list [.str "x", .str "value"]) := le3 _ _ hf
 have ha3 := le3 _ _ ha
 have h03 := le3 _ _ h0
 refine S_forU ok' ?_ (hs := fun _ => rfl)
 k_lt w
 refine ⟨.list fl, _, ⟨rfl, hf3⟩, ?_⟩
 intro c2 S2 ok2
 have gl2 := S2.gl.trans gl'
 k_lt w
 have le4 := le3.setD (o := .list [a]) hv0
 have hpd4 : (σ3.set vl (.list [a])) pd = some (.dicS [("value", .int 1), ("x", .int 0)]) := by rw [Yd npv]; exact hpd3
 have hv4 : (σ3.set vl (.list [a])) vl = some (.list [a]) := Ya
 show Src (σ3.set vl (.list [a])) _ _ ∧ UNR _ _ _ _ _ _ _ _ _ _ _ _ (σ3.set vl (.list [a]))
 generalize σ3.set vl (.list [a]) = σ4 at le4 hpd4 hv4 ⊢
 have ha4 := le4 _ _ ha
 have h14 := le4 _ _ h1
 refine ⟨le4 _ _ hf, ?_⟩
 intro c3 S3 ok3
 have gl3 := S3.gl.trans gl'
 k_lt w
 have le5 := le4.setD (o := .list [a, b]) hv0
 refine ⟨le5 _ _ hf, UNR_nil ?_⟩
 k_lt w
 exact h vl _ le5 Ya
theorem ct_take2 (hK : KOk K) (ok : c.Ok prog w K n) (hn : 5 ≤ n) {fl al : Addr} {vs : List V} {a : V} {Q : V → Sig → Prop} (hf : σ fl = some (.list fs2)) (ha : σ al = some (.list vs)) (hr : Args σ vs [(.none, a)])
 (h : ∀ y σ', Le σ σ' → σ' y = some (.list [a, .none, .none]) → Q (.ref y) σ') : CODE prog w c ρ σ (.ref (gv K "take")) [.ref al, .ref fl] [] Q := by
 obtain ⟨t0, rfl, h0⟩ : ∃ t0, vs = [.ref t0] ∧ σ t0 = some (.tup [.none, a]) := by
  cases hr with | cons h0 hr => cases hr with | nil => exact jv1 _ rfl h0
 refine en_take_1 hK ok (by omega) fun c' ok' sc' gl' => ?_
 k_lt w
 refine N_list ok' (k := .list _) ⟨rfl, hf⟩ (by simp [fs2]) fun m hm => ?_
 have le1 := Yc (o := .list fs2) hm
 have hm1 : (σ.set m (.list fs2)) m = some (.list fs2) := Ya
 generalize σ.set m (.list fs2) = σ1 at le1 hm1 ⊢
 k_lt w
 refine Yb (ct_match_names2 hK ok' (by omega) hm1 (le1 _ _ ha) (hr.mono le1) fun t pd rl σ2 le2 ht hpd => ?_)
 refine G_tuple ok' (.tup t) ⟨rfl, ht⟩ (fun _ _ e => by cases e) rfl ?_
 k_lt w
 refine fun vl hvl => ?_
 have leA := le1.trans le2
 have le3 := leA.trans (Yc (o := .list []) hvl)
 have hv0 : σ vl = none := by
  cases q : σ vl with
  | none => rfl
  | some z => rw [leA _ _ q] at hvl; cases hvl
 have hpd3 := (Yc (o := .list []) hvl) _ _ hpd
 have hv3 : (σ2.set vl (.list [])) vl = some (.list []) := Ya
 have npv : pd ≠ vl := by rintro rfl; rw [hpd] at hvl; cases hvl
 generalize σ2.set vl (.list []) = σ3 at le3 hpd3 hv3 ⊢
 k_lt w
 have hf3 : σ3 fl = some (.list [.str "x", .str "do.NULL", .str "prefix"]) := le3 _ _ hf
 have ha3 := le3 _ _ ha
 have h03 := le3 _ _ h0
 refine S_forU ok' ?_ (hs := fun _ => rfl)
 k_lt w
 refine ⟨.list fl, _, ⟨rfl, hf3⟩, ?_⟩
 intro c2 S2 ok2
 have gl2 := S2.gl.trans gl'
 k_lt w
 have le4 := le3.setD (o := .list [a]) hv0
 have hpd4 : (σ3.set vl (.list [a])) pd = some (.dicS [("x", .int 0)]) := by rw [Yd npv]; exact hpd3
 have hv4 : (σ3.set vl (.list [a])) vl = some (.list [a]) := Ya
 show Src (σ3.set vl (.list [a])) _ _ ∧ UNR _ _ _ _ _ _ _ _ _ _ _ _ (σ3.set vl (.list [a]))
 generalize σ3.set vl (.list [a]) = σ4 at le4 hpd4 hv4 ⊢
 refine ⟨le4 _ _ hf, ?_⟩
 intro c3 S3 ok3
 have gl3 := S3.gl.trans gl'
 k_lt w
 have le5 := le4.setD (o := .list [a, .none]) hv0
 have hpd5 : (σ4.set vl (.list [a, .none])) pd = some (.dicS [("x", .int 0)]) := by rw [Yd npv]; exact hpd4
 have hv5 : (σ4.set vl (.list [a, .none])) vl = some (.list [a, .none]) := Ya
 show Src (σ4.set vl (.list [a, .none])) _ _ ∧ UNR _ _ _ _ _ _ _ _ _ _ _ _ (σ4.set vl (.list [a, .none]))
 generalize σ4.set vl (.list [a, .none]) = σ5 at le5 hpd5 hv5 ⊢
 refine ⟨le5 _ _ hf, ?_⟩
 intro c4 S4 ok4
 have gl4 := S4.gl.trans gl'
 k_lt w
 have le6 := le5.setD (o := .list [a, .none, .none]) hv0
 refine ⟨le6 _ _ hf, UNR_nil ?_⟩
 k_lt w
 exact h vl _ le6 Ya
end
section
variable {n : Nat} {c : Cx} {ρ : Loc} {σ : Sig}
theorem ct_needed (hK : KOk K) (ok : c.Ok prog w K n) (hn : 1 ≤ n) {a : Addr} {nm : V} {Q : V → Sig → Prop} (h : Q (.ref a) σ) : CODE prog w c ρ σ (.ref (gv K "needed")) [.ref a, nm] [] Q := by
 refine en_needed hK ok (by omega) fun c' ok' sc' gl' => ?_
 k_lt w
 exact h
noncomputable def NullO (K : Frag) (σ : Sig) (v : Addr) : Prop := Obj0 K σ v "Null" [("kind", .str "NULL"), ("attrs", .none)]
theorem ct_both_arguments (hK : KOk K) (ok : c.Ok prog w K n) (hn : 6 ≤ n) {x v al t0 t1 : Addr} {Q : V → Sig → Prop} (hv : NullO K σ v ∨ ∃ vl xs, Vec K σ v "character" vl xs .none)
 (ha : σ al = some (.list [.ref t0, .ref t1])) (h0 : σ t0 = some (.tup [.none, .ref x])) (h1 : σ t1 = some (.tup [.str "value", .ref v]))
 (h : ∀ t σ', Le σ σ' → σ' t = some (.tup [.ref x, .ref v]) → Q (.ref t) σ') : CODE prog w c ρ σ (.ref (gv K "both_arguments")) [.ref al] [] Q := by
 refine en_both_arguments hK ok (by omega) fun c' ok' sc' gl' => ?_
 k_lt w
 refine fun m hm => ?_
 have le1 := Yc (o := .list fs1) hm
 show RUN _ _ _ _ _ (σ.set m (.list fs1))
 have hm1 : (σ.set m (.list fs1)) m = some (.list fs1) := Ya
 generalize σ.set m (.list fs1) = σ1 at le1 hm1 ⊢
 k_lt w
 refine Yb (ct_take1 hK ok' (by omega) hm1 (le1 _ _ ha) (.cons (le1 _ _ h0) (.cons (le1 _ _ h1) .nil)) fun y σ2 le2 hy => ?_)
 have leA := le1.trans le2
 refine G_tuple ok' (.list y) ⟨rfl, hy⟩ (fun _ _ e => by cases e) rfl ?_
 k_lt w
 refine Yb (ct_needed hK ok' (by omega) ?_)
 k_lt w
 rcases hv with hv | ⟨vl, xs, hv⟩
 · have hv2 : Obj0 K σ2 v "Null" [("kind", .str "NULL"), ("attrs", .none)] := Obj0.mono hv leA
   k_lt w
   refine Yb (ct_needed hK ok' (by omega) ?_)
   k_lt w
   refine fun t ht => ?_
   k_lt w
   exact h t _ (leA.trans (Yc ht)) Ya
 · have hv2 := hv.mono leA
   k_lt w
   refine Yb (ct_is_atomic hK ok' (by omega) hv2 (.inr (.inr rfl)) ?_)
   k_lt w
   refine Yb (ct_needed hK ok' (by omega) ?_)
   k_lt w
   refine fun t ht => ?_
   k_lt w
   exact h t _ (leA.trans (Yc ht)) Ya
theorem lab_char {v : V} : lab "character" v = v := by unfold lab; rw [if_neg (by decide +kernel)]
theorem map_lab_char {xs : List V} : xs.map (lab "character") = xs := (List.map_congr_left fun v _ => lab_char).trans (List.map_id _)
theorem labOk_txs {ss : List Str} : ∀ v ∈ txs ss, LabOk "character" v := fun v hv => by obtain ⟨s, rfl⟩ := txs_str v hv; exact .inl ⟨rfl, s, rfl⟩
theorem span_ups {m : Nat} : spanZ 1 ((m : Int) + 1) = ups (List.range m) := by
 unfold spanZ ups
 rw [show ((m : Int) + 1 - 1).toNat = m by omega]
 refine List.map_congr_left fun i _ => ?_
 rw [Int.add_comm]
theorem rng_srcU {m : Nat} {r : Addr} (h : σ r = some (.rng 1 ((m : Int) + 1))) (hm : m ≤ 100000) : SrcOf σ (.ref r) (.rng 1 ((m : Int) + 1)) (ups (List.range m)) := ⟨span_ups.symm, ⟨r, rfl, h⟩, by omega, by omega, by omega, by omega⟩
theorem ct_plain_rows (hK : KOk K) (ok : c.Ok prog w K n) (hn : 4 ≤ n) {m : Nat} {Q : V → Sig → Prop} (hm : m ≤ 1000) (h : ∀ y ly σ', Le σ σ' → Vec K σ' y "integer" ly (ups (List.range m)) .none → Q (.ref y) σ') : CODE prog w c ρ σ (.ref (gv K "plain_rows")) [.int m] [] Q := by
 have hl : (ups (List.range m)).length ≤ 100000 := by rw [ups_len, List.length_range]; omega
 refine en_plain_rows hK ok (by omega) fun c' ok' sc' gl' => ?_
 k_lt w
 refine R_two ok' fun r hr => ?_
 k_lt w
 refine N_list ok' (rng_srcU Ya (by omega)) hl fun a ha => ?_
 k_lt w
 refine Yb (ct_integer hK ok' (by omega) (sk := .list a) ⟨rfl, Ya⟩ hl fun u d l5 hl5 fr => ?_)
 obtain ⟨le5, hu⟩ := Yh (k := "integer") (a := .none) hl5 fr
 k_lt w
 exact h u l5 _ (((Yc hr).trans (Yc ha)).trans le5) hu
theorem ct_rows_null (hK : KOk K) (ok : c.Ok prog w K n) (hn : 6 ≤ n) {x v : Addr} {f : FD} {Q : V → Sig → Prop} (hF : FrmE K σ x f) (hv : NullO K σ v)
 (h : ∀ y σ', Le σ σ' → FrmE K σ' y ⟨f.cols, f.ss, "integer", ups (List.range f.marks.length)⟩ → Q (.ref y) σ') : CODE prog w c ρ σ (.ref (gv K "frame_with_rows")) [.ref x, .ref v] [] Q := by
 have hhi := hF.high
 have hwi := hF.wide
 have hcl := hF.clen
 have hsz := hF.sl
 have hv : Obj0 K σ v "Null" [("kind", .str "NULL"), ("attrs", .none)] := hv
 obtain ⟨l, a, nx, nl, cx, cl, rx, rl, vs, hF⟩ := hF
 have hs := hF.self
 have hvs := hF.cs.len
 refine en_frame_with_rows hK ok (by omega) fun c' ok' sc' gl' => ?_
 k_lt w
 refine Yb (ct_frame_rows hK ok' (by omega) hF ?_)
 k_lt w
 refine Yb (ct_column_names hK ok' (by omega) hF txs_str fun m σ1 le1 hm0 hm => ?_)
 k_lt w
 refine Yb (ct_plain_rows hK ok' (by omega) hhi fun r lr σ2 le2 hr => ?_)
 have leA := le1.trans le2
 have hF2 := hF.mono leA
 k_lt w
 refine Yb (ct_new_frame hK ok' (by omega) (skc := .list l) (skn := .list m) ⟨rfl, hF2.self.list⟩ hF2.cs ⟨rfl, le2 _ _ hm⟩ hr (by omega) (by rw [ups_len, List.length_range]; exact hhi) (by rw [Ym]; omega) (by rw [ups_len, List.length_range]; exact hcl) fun x' l' a' nx' nl' cx' cl' σ3 le3 hF3 => ?_)
 k_lt w
 exact h _ σ3 (leA.trans le3) ⟨_, _, _, _, _, _, _, _, _, hF3⟩
theorem ct_rows_texts (hK : KOk K) (ok : c.Ok prog w K n) (hn : 6 ≤ n) {x v vl : Addr} {f : FD} {ts : List Str} {Q : V → Sig → Prop} (hF : FrmE K σ x f) (hv : Vec K σ v "character" vl (txs ts) .none) (hl : ts.length = f.marks.length) (hnd : ts.Nodup)
 (h : ∀ y σ', Le σ σ' → FrmE K σ' y ⟨f.cols, f.ss, "character", txs ts⟩ → Q (.ref y) σ') : CODE prog w c ρ σ (.ref (gv K "frame_with_rows")) [.ref x, .ref v] [] Q := by
 have hhi := hF.high
 have hwi := hF.wide
 have hcl := hF.clen
 have hsz := hF.sl
 obtain ⟨l, a, nx, nl, cx, cl, rx, rl, vs, hF⟩ := hF
 have hs := hF.self
 have hvs := hF.cs.len
 have htl : (txs ts).length ≤ 100000 := by rw [Ym]; omega
 refine en_frame_with_rows hK ok (by omega) fun c' ok' sc' gl' => ?_
 k_lt w
 refine Yb (ct_frame_rows hK ok' (by omega) hF ?_)
 k_lt w
 refine Yb (ct_label_texts hK ok' (by omega) hv labOk_txs (by rw [Ym]; omega) fun m hm => ?_)
 k_lt w
 try rw [map_lab_char]
 k_lt w
 refine Yb (ct_character hK ok' (by omega) (sk := .list m) ⟨rfl, Ya⟩ htl fun u d l5 hl5 fr => ?_)
 obtain ⟨le5, hu⟩ := Yh (k := "character") (a := .none) hl5 fr
 have le6 := (Yc hm).trans le5
 generalize Yj K ((σ.set m (.list (txs ts))).set l5 (.list (txs ts))) u d (V.str "character") (V.ref l5) V.none = σ6 at le6 hu ⊢
 have hul := hu.list
 have e1 : decide (((txs ts).length : Int) ≠ (f.marks.length : Nat)) = false := by rw [Ym, hl]; simp
 k_lt w
 refine R_ex <| X_dict0 ok' (.dicS []) (.inl rfl) fun sn hsn => ?_
 have le7 := le6.trans (Yc (o := .dicS []) hsn)
 have hu7 := hu.mono (Yc (o := .dicS []) hsn)
 have hs7 : (σ6.set sn (.dicS [])) sn = some (.dicS []) := Ya
 have hsn0 : σ sn = none := by
  cases q : σ sn with
  | none => rfl
  | some z => rw [le6 _ _ q] at hsn; cases hsn
 have le67 : Le σ6 (σ6.set sn (.dicS [])) := Yc hsn
 generalize σ6.set sn (.dicS []) = σ7 at le7 hu7 hs7 le67 ⊢
 k_lt S
 k_lt N
 k_lt C
 refine S_for ok' ?_ (hs := fun _ => rfl)
 k_lt w
 refine ⟨.list l5, txs ts, fun i ρ' σ' => ∃ o g, ρ' = ([("df", some (.ref x)), ("value", some (.ref v)), ("rows", some (.int f.marks.length)), ("labels", some (.ref u)), ("seen", some (.ref sn)), ("item", o)] : List (Str × Option V)) ∧ Le σ6 σ' ∧ σ' sn = some (.dicS g) ∧ g.length ≤ i ∧ ∀ k, (dlook g k).isSome = true → k ∈ ts.take i, ⟨rfl, hu7.list⟩, jv2 _ _ rfl ⟨le67, hs7, by simp, by simp [dlook]⟩, ⟨?_, ?_, ?_⟩⟩
 · refine fun i ρ' σ' => ex2 fun o g => an3 fun _ le _ => ?_; exact le _ _ hul
 · intro c2 i y ρ' σ' S2 ok2 hx; apply iv2; refine fun o g => an4 fun le e hg hk => ?_
   obtain ⟨p, hp1, rfl⟩ := txs_get hx
   have hpi : i < ts.length := (List.getElem?_eq_some_iff.mp hp1).1
   have hno : (dlook g p).isSome = false := by
    rw [Bool.eq_false_iff]
    intro hs
    obtain ⟨j, hj, ej⟩ := List.mem_iff_getElem.mp (hk _ hs)
    rw [List.length_take] at hj
    rw [List.getElem_take] at ej
    have := (List.getElem?_inj (by omega) hnd).mp ((List.getElem?_eq_getElem (by omega : j < ts.length)).trans ((congrArg some ej).trans hp1.symm))
    omega
   refine G_name ok2 (by k_lt sv) ?_
   k_lt w
   refine C_inS ok2 e ?_
   k_lt w
   try rw [hno]
   k_lt w
   refine I_dicS e (by omega) ?_
   k_lt w
   refine jv2 _ _ rfl ⟨le.setD hsn, Ya, Nat.le_trans (dput_len _ _ _) (by omega), fun k hs => ?_⟩
   rw [dlook_put] at hs
   rw [List.take_add_one, hp1]
   by_cases q : k = p
   · subst q; simp
   · rw [if_neg q] at hs
     exact List.mem_append_left _ (hk k hs)
 · intro ρ' σ'; apply iv2; refine fun o g => an4 fun le e hg hk => ?_
   have leA := le6.trans le
   have hF8 := hF.mono leA
   have h81 := hF8.self
   k_lt w
   refine Yb (ct_column_names hK ok' (by omega) hF8 txs_str fun m9 σ9 le9 hm0 hm9 => ?_)
   have hu9 := (hu.mono le).mono le9
   k_lt w
   refine mk_Vector1 hK ok' (by omega) fun y d9 fr9 => ?_
   have l10 := newVec_le (k := .str "character") (l := .ref l5) (a := .none) fr9
   have hy10 := newVec_vec (k := "character") (a := .none) fr9 hu9.list
   generalize Yj K σ9 y d9 (V.str "character") (V.ref l5) V.none = σ10 at l10 hy10 ⊢
   have hF10 := hF8.mono (le9.trans l10)
   k_lt w
   refine Yb (ct_new_frame hK ok' (by omega) (skc := .list l) (skn := .list m9) ⟨rfl, hF10.self.list⟩ hF10.cs ⟨rfl, l10 _ _ hm9⟩ hy10 (by omega) (by rw [Ym]; omega) (by rw [Ym]; omega) (by rw [Ym, hl]; exact hcl) fun x' l' a' nx' nl' cx' cl' σ11 le11 hF11 => ?_)
   k_lt w
   exact h _ σ11 (((leA.trans le9).trans l10).trans le11) ⟨_, _, _, _, _, _, _, _, _, hF11⟩
theorem ct_columns_texts (hK : KOk K) (ok : c.Ok prog w K n) (hn : 6 ≤ n) {x v vl : Addr} {f : FD} {ts : List Str} {Q : V → Sig → Prop} (hF : FrmE K σ x f) (hv : Vec K σ v "character" vl (txs ts) .none) (hl : ts.length = f.cols.length)
 (h : ∀ y σ', Le σ σ' → FrmE K σ' y ⟨f.cols, ts, f.kd, f.marks⟩ → Q (.ref y) σ') : CODE prog w c ρ σ (.ref (gv K "frame_with_columns")) [.ref x, .ref v] [] Q := by
 have hhi := hF.high
 have hwi := hF.wide
 have hcl := hF.clen
 obtain ⟨l, a, nx, nl, cx, cl, rx, rl, vs, hF⟩ := hF
 have hs := hF.self
 have hvs := hF.cs.len
 have htl : (txs ts).length ≤ 100000 := by rw [Ym]; omega
 have htv : (txs ts).length = vs.length := by rw [Ym]; omega
 refine en_frame_with_columns hK ok (by omega) fun c' ok' sc' gl' => ?_
 k_lt w
 refine Yb (ct_label_texts hK ok' (by omega) hv labOk_txs (by rw [Ym]; omega) fun m hm => ?_)
 k_lt w
 try rw [map_lab_char]
 have le1 := Yc (o := .list (txs ts)) hm
 have hm1 : (σ.set m (.list (txs ts))) m = some (.list (txs ts)) := Ya
 generalize σ.set m (.list (txs ts)) = σ1 at le1 hm1 ⊢
 have hs1 := hs.mono le1
 have hs1l := hs1.list
 k_lt w
 refine fun b hb => ?_
 have le2 := le1.trans (Yc (o := .list [.none]) hb)
 have hm2 := (Yc (o := .list [.none]) hb) _ _ hm1
 have hb2 : (σ1.set b (.list [.none])) b = some (.list [.none]) := Ya
 generalize σ1.set b (.list [.none]) = σ2 at le2 hm2 hb2 ⊢
 have hs2 := hs.mono le2
 have hs2l := hs2.list
 k_lt w
 try rw [htv, Int.sub_self]
 k_lt w
 refine B_rep ok' hb2 (by omega) (by omega) fun e he => ?_
 have hm3 := (Yc (o := .list (List.replicate (0 : Int).toNat .none)) he) _ _ hm2
 have le3 := le2.trans (Yc (o := .list (List.replicate (0 : Int).toNat .none)) he)
 have he3 : (σ2.set e (.list (List.replicate (0 : Int).toNat .none))) e = some (.list []) := Ya
 generalize σ2.set e (.list (List.replicate (0 : Int).toNat .none)) = σ3 at hm3 le3 he3 ⊢
 k_lt w
 refine B_cat ok' hm3 he3 (by simp; omega) fun g hg => ?_
 k_lt w
 try rw [List.append_nil]
 have le4 := le3.trans (Yc (o := .list (txs ts)) hg)
 have hg4 : (σ3.set g (.list (txs ts))) g = some (.list (txs ts)) := Ya
 generalize σ3.set g (.list (txs ts)) = σ4 at le4 hg4 ⊢
 have hF4 := hF.mono le4
 have h41 := hF4.self; have h42 := hF4.at'; have h43 := hF4.rn
 k_lt w
 refine Yb (ct_new_frame hK ok' (by omega) (skc := .list l) (skn := .list g) ⟨rfl, hF4.self.list⟩ hF4.cs ⟨rfl, hg4⟩ h43 (by omega) hF4.high (by rw [Ym]; omega) hcl fun x' l' a' nx' nl' cx' cl' σ5 le5 hF5 => ?_)
 k_lt w
 exact h _ σ5 (le4.trans le5) ⟨_, _, _, _, _, _, _, _, _, hF5⟩
end
section
variable {n : Nat} {c : Cx} {ρ : Loc} {σ : Sig}
theorem ct_axis_rows (hK : KOk K) (ok : c.Ok prog w K n) (hn : 6 ≤ n) {x : Addr} {f : FD} {Q : V → Sig → Prop} (hF : FrmE K σ x f) (fl : ∀ v ∈ f.marks, LabOk f.kd v) (f0 : f.marks ≠ [])
 (h : ∀ y ly σ', Le σ σ' → Vec K σ' y "character" ly (rowTexts f) .none → Q (.ref y) σ') : CODE prog w c ρ σ (.ref (gv K "axis_texts")) [.ref x, .int 0] [] Q := by
 have hhi := hF.high
 obtain ⟨l, a, nx, nl, cx, cl, rx, rl, vs, hF⟩ := hF
 refine en_axis_texts hK ok (by omega) fun c' ok' sc' gl' => ?_
 k_lt w
 refine Yb (ct_is_frame hK ok' (by omega) hF ?_)
 k_lt w
 refine Yb (ct_row_names hK ok' (by omega) hF fl f0 fun m hm => ?_)
 k_lt w
 refine Yb (ct_character hK ok' (by omega) (sk := .list m) ⟨rfl, Ya⟩ (by rw [List.length_map]; omega) fun u d l5 hl5 fr => ?_)
 obtain ⟨le5, hu⟩ := Yh (k := "character") (a := .none) hl5 fr
 k_lt w
 exact h u l5 _ ((Yc hm).trans le5) hu
theorem ct_axis_cols (hK : KOk K) (ok : c.Ok prog w K n) (hn : 6 ≤ n) {x : Addr} {f : FD} {Q : V → Sig → Prop} (hF : FrmE K σ x f)
 (h : ∀ y ly σ', Le σ σ' → Vec K σ' y "character" ly (txs f.ss) .none → Q (.ref y) σ') : CODE prog w c ρ σ (.ref (gv K "axis_texts")) [.ref x, .int 1] [] Q := by
 have hwi := hF.wide
 have hsl := hF.sl
 obtain ⟨l, a, nx, nl, cx, cl, rx, rl, vs, hF⟩ := hF
 refine en_axis_texts hK ok (by omega) fun c' ok' sc' gl' => ?_
 k_lt w
 refine Yb (ct_is_frame hK ok' (by omega) hF ?_)
 k_lt w
 refine Yb (ct_column_names hK ok' (by omega) hF txs_str fun m σ1 le1 hm0 hm => ?_)
 k_lt w
 refine Yb (ct_character hK ok' (by omega) (sk := .list m) ⟨rfl, hm⟩ (by rw [Ym]; omega) fun u d l5 hl5 fr => ?_)
 obtain ⟨le5, hu⟩ := Yh (k := "character") (a := .none) hl5 fr
 k_lt w
 exact h u l5 _ (le1.trans le5) hu
theorem ct_b_rownames (hK : KOk K) (ok : c.Ok prog w K n) (hn : 7 ≤ n) {x al t0 : Addr} {f : FD} {iv ev : V} {Q : V → Sig → Prop} (hF : FrmE K σ x f) (fl : ∀ v ∈ f.marks, LabOk f.kd v) (f0 : f.marks ≠ [])
 (ha : σ al = some (.list [.ref t0])) (h0 : σ t0 = some (.tup [.none, .ref x]))
 (h : ∀ y ly σ', Le σ σ' → Vec K σ' y "character" ly (rowTexts f) .none → Q (.ref y) σ') : CODE prog w c ρ σ (.ref (gv K "b_rownames")) [iv, .ref al, ev] [] Q := by
 refine en_b_rownames hK ok (by omega) fun c' ok' sc' gl' => ?_
 k_lt w
 refine fun m hm => ?_
 have le1 := Yc (o := .list fs2) hm
 show RUN _ _ _ _ _ (σ.set m (.list fs2))
 have hm1 : (σ.set m (.list fs2)) m = some (.list fs2) := Ya
 generalize σ.set m (.list fs2) = σ1 at le1 hm1 ⊢
 k_lt w
 refine Yb (ct_take2 hK ok' (by omega) hm1 (le1 _ _ ha) (.cons (le1 _ _ h0) .nil) fun y σ2 le2 hy => ?_)
 k_lt w
 refine Yb (ct_needed hK ok' (by omega) ?_)
 k_lt w
 refine Yb (ct_axis_rows hK ok' (by omega) (hF.mono (le1.trans le2)) fl f0 fun u lu σ3 le3 hu => ?_)
 k_lt w
 exact h u lu σ3 ((le1.trans le2).trans le3) hu
theorem ct_b_colnames (hK : KOk K) (ok : c.Ok prog w K n) (hn : 7 ≤ n) {x al t0 : Addr} {f : FD} {iv ev : V} {Q : V → Sig → Prop} (hF : FrmE K σ x f)
 (ha : σ al = some (.list [.ref t0])) (h0 : σ t0 = some (.tup [.none, .ref x]))
 (h : ∀ y ly σ', Le σ σ' → Vec K σ' y "character" ly (txs f.ss) .none → Q (.ref y) σ') : CODE prog w c ρ σ (.ref (gv K "b_colnames")) [iv, .ref al, ev] [] Q := by
 refine en_b_colnames hK ok (by omega) fun c' ok' sc' gl' => ?_
 k_lt w
 refine fun m hm => ?_
 have le1 := Yc (o := .list fs2) hm
 show RUN _ _ _ _ _ (σ.set m (.list fs2))
 have hm1 : (σ.set m (.list fs2)) m = some (.list fs2) := Ya
 generalize σ.set m (.list fs2) = σ1 at le1 hm1 ⊢
 k_lt w
 refine Yb (ct_take2 hK ok' (by omega) hm1 (le1 _ _ ha) (.cons (le1 _ _ h0) .nil) fun y σ2 le2 hy => ?_)
 k_lt w
 refine Yb (ct_needed hK ok' (by omega) ?_)
 k_lt w
 refine Yb (ct_axis_cols hK ok' (by omega) (hF.mono (le1.trans le2)) fun u lu σ3 le3 hu => ?_)
 k_lt w
 exact h u lu σ3 ((le1.trans le2).trans le3) hu
theorem ct_bset_rows_texts (hK : KOk K) (ok : c.Ok prog w K n) (hn : 7 ≤ n) {x v vl al t0 t1 : Addr} {f : FD} {ts : List Str} {iv ev : V} {Q : V → Sig → Prop} (hF : FrmE K σ x f) (hv : Vec K σ v "character" vl (txs ts) .none) (hl : ts.length = f.marks.length) (hnd : ts.Nodup)
 (ha : σ al = some (.list [.ref t0, .ref t1])) (h0 : σ t0 = some (.tup [.none, .ref x])) (h1 : σ t1 = some (.tup [.str "value", .ref v]))
 (h : ∀ y σ', Le σ σ' → FrmE K σ' y ⟨f.cols, f.ss, "character", txs ts⟩ → Q (.ref y) σ') : CODE prog w c ρ σ (.ref (gv K "b_set_rownames")) [iv, .ref al, ev] [] Q := by
 refine en_b_set_rownames hK ok (by omega) fun c' ok' sc' gl' => ?_
 k_lt w
 refine Yb (ct_both_arguments hK ok' (by omega) (.inr ⟨vl, _, hv⟩) ha h0 h1 fun t σ1 le1 ht => ?_)
 refine G_tuple ok' (.tup t) ⟨rfl, ht⟩ (fun _ _ e => by cases e) rfl ?_
 k_lt w
 have hF1 := hF.mono le1
 obtain ⟨l, a, nx, nl, cx, cl, rx, rl, vs, hF0⟩ := hF1
 k_lt w
 refine Yb (ct_is_frame hK ok' (by omega) hF0 ?_)
 k_lt w
 refine Yb (ct_rows_texts hK ok' (by omega) (hF.mono le1) (hv.mono le1) hl hnd fun y σ2 le2 hy => ?_)
 k_lt w
 exact h y σ2 (le1.trans le2) hy
theorem ct_bset_rows_null (hK : KOk K) (ok : c.Ok prog w K n) (hn : 7 ≤ n) {x v al t0 t1 : Addr} {f : FD} {iv ev : V} {Q : V → Sig → Prop} (hF : FrmE K σ x f) (hv : NullO K σ v)
 (ha : σ al = some (.list [.ref t0, .ref t1])) (h0 : σ t0 = some (.tup [.none, .ref x])) (h1 : σ t1 = some (.tup [.str "value", .ref v]))
 (h : ∀ y σ', Le σ σ' → FrmE K σ' y ⟨f.cols, f.ss, "integer", ups (List.range f.marks.length)⟩ → Q (.ref y) σ') : CODE prog w c ρ σ (.ref (gv K "b_set_rownames")) [iv, .ref al, ev] [] Q := by
 refine en_b_set_rownames hK ok (by omega) fun c' ok' sc' gl' => ?_
 k_lt w
 refine Yb (ct_both_arguments hK ok' (by omega) (.inl hv) ha h0 h1 fun t σ1 le1 ht => ?_)
 refine G_tuple ok' (.tup t) ⟨rfl, ht⟩ (fun _ _ e => by cases e) rfl ?_
 k_lt w
 have hF1 := hF.mono le1
 obtain ⟨l, a, nx, nl, cx, cl, rx, rl, vs, hF0⟩ := hF1
 k_lt w
 refine Yb (ct_is_frame hK ok' (by omega) hF0 ?_)
 k_lt w
 refine Yb (ct_rows_null hK ok' (by omega) (hF.mono le1) (Obj0.mono hv le1) fun y σ2 le2 hy => ?_)
 k_lt w
 exact h y σ2 (le1.trans le2) hy
theorem ct_bset_cols (hK : KOk K) (ok : c.Ok prog w K n) (hn : 7 ≤ n) {x v vl al t0 t1 : Addr} {f : FD} {ts : List Str} {iv ev : V} {Q : V → Sig → Prop} (hF : FrmE K σ x f) (hv : Vec K σ v "character" vl (txs ts) .none) (hl : ts.length = f.cols.length)
 (ha : σ al = some (.list [.ref t0, .ref t1])) (h0 : σ t0 = some (.tup [.none, .ref x])) (h1 : σ t1 = some (.tup [.str "value", .ref v]))
 (h : ∀ y σ', Le σ σ' → FrmE K σ' y ⟨f.cols, ts, f.kd, f.marks⟩ → Q (.ref y) σ') : CODE prog w c ρ σ (.ref (gv K "b_set_colnames")) [iv, .ref al, ev] [] Q := by
 refine en_b_set_colnames hK ok (by omega) fun c' ok' sc' gl' => ?_
 k_lt w
 refine Yb (ct_both_arguments hK ok' (by omega) (.inr ⟨vl, _, hv⟩) ha h0 h1 fun t σ1 le1 ht => ?_)
 refine G_tuple ok' (.tup t) ⟨rfl, ht⟩ (fun _ _ e => by cases e) rfl ?_
 k_lt w
 have hF1 := hF.mono le1
 obtain ⟨l, a, nx, nl, cx, cl, rx, rl, vs, hF0⟩ := hF1
 k_lt w
 refine Yb (ct_is_frame hK ok' (by omega) hF0 ?_)
 k_lt w
 refine Yb (ct_columns_texts hK ok' (by omega) (hF.mono le1) (hv.mono le1) hl fun y σ2 le2 hy => ?_)
 k_lt w
 exact h y σ2 (le1.trans le2) hy
end
section
variable {n : Nat} {c : Cx} {ρ : Loc} {σ : Sig}
theorem fresh_step {x C d a : Addr} {fs : List (Str × V)} {o : AObj} (hx : σ x = none) (hd : σ d = none) (hne : x ≠ d) (ha : fresh σ x C d fs a = none) : (σ.set a o) x = none ∧ (σ.set a o) d = none ∧ Le σ (σ.set a o) := by
 have n1 : a ≠ x := by rintro rfl; rw [fresh_x] at ha; cases ha
 have n2 : a ≠ d := by rintro rfl; rw [fresh_d hne] at ha; cases ha
 exact ⟨by rw [Yd (Ne.symm n1)]; exact hx, by rw [Yd (Ne.symm n2)]; exact hd, Yc (fresh_none hx hd hne ha)⟩
theorem mk_Environment (hK : KOk K) (ok : c.Ok prog w K n) (hn : 2 ≤ n) {a b : V} {Q : V → Sig → Prop} (h : ∀ x, Q (.ref x) σ) : CALL prog w c ρ σ (.ref (gv K "Environment")) [a, b] [] Q := by
 refine MAKE ok (by omega) (hK.c "Environment" (by decide +kernel)) (hK.mf (46, 0, "Environment", "__init__", "Environment.__init__", [.none]) (List.mem_of_getElem? (i := 2) rfl)).1 (hK.mf (46, 0, "Environment", "__init__", "Environment.__init__", [.none]) (List.mem_of_getElem? (i := 2) rfl)).2.1 fun x d c' hx hd hne ok' => ?_
 refine CODE.drop (en_Environment_init_1 hK ok' (by omega) fun c'' ok'' sc' gl' => ?_)
 show STS _ _ _ _ (fresh σ x (gv K "Environment") d []) _ _
 k_lt w
 refine R_ex <| X_dict0 ok'' (.dicS []) (.inl rfl) fun p hp => ?_
 rw [fresh_alloc hp]
 refine (an3 fun hx1 hd1 le1 => ?_) (fresh_step (o := .dicS []) hx hd hne hp)
 generalize σ.set p (.dicS []) = σ1 at hx1 hd1 le1 ⊢
 k_lt w
 refine R_ex <| X_dict0 ok'' (.dicS []) (.inl rfl) fun q hq => ?_
 rw [fresh_alloc hq]
 refine (an3 fun hx2 hd2 le2 => ?_) (fresh_step (o := .dicS []) hx1 hd1 hne hq)
 generalize σ1.set q (.dicS []) = σ2 at hx2 hd2 le2 ⊢
 k_lt w
 exact ⟨σ, (le1.trans le2).trans (fresh_le hx2 hd2 hne), rfl, h x⟩
theorem ct_new_env (hK : KOk K) (ok : c.Ok prog w K n) (hn : 3 ≤ n) {x d : Addr} {k k' : Int} {fs fs' : List (Str × V)} {pv : V} {Q : V → Sig → Prop} (hx : σ x = some (.inst (gv K "Evaluator") d)) (hd : σ d = some (.flds fs)) (hk : k + 1 = k') (hg : GetF fs "next_number" (.int k)) (hs : SetF fs "next_number" (.int k') fs') (hl : fs.length < 900)
 (h : ∀ e, Q (.ref e) (σ.set d (.flds fs'))) : CODE prog w c ρ σ (.ref (mt K "Evaluator" "new_env")) [.ref x, pv] [] Q := by
 refine en_Evaluator_new_env hK ok (by omega) fun c' ok' sc' gl' => ?_
 k_lt w
 refine A_get ok' hx hd (hK.atn (by decide +kernel)) hg rfl ?_
 k_lt w
 refine mk_Environment hK ok' (by omega) fun e => ?_
 k_lt w
 refine A_get ok' hx hd (hK.atn (by decide +kernel)) hg rfl ?_
 k_lt w
 try rw [hk]
 refine A_set ok' hx hd (hK.stn (by decide +kernel)) hs hl ?_
 k_lt w
 exact h e
noncomputable def evFs0 : List (Str × V) := [("limit", .int 100), ("most_frames", .int 40), ("steps", .int 0), ("next_number", .int 0)]
theorem M_new_env (hK : KOk K) (ok : c.Ok prog w K n) {x d : Addr} {fs : List (Str × V)} (h1 : σ x = some (.inst (gv K "Evaluator") d)) (h2 : σ d = some (.flds fs)) (hno : NoF fs "new_env") : METH prog w K c ρ σ (.ref x) "new_env" (.ref (mt K "Evaluator" "new_env")) [.ref x] := by
 refine (an4 fun m1 m2 m3 m4 => ?_) (hK.mf (208, 1, "Evaluator", "new_env", "Evaluator.new_env", []) (List.mem_of_getElem? (i := 1) rfl))
 exact M_inst ok h1 h2 hno m4 m1 m2 m3
theorem mk_Evaluator (hK : KOk K) (ok : c.Ok prog w K n) (hn : 5 ≤ n) {Q : V → Sig → Prop} (h : ∀ x σ', Le σ σ' → Itp K σ' x → Q (.ref x) σ') : CALL prog w c ρ σ (.ref (gv K "Evaluator")) [.int 100] [] Q := by
 refine MAKE ok (by omega) (hK.c "Evaluator" (by decide +kernel)) (hK.mf (208, 0, "Evaluator", "__init__", "Evaluator.__init__", [.int 20000, .int 40]) (List.mem_of_getElem? (i := 0) rfl)).1 (hK.mf (208, 0, "Evaluator", "__init__", "Evaluator.__init__", [.int 20000, .int 40]) (List.mem_of_getElem? (i := 0) rfl)).2.1 fun x d c' hx hd hne ok' => ?_
 refine en_Evaluator_init_1 hK ok' (by omega) fun c'' ok'' sc' gl' => ?_
 show STS _ _ _ _ (fresh σ x (gv K "Evaluator") d []) _ _
 k_lt w
 refine R_methG (M_new_env hK ok'' fresh_x (fresh_d hne) (by repeat (first | exact .nil | refine .cons (by dsimp only; decide +kernel) ?_))) ?_
 k_lt w
 refine Yb (ct_new_env hK ok'' (by omega) (k := 0) (k' := 1) fresh_x (fresh_d hne) rfl (by k_lt gf) (by k_lt sf) (by simp) fun b => ?_)
 k_lt w
 try rw [fresh_put hne]
 first | show RUN _ _ _ _ _ (fresh σ x (gv K "Evaluator") d _) | show SETA _ _ _ _ (fresh σ x (gv K "Evaluator") d _) _ _ _ _
 k_lt w
 refine R_methG (M_new_env hK ok'' fresh_x (fresh_d hne) (by repeat (first | exact .nil | refine .cons (by dsimp only; decide +kernel) ?_))) ?_
 k_lt w
 refine Yb (ct_new_env hK ok'' (by omega) (k := 1) (k' := 2) fresh_x (fresh_d hne) rfl (by k_lt gf) (by k_lt sf) (by simp) fun g => ?_)
 k_lt w
 try rw [fresh_put hne]
 first | show RUN _ _ _ _ _ (fresh σ x (gv K "Evaluator") d _) | show SETA _ _ _ _ (fresh σ x (gv K "Evaluator") d _) _ _ _ _
 k_lt w
 refine fun f hf => ?_
 rw [fresh_alloc hf]
 refine (an3 fun hx1 hd1 le1 => ?_) (fresh_step (o := .list []) hx hd hne hf)
 generalize σ.set f (.list []) = σ1 at hx1 hd1 le1 ⊢
 k_lt w
 refine fun o ho => ?_
 rw [fresh_alloc ho]
 refine (an3 fun hx2 hd2 le2 => ?_) (fresh_step (o := .list []) hx1 hd1 hne ho)
 generalize σ1.set o (.list []) = σ2 at hx2 hd2 le2 ⊢
 k_lt w
 refine fun wl hw => ?_
 rw [fresh_alloc hw]
 refine (an3 fun hx3 hd3 le3 => ?_) (fresh_step (o := .list []) hx2 hd2 hne hw)
 have hw3 : (σ2.set wl (.list [])) wl = some (.list []) := Ya
 generalize σ2.set wl (.list []) = σ3 at hx3 hd3 le3 hw3 ⊢
 k_lt w
 refine fun hl hhl => ?_
 rw [fresh_alloc hhl]
 refine (an3 fun hx4 hd4 le4 => ?_) (fresh_step (o := .list []) hx3 hd3 hne hhl)
 generalize σ3.set hl (.list []) = σ4 at hx4 hd4 le4 ⊢
 k_lt w
 refine fun r hr => ?_
 rw [fresh_alloc hr]
 refine (an3 fun hx5 hd5 le5 => ?_) (fresh_step (o := .list []) hx4 hd4 hne hr)
 generalize σ4.set r (.list []) = σ5 at hx5 hd5 le5 ⊢
 k_lt w
 have lf := fresh_le (C := gv K "Evaluator") (fs := evFs b g f o wl hl r) hx5 hd5 hne
 refine ⟨rfl, h x _ ((((((le1.trans le2).trans le3).trans le4).trans le5)).trans lf) ⟨b, g, f, o, wl, hl, r, ⟨d, fresh_x, fresh_d hne⟩, lf _ _ ((le4.trans le5) _ _ hw3)⟩⟩
theorem mk_Null (hK : KOk K) (ok : c.Ok prog w K n) (hn : 2 ≤ n) {Q : V → Sig → Prop} (h : ∀ x σ', Le σ σ' → NullO K σ' x → Q (.ref x) σ') : CALL prog w c ρ σ (.ref (gv K "Null")) [] [] Q := by
 refine MAKE ok (by omega) (hK.c "Null" (by decide +kernel)) (hK.mf (43, 0, "Null", "__init__", "Null.__init__", []) (List.mem_of_getElem? (i := 4) rfl)).1 (hK.mf (43, 0, "Null", "__init__", "Null.__init__", []) (List.mem_of_getElem? (i := 4) rfl)).2.1 fun x d c' hx hd hne ok' => ?_
 refine en_Null_init hK ok' (by omega) fun c'' ok'' sc' gl' => ?_
 show STS _ _ _ _ (fresh σ x (gv K "Null") d []) _ _
 k_lt w
 exact ⟨rfl, h x _ (fresh_le hx hd hne) ⟨d, fresh_x, fresh_d hne⟩⟩
theorem mk_Missing (hK : KOk K) (ok : c.Ok prog w K n) (hn : 2 ≤ n) {Q : V → Sig → Prop} (h : ∀ x σ', Le σ σ' → Obj0 K σ' x "Missing" [("kind", .str "missing"), ("attrs", .none)] → Q (.ref x) σ') : CALL prog w c ρ σ (.ref (gv K "Missing")) [] [] Q := by
 refine MAKE ok (by omega) (hK.c "Missing" (by decide +kernel)) (hK.mf (44, 0, "Missing", "__init__", "Missing.__init__", []) (List.mem_of_getElem? (i := 5) rfl)).1 (hK.mf (44, 0, "Missing", "__init__", "Missing.__init__", []) (List.mem_of_getElem? (i := 5) rfl)).2.1 fun x d c' hx hd hne ok' => ?_
 refine en_Missing_init hK ok' (by omega) fun c'' ok'' sc' gl' => ?_
 show STS _ _ _ _ (fresh σ x (gv K "Missing") d []) _ _
 k_lt w
 exact ⟨rfl, h x _ (fresh_le hx hd hne) ⟨d, fresh_x, fresh_d hne⟩⟩
theorem ct_null (hK : KOk K) (ok : c.Ok prog w K n) (hn : 3 ≤ n) {Q : V → Sig → Prop} (h : ∀ x σ', Le σ σ' → NullO K σ' x → Q (.ref x) σ') : CODE prog w c ρ σ (.ref (gv K "null")) [] [] Q := by
 refine en_null hK ok (by omega) fun c' ok' sc' gl' => ?_
 k_lt w
 refine mk_Null hK ok' (by omega) fun x σ1 le1 hx => ?_
 k_lt w
 exact h x σ1 le1 hx
theorem ct_missing (hK : KOk K) (ok : c.Ok prog w K n) (hn : 3 ≤ n) {Q : V → Sig → Prop} (h : ∀ x σ', Le σ σ' → Obj0 K σ' x "Missing" [("kind", .str "missing"), ("attrs", .none)] → Q (.ref x) σ') : CODE prog w c ρ σ (.ref (gv K "missing")) [] [] Q := by
 refine en_missing hK ok (by omega) fun c' ok' sc' gl' => ?_
 k_lt w
 refine mk_Missing hK ok' (by omega) fun x σ1 le1 hx => ?_
 k_lt w
 exact h x σ1 le1 hx
end
section
variable {n : Nat} {c : Cx} {ρ : Loc} {σ : Sig}
inductive Mill (σ : Sig) (ml cl : Addr) (b : Nat) : Prop
 | mk (a : Nat) (m : Int) (zs : List Int) (h1 : σ ml = some (.list [.int a, .int m, .ref cl])) (h2 : a ≤ b) (h3 : σ cl = some (.list (intsL zs))) (h4 : zs ≠ []) (h5 : zs.length ≤ 64)
noncomputable def MO (σ σ' : Sig) (ml : Addr) : Prop := Le (σ.del ml) (σ'.del ml)
theorem MO.refl {ml : Addr} : MO σ σ ml := Le.refl
theorem MO.trans {ml : Addr} {σ1 σ2 : Sig} (h : MO σ σ1 ml) (k : MO σ1 σ2 ml) : MO σ σ2 ml := Le.trans h k
theorem MO.le {ml : Addr} {σ1 σ2 : Sig} (h : MO σ σ1 ml) (le : Le σ1 σ2) : MO σ σ2 ml := Le.trans h (Le.del le)
theorem MO.set {ml : Addr} {σ1 : Sig} {o : AObj} (h : MO σ σ1 ml) : MO σ (σ1.set ml o) ml := by unfold MO; rw [Sig.set_del]; exact h
theorem Mill.mono {ml cl : Addr} {b : Nat} {σ σ' : Sig} (h : Mill σ ml cl b) (le : Le σ σ') : Mill σ' ml cl b := by obtain ⟨a, m, zs, h1, h2, h3, h4, h5⟩ := h; exact ⟨a, m, zs, le _ _ h1, h2, le _ _ h3, h4, h5⟩
theorem Mill.up {ml cl : Addr} {b b' : Nat} (h : Mill σ ml cl b) (hb : b ≤ b') : Mill σ ml cl b' := by obtain ⟨a, m, zs, h1, h2, h3, h4, h5⟩ := h; exact ⟨a, m, zs, h1, by omega, h3, h4, h5⟩
theorem ints_ne {a m : Int} {cl : Addr} {zs : List Int} : [V.int a, V.int m, V.ref cl] ≠ intsL zs := by
 intro e
 have := congrArg (fun l => l[2]?) e
 simp only [intsL, List.getElem?_map] at this
 cases q : zs[2]? <;> rw [q] at this <;> simp at this
theorem Mill.cl {ml : Addr} {a m : Int} {cl : Addr} {zs : List Int} (h1 : σ ml = some (.list [.int a, .int m, .ref cl])) (h2 : σ cl = some (.list (intsL zs))) : cl ≠ ml := by
 rintro rfl; rw [h1] at h2; exact ints_ne (Lj h2)
theorem CALL.offM (ok : c.Ok prog w K n) {ml : Addr} {o : AObj} {f : V} {xs : List V} {kw : List (Str × V)} {Q Q' : V → Sig → Prop} (hm : σ ml = some o) (h : ∀ c', Sim c c' → c'.Ok prog w K n → CALL prog w c' ρ (σ.del ml) f xs kw Q') (k : ∀ v τ, Q' v τ → τ ml = none → Q v (τ.set ml o)) : CALL prog w c ρ σ f xs kw Q := by
 have e := Sig.del_set hm
 have z := CALL.frame (τ := σ.del ml) (o := o) (Q := Q) ok Yq h k
 rw [e] at z
 exact z
theorem del_none {ml : Addr} (h : σ ml = none) : σ.del ml = σ := by
 funext b
 by_cases q : b = ml
 · subst q; rw [Yq, h]
 · rw [Ye q]
theorem refit {ml : Addr} {o : AObj} {τ : Sig} (h : τ ml = none) : (τ.set ml o).del ml = τ := by rw [Sig.set_del, del_none h]
theorem Mill.refit {ml cl : Addr} {b : Nat} {o : AObj} {τ : Sig} (h : Mill σ ml cl b) (hm : σ ml = some o) (le : Le (σ.del ml) τ) (hτ : τ ml = none) : Mill (τ.set ml o) ml cl b ∧ MO σ (τ.set ml o) ml := by
 obtain ⟨a, m, zs, h1, h2, h3, h4, h5⟩ := h
 rw [h1] at hm; cases hm
 have hne := Mill.cl h1 h3
 refine ⟨⟨a, m, zs, Ya, h2, ?_, h4, h5⟩, ?_⟩
 · rw [Yd hne]
   exact le _ _ (by rw [Ye hne]; exact h3)
 · unfold MO; rw [Mine.refit hτ]; exact le
theorem I_mill {ml : Addr} {x y z v : V} {Q : Sig → Prop} (hl : σ ml = some (.list [x, y, z])) (h : ∀ σ2, σ2 = σ.set ml (.list [x, v, z]) → Q σ2) : SETI prog w c ρ σ (.ref ml) (.int 1) v Q :=
 I_set hl (by omega) (by omega) (by simp) (h _ rfl)
theorem pow18 : (10 : Int) ^ (18 : Int).toNat = 1000000000000000000 := by decide +kernel
theorem pow36 : (10 : Int) ^ (36 : Int).toNat = 1000000000000000000000000000000000000 := by decide +kernel
theorem ct_grain (hK : KOk K) (ok : c.Ok prog w K n) (hn : 1 ≤ n) {ml cl : Addr} {b : Nat} {k : Int} {Q : V → Sig → Prop} (hM : Mill σ ml cl b) (hb : b ≤ 100000) (hk : k = 2 ∨ k = 3 ∨ k = 4 ∨ k = 5)
 (h : ∀ (r : Nat) σ', (r : Int) < k → MO σ σ' ml → Mill σ' ml cl (b + 1) → Q (.int r) σ') : CODE prog w c ρ σ (.ref (gv K "_law_grain")) [.ref ml, .int k] [] Q := by
 obtain ⟨a, m, zs, hm, hab, hcl, hz0, hz1⟩ := hM
 have hne := Mill.cl hm hcl
 have hpy : ∀ {i : Int}, Builtin.divisionGoesByPylong i k = false := by
  intro i
  unfold Builtin.divisionGoesByPylong
  rcases hk with rfl | rfl | rfl | rfl <;> simp <;> intro hh <;> exact absurd hh (by decide)
 have hk0 : 0 < k := by omega
 have fin : ∀ (σ1 : Sig) (a' : Nat) (m' : Int) , MO σ σ1 ml → a' ≤ b + 1 → σ1 cl = some (.list (intsL zs)) → Q (.int (m'.fmod k)) (σ1.set ml (.list [.int a', .int (m'.fdiv k), .ref cl])) := by
  intro σ1 a' m' h1 h2 h3
  have hr0 : 0 ≤ m'.fmod k := Int.fmod_nonneg_of_pos _ hk0
  have hr1 : m'.fmod k < k := Int.fmod_lt_of_pos _ hk0
  obtain ⟨r, hr⟩ := Int.eq_ofNat_of_zero_le hr0
  rw [hr]
  refine h r _ (by omega) h1.set ⟨a', _, zs, Ya, h2, ?_, hz0, hz1⟩
  rw [Yd hne]; exact h3
 have hzl : (intsL zs).length = zs.length := by simp [intsL]
 have hzp : 0 < zs.length := List.length_pos_iff.mpr hz0
 have hz2 : (intsL zs).length ≤ 100000 := by omega
 refine en_law_grain hK ok (by omega) fun c' ok' sc' gl' => ?_
 k_lt w
 refine R_D (fun hlow => ?_) fun hlow => ?_
 · k_lt w
   refine I_set hm (by omega) (by omega) (by simp) ?_
   first | show RUN _ _ _ _ _ (σ.set ml (.list [.int (a + 1), .int m, .ref cl])) | show Then _ _ _ _ (σ.set ml (.list [.int (a + 1), .int m, .ref cl]))
   have hm1 : (σ.set ml (.list [.int (a + 1), .int m, .ref cl])) ml = some (.list [.int (a + 1), .int m, .ref cl]) := Ya
   have hc1 : (σ.set ml (.list [.int (a + 1), .int m, .ref cl])) cl = some (.list (intsL zs)) := by rw [Yd hne]; exact hcl
   have mo1 : MO σ (σ.set ml (.list [.int (a + 1), .int m, .ref cl])) ml := MO.refl.set
   generalize σ.set ml (.list [.int (a + 1), .int m, .ref cl]) = σ1 at hm1 hc1 mo1 ⊢
   k_lt w
   refine B_mod (by omega) ?_
   k_lt w
   try rw [hzl, fmodN]
   have hlt := Nat.mod_lt a hzp
   have hgz : (intsL zs)[((a % zs.length : Nat) : Int).toNat]? = some (.int zs[a % zs.length]) := by
    rw [show ((a % zs.length : Nat) : Int).toNat = a % zs.length from Int.toNat_natCast _]
    simp [intsL, hlt]
   k_lt w
   refine SB_list hc1 (by omega) (i63 (Nat.le_trans (Nat.le_of_lt hlt) (Nat.le_trans hz1 (by decide)))) hgz ?_
   generalize zs[a % zs.length] = cell
   have rest : ∀ (σ2 σ3 : Sig) (M : Int), σ2 = σ1.set ml (.list [.int (a + 1), .int M, .ref cl]) → σ3 = σ2.set ml (.list [.int (a + 1), .int (M.fdiv k), .ref cl]) → Q (.int (M.fmod k)) σ3 := by
    intro σ2 σ3 M e2 e3
    subst e3
    have := fin σ2 (a + 1) M (by rw [e2]; exact mo1.set) (by omega) (by rw [e2, Yd hne]; exact hc1)
    simpa using this
   have hsm : (a : Int).natAbs ≤ 1000000 := by omega
   by_cases hAB : ((a : Int) < (zs.length : Nat) ∧ cell ≥ 1000000000000000000)
   · obtain ⟨hA, hB⟩ := hAB
     k_lt w
     refine B_pow (by omega) (by decide) ?_
     k_lt w
     try rw [pow18]
     k_lt w
     refine B_pow (by omega) (by decide) ?_
     k_lt w
     try rw [pow36]
     k_lt w
     refine B_mod (by omega) ?_
     k_lt w
     refine I_mill hm1 fun σ2 e2 => ?_
     have hm2 := (congrFun e2 ml).trans Ya
     k_lt w
     refine B_mod (by omega) ?_
     k_lt w
     refine B_div (by omega) hpy ?_
     k_lt w
     refine I_mill hm2 fun σ3 e3 => ?_
     k_lt w
     exact rest σ2 σ3 _ e2 e3
   · have hh0 : 0 ≤ cell.fmod 100000000000097 := Int.fmod_nonneg_of_pos _ (by omega)
     have hh1 : cell.fmod 100000000000097 < 100000000000097 := Int.fmod_lt_of_pos _ (by omega)
     by_cases hA : (a : Int) < (zs.length : Nat)
     all_goals
      k_lt w
      try
       k_lt w
       refine B_pow (by omega) (by decide) ?_
       k_lt w
       try rw [pow18]
       have hB : ¬ cell ≥ 1000000000000000000 := fun h => hAB ⟨hA, h⟩
       k_lt w
      refine B_mod (by omega) ?_
      k_lt w
      refine B_mul (mulN (by omega)) ?_
      k_lt w
      refine B_mul (IntMulOk.of_left (intBits_small (by omega))) ?_
      k_lt w
      refine B_mul (IntMulOk.of_right (intBits_small (by omega))) ?_
      k_lt w
      refine B_mul (IntMulOk.of_right (intBits_small (by omega))) ?_
      k_lt w
      refine B_mul (IntMulOk.of_right (intBits_small (by omega))) ?_
      k_lt w
      refine B_mod (by omega) ?_
      k_lt w
      refine I_mill hm1 fun σ2 e2 => ?_
      have hm2 := (congrFun e2 ml).trans Ya
      k_lt w
      refine B_mod (by omega) ?_
      k_lt w
      refine B_div (by omega) hpy ?_
      k_lt w
      refine I_mill hm2 fun σ3 e3 => ?_
      k_lt w
      exact rest σ2 σ3 _ e2 e3
 · k_lt w
   refine B_mod (by omega) ?_
   k_lt w
   refine B_div (by omega) hpy ?_
   k_lt w
   refine I_mill hm fun σ3 e3 => ?_
   k_lt w
   try rw [e3]
   exact fin σ a m MO.refl (by omega) hcl
end
section
variable {n : Nat} {c : Cx} {ρ : Loc} {σ : Sig}
theorem newVec_del {a x d l : Addr} {o : AObj} {k l' at' : V} (ha : σ a ≠ none) (hl : σ l = none) (f : Fresh2 (σ.set l o) x d) :
 (Yj K (σ.set l o) x d k l' at').del a = Yj K ((σ.del a).set l o) x d k l' at' ∧ (σ.del a) l = none ∧ Fresh2 ((σ.del a).set l o) x d := by
 have n1 : a ≠ l := by rintro rfl; exact ha hl
 have n2 : a ≠ x := by
  rintro rfl
  have := f.fx; rw [Yd n1] at this; exact ha this
 have n3 : a ≠ d := by
  rintro rfl
  have := f.fd; rw [Yd n1] at this; exact ha this
 have key : ((σ.del a).set l o) = (σ.set l o).del a := by
  funext b
  by_cases q : b = a
  · subst q; rw [Yq, Yd n1, Yq]
  · rw [Ye q]
    by_cases z : b = l
    · subst z; rw [Ya, Ya]
    · rw [Yd z, Yd z, Ye q]
 refine ⟨?_, by rw [Ye (Ne.symm n1)]; exact hl, ⟨?_, ?_, f.ne⟩⟩
 · rw [key]
   unfold Yj
   funext b
   by_cases q : b = a
   · subst q; rw [Yq, Yd n2, Yd n3, Yq]
   · rw [Ye q]
     by_cases z : b = x
     · subst z; rw [Ya, Ya]
     · rw [Yd z, Yd z]
       by_cases y : b = d
       · subst y; rw [Ya, Ya]
       · rw [Yd y, Yd y, Ye q]
 · rw [key, Ye (Ne.symm n2)]; exact f.fx
 · rw [key, Ye (Ne.symm n3)]; exact f.fd
theorem vec_off {ml x d l : Addr} {k : Str} {xs : List V} (hm : σ ml ≠ none) (hl : σ l = none) (f : Fresh2 (σ.set l (.list xs)) x d) :
 Le σ (Yj K (σ.set l (.list xs)) x d (.str k) (.ref l) .none) ∧ Vec K (Yj K (σ.set l (.list xs)) x d (.str k) (.ref l) .none) x k l xs .none ∧ Vec K ((Yj K (σ.set l (.list xs)) x d (.str k) (.ref l) .none).del ml) x k l xs .none := by
 obtain ⟨a, b⟩ := Yh (k := k) (a := .none) hl f
 refine (an3 fun e1 e2 e3 => ?_) (newVec_del (k := .str k) (l' := .ref l) (at' := .none) hm hl f)
 refine ⟨a, b, ?_⟩
 rw [e1]
 exact (Yh (k := k) (a := .none) e2 e3).2
structure ColOk (high : Nat) (q : Str × List V) : Prop where
 kn : q.1 = "integer" ∨ q.1 = "character"
 len : q.2.length = high
 it : ∀ v ∈ q.2, LabOk q.1 v ∧ scal v = true
theorem ne_cols {high : Nat} {q : Str × List V} {ys : List V} (hq : ColOk high q) (h1 : 1 ≤ high) (hy : ∀ v ∈ ys, scal v = false) : q.2 ≠ ys := by
 intro e
 have hl := hq.len
 obtain ⟨v, hv⟩ := List.exists_mem_of_length_pos (l := q.2) (by omega)
 have h2 := (hq.it v hv).2
 rw [hy v (e ▸ hv)] at h2; cases h2
theorem Cols.off2 {kl : Addr} {vs ys : List V} {cs : List (Str × List V)} {o : AObj} {high : Nat} (h : Cols K σ vs cs) (hm : σ kl = some (.list ys)) (hc : ∀ q ∈ cs, ColOk high q) (h1 : 1 ≤ high) (hy : ∀ v ∈ ys, scal v = false) : Cols K (σ.set kl o) vs cs :=
 h.offList hm fun q hq => ne_cols (hc q hq) h1 hy
theorem set_del_comm {kl ml : Addr} {o : AObj} (h : kl ≠ ml) : (σ.set kl o).del ml = (σ.del ml).set kl o := by
 funext b
 by_cases q : b = ml
 · subst q; rw [Yq, Yd (Ne.symm h), Yq]
 · rw [Ye q]
   by_cases z : b = kl
   · subst z; rw [Ya, Ya]
   · rw [Yd z, Yd z, Ye q]
theorem pq_ok (a p : Nat) (h1 : a < 4) (h2 : p < 3) : ∃ ch, (Str.ofString "pqrs").cps[a]? = some ch ∧ PyData.strOk (Txt.mul ⟨#[ch]⟩ ((p : Int) + 1)) = true := by
 have e1 : a = 0 ∨ a = 1 ∨ a = 2 ∨ a = 3 := by omega
 have e2 : p = 0 ∨ p = 1 ∨ p = 2 := by omega
 rcases e1 with rfl | rfl | rfl | rfl
 · refine ⟨112, by decide +kernel, ?_⟩
   rcases e2 with rfl | rfl | rfl <;> decide +kernel
 · refine ⟨113, by decide +kernel, ?_⟩
   rcases e2 with rfl | rfl | rfl <;> decide +kernel
 · refine ⟨114, by decide +kernel, ?_⟩
   rcases e2 with rfl | rfl | rfl <;> decide +kernel
 · refine ⟨115, by decide +kernel, ?_⟩
   rcases e2 with rfl | rfl | rfl <;> decide +kernel
noncomputable def rowT (a : Nat) : Str := Str.ofString "row" ++ Str.ofString (toString ((a : Nat) : Int))
theorem rowT_ok (a : Nat) (h : a < 4) : (Str.ofString "row").length + (Str.ofString (toString ((a : Nat) : Int))).length ≤ 100000 ∧ PyData.strOk (rowT a) = true := by
 have e1 : a = 0 ∨ a = 1 ∨ a = 2 ∨ a = 3 := by omega
 rcases e1 with rfl | rfl | rfl | rfl <;> exact ⟨by decide +kernel, by decide +kernel⟩
structure LF (f : FD) : Prop where
 ok : f.Ok
 h1 : 1 ≤ f.marks.length
 h4 : f.marks.length ≤ 4
 w1 : 1 ≤ f.cols.length
 w3 : f.cols.length ≤ 3
 sl : f.ss.length = f.cols.length
 cl : ∀ p ∈ f.cols, p.2.length = f.marks.length
 rt : ∃ rs : List Str, rowTexts f = txs rs ∧ rs.length = f.marks.length ∧ rs.Nodup ∧ (∀ s ∈ rs, s ≠ "") ∧ ∀ s ∈ rs, PyData.strOk s = true
noncomputable def numT (a : Nat) : Str := Str.ofString (toString (((a : Nat) : Int) + 1))
theorem row_facts (high : Nat) (h1 : 1 ≤ high) (h4 : high ≤ 4) :
 (((List.range high).map rowT).Nodup ∧ (∀ s ∈ (List.range high).map rowT, s ≠ "") ∧ ∀ s ∈ (List.range high).map rowT, PyData.strOk s = true) ∧
 (((List.range high).map numT).Nodup ∧ (∀ s ∈ (List.range high).map numT, s ≠ "") ∧ ∀ s ∈ (List.range high).map numT, PyData.strOk s = true) := by
 have e : high = 1 ∨ high = 2 ∨ high = 3 ∨ high = 4 := by omega
 rcases e with rfl | rfl | rfl | rfl <;> exact ⟨⟨by decide +kernel, by decide +kernel, by decide +kernel⟩, ⟨by decide +kernel, by decide +kernel, by decide +kernel⟩⟩
theorem abc_facts (wide : Nat) (h1 : 1 ≤ wide) (h3 : wide ≤ 3) : ((([("a" : Str), "b", "c"]).take wide)).Nodup ∧ (∀ s ∈ (([("a" : Str), "b", "c"]).take wide), s ≠ "") ∧ (∀ s ∈ (([("a" : Str), "b", "c"]).take wide), PyData.strOk s = true) ∧ (([("a" : Str), "b", "c"]).take wide).length = wide := by
 have e : wide = 1 ∨ wide = 2 ∨ wide = 3 := by omega
 rcases e with rfl | rfl | rfl <;> exact ⟨by decide +kernel, by decide +kernel, by decide +kernel, rfl⟩
theorem LF.make {cs : List (Str × List V)} {high : Nat} {mk : Str} {marks : List V} (hc : ∀ q ∈ cs, ColOk high q) (h1 : 1 ≤ high) (h4 : high ≤ 4) (w1 : 1 ≤ cs.length) (w3 : cs.length ≤ 3)
 (hm : (mk = "integer" ∧ marks = ups (List.range high)) ∨ (mk = "character" ∧ marks = txs ((List.range high).map rowT))) : LF ⟨cs, ([("a" : Str), "b", "c"]).take cs.length, mk, marks⟩ ∧ marks.length = high := by
 refine (an4 fun a1 a2 a3 a4 => ?_) (abc_facts cs.length w1 w3)
 obtain ⟨⟨r1, r2, r3⟩, ⟨n1, n2, n3⟩⟩ := row_facts high h1 h4
 have hml : marks.length = high := by rcases hm with ⟨_, rfl⟩ | ⟨_, rfl⟩ <;> simp [ups, txs]
 refine ⟨⟨⟨?_, ?_, a1, fun p hp => (hc p hp).kn, fun p hp v hv => ((hc p hp).it v hv).1, fun p hp v hv => ((hc p hp).it v hv).2, ?_, ?_, a2⟩, by show 1 ≤ marks.length; omega, by show marks.length ≤ 4; omega, w1, w3, a4, fun p hp => ((hc p hp).len).trans hml.symm, ?_⟩, hml⟩
 · rcases hm with ⟨rfl, rfl⟩ | ⟨rfl, rfl⟩
   · intro v hv
     obtain ⟨p, hp, rfl⟩ := List.mem_map.mp hv
     have := List.mem_range.mp hp
     exact .inr ⟨rfl, _, rfl, by omega⟩
   · exact labOk_txs
 · intro e
   have : marks.length = 0 := by rw [show marks = [] from e]; rfl
   omega
 · rcases hm with ⟨rfl, rfl⟩ | ⟨rfl, rfl⟩
   · intro v hv
     obtain ⟨p, hp, rfl⟩ := List.mem_map.mp hv
     rfl
   · intro v hv
     obtain ⟨s, hs, rfl⟩ := List.mem_map.mp hv
     exact r3 s hs
 · intro v hv
   obtain ⟨s, hs, rfl⟩ := List.mem_map.mp hv
   exact a3 s hs
 · rcases hm with ⟨rfl, rfl⟩ | ⟨rfl, rfl⟩
   · refine ⟨(List.range high).map numT, ?_, by simp [ups], n1, n2, n3⟩
     simp [rowTexts, ups, txs, lab, numT, List.map_map, Function.comp_def]
   · refine ⟨(List.range high).map rowT, ?_, by simp [txs], r1, r2, r3⟩
     unfold rowTexts; rw [map_lab_char]
end
section
variable {n : Nat} {c : Cx} {ρ : Loc} {σ : Sig}
theorem MO.get {ml a : Addr} {o : AObj} {σ1 : Sig} (h : MO σ σ1 ml) (e : σ a = some o) (hne : a ≠ ml) : σ1 a = some o := Le.ofDel _ _ (h _ _ (by rw [Ye hne]; exact e))
theorem Mill.nn {ml cl : Addr} {b : Nat} (h : Mill σ ml cl b) : σ ml ≠ none := by obtain ⟨a, m, zs, h1, _⟩ := h; rw [h1]; simp
theorem Mill.setL {ml cl kl : Addr} {b : Nat} {ys : List V} {o : AObj} (h : Mill σ ml cl b) (hk : kl ≠ ml) (hy : σ kl = some (.list ys)) (hr : ∀ v ∈ ys, scal v = false) : Mill (σ.set kl o) ml cl b := by
 obtain ⟨a, m, zs, h1, h2, h3, h4, h5⟩ := h
 refine ⟨a, m, zs, by rw [Yd (Ne.symm hk)]; exact h1, h2, ?_, h4, h5⟩
 rw [Yd]; exact h3
 rintro rfl
 rw [h3] at hy
 have hy := Lj hy
 refine (ex2 fun z r => ?_) (List.exists_cons_of_ne_nil h4); rintro rfl
 have := hr (.int z) (by rw [← hy]; simp [intsL])
 cases this
theorem ct_law_frame (hK : KOk K) (ok : c.Ok prog w K n) (hn : 6 ≤ n) {ml cl : Addr} {b : Nat} {Q : V → Sig → Prop} (hM : Mill σ ml cl b) (hb : b ≤ 1000)
 (h : ∀ t x f σ', MO σ σ' ml → Mill σ' ml cl (b + 18) → σ' t = some (.tup [.ref x, .int f.marks.length, .int f.cols.length]) → FrmE K (σ'.del ml) x f → LF f → Q (.ref t) σ') : CODE prog w c ρ σ (.ref (gv K "_law_frame")) [.ref ml] [] Q := by
 refine en_law_frame hK ok (by omega) fun c' ok' sc' gl' => ?_
 k_lt w
 refine Yb (ct_grain hK ok' (by omega) hM (by omega) (by omega) fun r0 σ0 hr0 mo0 hM0 => ?_)
 k_lt w
 try rw [show (1 : Int) + (r0 : Nat) = ((r0 + 1 : Nat) : Int) by omega]
 generalize hhigh : r0 + 1 = high
 have hh1 : 1 ≤ high := by omega
 have hh4 : high ≤ 4 := by omega
 k_lt w
 refine fun kl hkl => ?_
 have hkm : kl ≠ ml := by rintro rfl; exact hM0.nn hkl
 have hkσ : (σ.del ml) kl = none := by
  rw [Ye hkm]
  cases q : σ kl with
  | none => rfl
  | some z => rw [mo0.get q hkm] at hkl; cases hkl
 have mo1 := mo0.le (Yc (o := .list []) hkl)
 have hM1 := hM0.mono (Yc (o := .list []) hkl)
 have hk1 : (σ0.set kl (.list [])) kl = some (.list []) := Ya
 generalize σ0.set kl (.list []) = σ1 at mo1 hM1 hk1 ⊢
 k_lt w
 refine S_for ok' ?_ (hs := fun _ => rfl)
 k_lt w
 refine Yb (ct_grain hK ok' (by omega) hM1 (by omega) (by omega) fun r1 σ2 hr1 mo2 hM2 => ?_)
 have hk2 := mo2.get hk1 hkm
 have mo2 := mo1.trans mo2
 k_lt w
 try rw [show (1 : Int) + (r1 : Nat) = ((r1 + 1 : Nat) : Int) by omega]
 generalize hwide : r1 + 1 = wide
 have hw1 : 1 ≤ wide := by omega
 have hw3 : wide ≤ 3 := by omega
 k_lt w
 refine R_one ok' fun rg hrg => ?_
 have hk3 := (Yc (o := .rng 0 wide) hrg) _ _ hk2
 have mo3 := mo2.le (Yc (o := .rng 0 wide) hrg)
 have hM3 := hM2.mono (Yc (o := .rng 0 wide) hrg)
 have hrg3 : (σ2.set rg (.rng 0 wide)) rg = some (.rng 0 wide) := Ya
 generalize σ2.set rg (.rng 0 wide) = σ3 at hk3 mo3 hM3 hrg3 ⊢
 refine ⟨.rng 0 wide, spanZ 0 wide, fun i ρ' σ' => ∃ o ys cs, ρ' = ([("mill", some (.ref ml)), ("high", some (.int high)), ("columns", some (.ref kl)), ("lap", o), ("marks", none)] : List (Str × Option V)) ∧ MO σ σ' ml ∧ Mill σ' ml cl (b + 2 + 5 * i) ∧ σ' kl = some (.list ys) ∧ Cols K (σ'.del ml) ys cs ∧ (∀ q ∈ cs, ColOk high q) ∧ cs.length = i,
  Yr hrg3 (by omega), jv3 _ _ _ rfl ⟨mo3, hM3, hk3, .nil, by simp, rfl⟩, ⟨?_, ?_, ?_⟩⟩
 · rintro i ρ' σ' _; rfl
 · intro c2 i u ρ' σ' S2 ok2 hx; apply iv3; refine fun o ys cs => an6 fun mo hMi hki hci hco hcl => ?_
   obtain ⟨hi, rfl⟩ := Yn hx
   have gl2 := S2.gl.trans gl'
   have sc2 : c2.env.scope = _ := (congrArg Env.scope S2.env).trans sc'
   have hyl : ys.length = i := hci.len.trans hcl
   have hln : ys.length ≤ 100000 := by omega
   -- the end of a turn: a fresh vector of the column's items is laid behind
   have fin : ∀ (σ5 : Sig) (k : Str) (xs : List V) (x d l : Addr) (b' : Nat), b' ≤ b + 2 + 5 * (i + 1) → MO σ' σ5 ml → Mill σ5 ml cl b' → σ5 l = none → Fresh2 (σ5.set l (.list xs)) x d → ColOk high (k, xs) →
    (Yj K (σ5.set l (.list xs)) x d (.str k) (.ref l) .none) kl = some (.list ys) ∧ MO σ ((Yj K (σ5.set l (.list xs)) x d (.str k) (.ref l) .none).set kl (.list (ys ++ [.ref x]))) ml ∧ Mill ((Yj K (σ5.set l (.list xs)) x d (.str k) (.ref l) .none).set kl (.list (ys ++ [.ref x]))) ml cl (b + 2 + 5 * (i + 1)) ∧
    Cols K (((Yj K (σ5.set l (.list xs)) x d (.str k) (.ref l) .none).set kl (.list (ys ++ [.ref x]))).del ml) (ys ++ [.ref x]) (cs ++ [(k, xs)]) := by
    intro σ5 k xs x d l b' hb' mo5 hM5 hl fr hq
    refine (an3 fun le6 hv6 hv6d => ?_) (vec_off (k := k) hM5.nn hl fr)
    have hk5 := mo5.get hki hkm
    have hk6 := le6 _ _ hk5
    have mo6 := mo5.le le6
    have hM6 := (hM5.mono le6).up hb'
    generalize Yj K (σ5.set l (.list xs)) x d (.str k) (.ref l) .none = σ6 at le6 hv6 hv6d hk6 mo6 hM6 ⊢
    have hci6 := hci.mono mo6
    refine ⟨hk6, ?_, hM6.setL hkm hk6 hci.refs, ?_⟩
    · show Le _ _
      rw [set_del_comm hkm]
      exact ((mo.trans mo6) : Le _ _).setD hkσ
    · rw [set_del_comm hkm]
      have hk6d : (σ6.del ml) kl = some (.list ys) := by rw [Ye hkm]; exact hk6
      exact (hci6.off2 hk6d hco hh1 hci.refs).snoc (hv6d.offList hk6d (ne_cols hq hh1 hci.refs))
   refine G_name ok2 (by k_lt sv) ?_
   k_lt w
   refine Yb (ct_grain hK ok2 (by omega) hMi (by omega) (by omega) fun r2 σ4 hr2 mo4 hM4 => ?_)
   have hk4 := mo4.get hki hkm
   k_lt w
   rcases (by omega : r2 = 0 ∨ r2 = 1) with rfl | rfl
   · k_lt w
     refine R_ex <| X_comp ok2 [("lap", .int i), ("mill", .ref ml)] [("_law_grain", .ref (gv K "_law_grain"))] (compAt (by k_lt co) (by k_lt cp) (by k_lt gs)) ?_ (hs := fun _ => rfl)
     k_lt w
     refine R_one ok2 fun rh hrh => ?_
     have mo4b := mo4.le (Yc (o := .rng 0 high) hrh)
     have hM4b := hM4.mono (Yc (o := .rng 0 high) hrh)
     have hrh4 : (σ4.set rh (.rng 0 high)) rh = some (.rng 0 high) := Ya
     generalize σ4.set rh (.rng 0 high) = σ4b at mo4b hM4b hrh4 ⊢
     refine ⟨.rng 0 high, spanZ 0 high, fun j zs τ => MO σ' τ ml ∧ Mill τ ml cl (b + 2 + 5 * i + 1 + j) ∧ zs.length = j ∧ ∀ v ∈ zs, LabOk "integer" v ∧ scal v = true, Yr hrh4 (by omega), Yk (by rw [Yf]; omega), ⟨mo4b, hM4b, rfl, by simp⟩, ⟨?_, ?_⟩, ?_⟩
     · rintro j zs τ _; rfl
     · refine fun c3 j u zs τ ok3 gl3 k1 k2 hx => an4 fun moj hMj hzl hzs => ?_
       obtain ⟨hj, rfl⟩ := Yn hx
       refine Yt ?_
       k_lt w
       refine B_mul (mulN (by omega)) ?_
       k_lt w
       refine Yb (ct_grain hK ok3 (by omega) hMj (by omega) (by omega) fun r3 σ5 hr3 mo5 hM5 => ?_)
       k_lt w
       refine ⟨moj.trans mo5, hM5, by simp [hzl], fun v hv => ?_⟩
       rcases List.mem_append.mp hv with hv | hv
       · exact hzs v hv
       · rcases List.mem_singleton.mp hv with rfl
         exact ⟨.inr ⟨rfl, _, rfl, by omega⟩, rfl⟩
     refine fun D zs τ => an4 fun moj hMj hzl hzs hD => ?_
     rw [Yf] at hMj hzl
     have moD := moj.le (Yc (o := .list zs) hD)
     have hMD := hMj.mono (Yc (o := .list zs) hD)
     have hDD : (τ.set D (.list zs)) D = some (.list zs) := Ya
     generalize τ.set D (.list zs) = σ5 at moD hMD hDD ⊢
     k_lt w
     refine Yb (ct_integer hK ok2 (by omega) (sk := .list D) ⟨rfl, hDD⟩ (by omega) fun x d l hl fr => ?_)
     refine (an4 fun q0 q1 q2 q3 => ?_) (fin σ5 "integer" zs x d l _ (by omega) moD hMD hl fr ⟨.inl rfl, hzl, hzs⟩)
     generalize Yj K (σ5.set l (.list zs)) x d (.str "integer") (.ref l) .none = σ6 at q0 q1 q2 q3 ⊢
     k_lt w
     refine jv3 _ _ _ rfl ⟨q1, q2, Ya, q3, ?_, by simp [hcl]⟩
     intro q hq
     rcases List.mem_append.mp hq with hq | hq
     · exact hco q hq
     · rcases List.mem_singleton.mp hq with rfl; exact ⟨.inl rfl, hzl, hzs⟩
   · k_lt w
     refine R_ex <| X_comp ok2 [("lap", .int i)] [] (compAt (by k_lt co) (by k_lt cp) (by k_lt gs)) ?_ (hs := fun _ => rfl)
     k_lt w
     refine R_one ok2 fun rh hrh => ?_
     have mo4b := mo4.le (Yc (o := .rng 0 high) hrh)
     have hM4b := hM4.mono (Yc (o := .rng 0 high) hrh)
     have hrh4 : (σ4.set rh (.rng 0 high)) rh = some (.rng 0 high) := Ya
     generalize σ4.set rh (.rng 0 high) = σ4b at mo4b hM4b hrh4 ⊢
     refine ⟨.rng 0 high, spanZ 0 high, fun j zs τ => τ = σ4b ∧ zs.length = j ∧ ∀ v ∈ zs, LabOk "character" v ∧ scal v = true, Yr hrh4 (by omega), Yk (by rw [Yf]; omega), ⟨rfl, rfl, by simp⟩, ⟨?_, ?_⟩, ?_⟩
     · rintro j zs τ _; rfl
     · refine fun c3 j u zs τ ok3 gl3 k1 k2 hx => an3 ?_; rintro rfl; intro hzl hzs
       obtain ⟨hj, rfl⟩ := Yn hx
       obtain ⟨ch, hch, hst⟩ := pq_ok j i (by omega) (by omega)
       refine Yt ?_
       k_lt w
       refine SB_str (ch := ch) (by omega) (by omega) (by simpa using hch) ?_
       k_lt w
       refine B_reps (by omega) (by omega) ?_
       k_lt w
       refine ⟨rfl, by simp [hzl], fun v hv => ?_⟩
       rcases List.mem_append.mp hv with hv | hv
       · exact hzs v hv
       · rcases List.mem_singleton.mp hv with rfl
         exact ⟨.inl ⟨rfl, _, rfl⟩, hst⟩
     refine fun D zs τ => an3 ?_; rintro rfl; intro hzl hzs hD
     rw [Yf] at hzl
     have moD := mo4b.le (Yc (o := .list zs) hD)
     have hMD := hM4b.mono (Yc (o := .list zs) hD)
     have hDD : (τ.set D (.list zs)) D = some (.list zs) := Ya
     generalize τ.set D (.list zs) = σ5 at moD hMD hDD ⊢
     k_lt w
     refine Yb (ct_character hK ok2 (by omega) (sk := .list D) ⟨rfl, hDD⟩ (by omega) fun x d l hl fr => ?_)
     refine (an4 fun q0 q1 q2 q3 => ?_) (fin σ5 "character" zs x d l _ (by omega) moD hMD hl fr ⟨.inr rfl, hzl, hzs⟩)
     generalize Yj K (σ5.set l (.list zs)) x d (.str "character") (.ref l) .none = σ6 at q0 q1 q2 q3 ⊢
     k_lt w
     refine jv3 _ _ _ rfl ⟨q1, q2, Ya, q3, ?_, by simp [hcl]⟩
     intro q hq
     rcases List.mem_append.mp hq with hq | hq
     · exact hco q hq
     · rcases List.mem_singleton.mp hq with rfl; exact ⟨.inr rfl, hzl, hzs⟩
 · intro ρ' σ'; apply iv3; refine fun o ys cs => an6 fun mo hMi hki hci hco hcl => ?_
   rw [Yf] at hMi hcl
   have hyl : ys.length = wide := hci.len.trans hcl
   -- the end: marks in hand, the frame is made with the mill laid by
   have fin : ∀ (c9 : Cx) (ρ9 : Loc) (σ5 : Sig) (mk : Str) (marks : List V) (mx mrl sl : Addr) (Q9 : V → Sig → Prop), c9.Ok prog w K (n - 1) → MO σ' σ5 ml → Mill σ5 ml cl (b + 18) → Vec K (σ5.del ml) mx mk mrl marks .none → σ5 sl = some (.list (txs (([("a" : Str), "b", "c"]).take cs.length))) → sl ≠ ml →
    ((mk = "integer" ∧ marks = ups (List.range high)) ∨ (mk = "character" ∧ marks = txs ((List.range high).map rowT))) →
    (∀ x f σ6, MO σ5 σ6 ml → Mill σ6 ml cl (b + 18) → FrmE K (σ6.del ml) x f → LF f → f.marks.length = high → f.cols.length = wide → Q9 (.ref x) σ6) →
    CALL prog w c9 ρ9 σ5 (.ref (gv K "new_frame")) [.ref kl, .ref sl, .ref mx] [] Q9 := by
    intro c9 ρ9 σ5 mk marks mx mrl sl Q9 ok9 mo5 hM5 hv hsl hsm hmk hQ
    obtain ⟨hLF, hml⟩ := LF.make (mk := mk) (marks := marks) hco hh1 hh4 (by omega) (by omega) hmk
    obtain ⟨oo, hoo⟩ := Option.ne_none_iff_exists'.mp hM5.nn
    have hk5 := mo5.get hki hkm
    refine CALL.offM (Q' := fun v τ => Le (σ5.del ml) τ ∧ ∃ x, v = .ref x ∧ FrmE K τ x ⟨cs, ([("a" : Str), "b", "c"]).take cs.length, mk, marks⟩) ok9 hoo (fun c10 S10 ok10 => Yb (ct_new_frame hK ok10 (by omega) (skc := .list kl) (skn := .list sl) (cols := cs) ⟨rfl, by rw [Ye hkm]; exact hk5⟩ (hci.mono mo5) ⟨rfl, by rw [Ye hsm]; exact hsl⟩ hv (by omega) (by omega) (by rw [Ym]; exact hLF.sl.trans (by show cs.length = _; omega)) (fun p hp => ((hco p hp).len).trans hml.symm) fun x l a nx nl cx cl τ le hF => ?_)) ?_
    · exact ⟨le, x, rfl, ⟨_, _, _, _, _, _, _, _, _, hF⟩⟩
    · refine fun v τ => an2 fun le => ex1 fun x => ?_; rintro ⟨rfl, hF⟩; intro hτ
      obtain ⟨hM6, mo6⟩ := hM5.refit hoo le hτ
      refine hQ x _ _ mo6 hM6 ?_ hLF hml hcl
      rw [Mine.refit hτ]; exact hF
   k_lt w
   refine R_ex <| X_comp ok' [] [] (compAt (by k_lt co) (by k_lt cp) (by k_lt gs)) ?_ (hs := fun _ => rfl)
   k_lt w
   refine R_one ok' fun rh hrh => ?_
   have mo4b := (MO.refl (σ := σ')).le (ml := ml) (Yc (o := .rng 0 high) hrh)
   have hM4b := hMi.mono (Yc (o := .rng 0 high) hrh)
   have hrh4 : (σ'.set rh (.rng 0 high)) rh = some (.rng 0 high) := Ya
   generalize σ'.set rh (.rng 0 high) = σ4b at mo4b hM4b hrh4 ⊢
   refine ⟨.rng 0 high, spanZ 0 high, fun j zs τ => τ = σ4b ∧ zs = ups (List.range j), Yr hrh4 (by omega), Yk (by rw [Yf]; omega), ⟨rfl, rfl⟩, ⟨?_, ?_⟩, ?_⟩
   · rintro j zs τ _; rfl
   · rintro c3 j u zs τ ok3 gl3 k1 k2 hx ⟨rfl, rfl⟩
     obtain ⟨hj, rfl⟩ := Yn hx
     refine Yt ?_
     k_lt w
     exact ⟨rfl, by simp [ups, List.range_succ]⟩
   rintro D zs τ ⟨rfl, rfl⟩ hD
   rw [Yf]
   have moD := mo4b.le (Yc (o := .list (ups (List.range high))) hD)
   have hMD := hM4b.mono (Yc (o := .list (ups (List.range high))) hD)
   have hDD : (τ.set D (.list (ups (List.range high)))) D = some (.list (ups (List.range high))) := Ya
   generalize τ.set D (.list (ups (List.range high))) = σ5 at moD hMD hDD ⊢
   k_lt w
   refine Yb (ct_integer hK ok' (by omega) (sk := .list D) ⟨rfl, hDD⟩ (by rw [ups_len, List.length_range]; omega) fun mx d l hl fr => ?_)
   refine (an3 fun le6 _ hv6 => ?_) (vec_off (k := "integer") hMD.nn hl fr)
   have mo6 := moD.le le6
   have hM6 := hMD.mono le6
   generalize Yj K (σ5.set l (.list (ups (List.range high)))) mx d (.str "integer") (.ref l) .none = σ6 at hv6 mo6 hM6 ⊢
   k_lt w
   refine Yb (ct_grain hK ok' (by omega) hM6 (by omega) (by omega) fun r4 σ7 hr4 mo7 hM7 => ?_)
   have hv7 := hv6.mono mo7
   have mo7 := mo6.trans mo7
   have hM7 := hM7.up (by omega : b + 2 + 5 * wide + 1 ≤ b + 18)
   k_lt w
   have slice : ∀ (σ9 : Sig), MO σ' σ9 ml → σ9 kl = some (.list ys) := fun σ9 m9 => m9.get hki hkm
   have hyln : ys.length ≤ 100000 := by omega
   have tail : ∀ (σ7 : Sig) (mk : Str) (marks : List V) (mx mrl : Addr), MO σ' σ7 ml → Mill σ7 ml cl (b + 18) → Vec K (σ7.del ml) mx mk mrl marks .none → ((mk = "integer" ∧ marks = ups (List.range high)) ∨ (mk = "character" ∧ marks = txs ((List.range high).map rowT))) →
    ∀ al, σ7 al = none → MO σ' (σ7.set al (.list (txs [("a" : Str), "b", "c"]))) ml ∧ Mill (σ7.set al (.list (txs [("a" : Str), "b", "c"]))) ml cl (b + 18) ∧ Vec K ((σ7.set al (.list (txs [("a" : Str), "b", "c"]))).del ml) mx mk mrl marks .none ∧ (σ7.set al (.list (txs [("a" : Str), "b", "c"]))) kl = some (.list ys) := by
    intro σ7 mk marks mx mrl mo7 hM7 hv7 _ al hal
    have mo8 := mo7.le (Yc (o := .list (txs [("a" : Str), "b", "c"])) hal)
    exact ⟨mo8, hM7.mono (Yc hal), hv7.mono (Le.del (ml := ml) (Yc hal)), slice _ mo8⟩
   rcases (by omega : r4 = 0 ∨ r4 = 1) with rfl | rfl
   · k_lt w
     refine fun al hal => ?_
     refine (an4 fun mo8 hM8 hv8 hk8 => ?_) (tail σ7 "integer" _ mx l mo7 hM7 hv7 (.inl ⟨rfl, rfl⟩) al hal)
     have ha8 : (σ7.set al (.list (txs [("a" : Str), "b", "c"]))) al = some (.list (txs [("a" : Str), "b", "c"])) := Ya
     show RUN _ _ _ _ _ (σ7.set al (.list (txs [("a" : Str), "b", "c"])))
     generalize σ7.set al (.list (txs [("a" : Str), "b", "c"])) = σ8 at mo8 hM8 hv8 ha8 hk8 ⊢
     k_lt w
     refine ⟨al, _, txs (([("a" : Str), "b", "c"]).take cs.length), rfl, ha8, by simp [txs], ?_, fun sl hsl => ?_⟩
     · rw [hci.len, show txs (([("a" : Str), "b", "c"]).take cs.length) = (txs [("a" : Str), "b", "c"]).take cs.length by simp [txs, List.map_take]]
       exact .upto _ _
     have mo9 := mo8.le (Yc (o := .list (txs (([("a" : Str), "b", "c"]).take cs.length))) hsl)
     have hM9 := hM8.mono (Yc (o := .list (txs (([("a" : Str), "b", "c"]).take cs.length))) hsl)
     have hv9 := hv8.mono (Le.del (ml := ml) (Yc (o := .list (txs (([("a" : Str), "b", "c"]).take cs.length))) hsl))
     have hs9 : (σ8.set sl (.list (txs (([("a" : Str), "b", "c"]).take cs.length)))) sl = some (.list (txs (([("a" : Str), "b", "c"]).take cs.length))) := Ya
     have hsm : sl ≠ ml := by rintro rfl; exact hM8.nn hsl
     generalize σ8.set sl (.list (txs (([("a" : Str), "b", "c"]).take cs.length))) = σ9 at mo9 hM9 hv9 hs9 ⊢
     k_lt w
     refine fin _ _ σ9 "integer" _ mx l sl _ ok' mo9 hM9 hv9 hs9 hsm (.inl ⟨rfl, rfl⟩) fun x f σ10 mo10 hM10 hF10 hLF he1 he2 => ?_
     have mo11 := (mo.trans mo9).trans mo10
     have hk10 : σ10 kl = some (.list ys) := (mo9.trans mo10).get hki hkm
     k_lt w
     refine fun t ht => ?_
     k_lt w
     try rw [hyl]
     refine h t x f _ (mo11.le (Yc ht)) (hM10.mono (Yc ht)) ?_ (hF10.mono (Le.del (Yc ht))) hLF
     rw [Ya, he1, he2]
   · k_lt w
     refine R_ex <| X_comp ok' [] [("str", .ty "str")] (compAt (by k_lt co) (by k_lt cp) (by k_lt gs)) ?_ (hs := fun _ => rfl)
     k_lt w
     refine R_one ok' fun rk hrk => ?_
     have mo7b := mo7.le (Yc (o := .rng 0 high) hrk)
     have hM7b := hM7.mono (Yc (o := .rng 0 high) hrk)
     have hrk7 : (σ7.set rk (.rng 0 high)) rk = some (.rng 0 high) := Ya
     generalize σ7.set rk (.rng 0 high) = σ7b at mo7b hM7b hrk7 ⊢
     refine ⟨.rng 0 high, spanZ 0 high, fun j zs τ => τ = σ7b ∧ zs = txs ((List.range j).map rowT), Yr hrk7 (by omega), Yk (by rw [Yf]; omega), ⟨rfl, rfl⟩, ⟨?_, ?_⟩, ?_⟩
     · rintro j zs τ _; rfl
     · rintro c3 j u zs τ ok3 gl3 k1 k2 hx ⟨rfl, rfl⟩
       obtain ⟨hj, rfl⟩ := Yn hx
       refine Yt ?_
       k_lt w
       refine S_str (by omega) ?_
       k_lt w
       refine B_cats (rowT_ok j (by omega)).1 ?_
       k_lt w
       exact ⟨rfl, by simp [txs, List.range_succ, rowT]⟩
     rintro D2 zs τ ⟨rfl, rfl⟩ hD2
     rw [Yf]
     have moE := mo7b.le (Yc (o := .list (txs ((List.range high).map rowT))) hD2)
     have hME := hM7b.mono (Yc (o := .list (txs ((List.range high).map rowT))) hD2)
     have hDE : (τ.set D2 (.list (txs ((List.range high).map rowT)))) D2 = some (.list (txs ((List.range high).map rowT))) := Ya
     generalize τ.set D2 (.list (txs ((List.range high).map rowT))) = σE at moE hME hDE ⊢
     k_lt w
     refine Yb (ct_character hK ok' (by omega) (sk := .list D2) ⟨rfl, hDE⟩ (by simp [txs]; omega) fun mx dE lE hlE frE => ?_)
     refine (an3 fun leG _ hvG => ?_) (vec_off (k := "character") hME.nn hlE frE)
     have moG := moE.le leG
     have hMG := hME.mono leG
     generalize Yj K (σE.set lE (.list (txs ((List.range high).map rowT)))) mx dE (.str "character") (.ref lE) .none = σG at hvG moG hMG ⊢
     k_lt w
     refine fun al hal => ?_
     refine (an4 fun mo8 hM8 hv8 hk8 => ?_) (tail σG "character" _ mx lE moG hMG hvG (.inr ⟨rfl, rfl⟩) al hal)
     have ha8 : (σG.set al (.list (txs [("a" : Str), "b", "c"]))) al = some (.list (txs [("a" : Str), "b", "c"])) := Ya
     show RUN _ _ _ _ _ (σG.set al (.list (txs [("a" : Str), "b", "c"])))
     generalize σG.set al (.list (txs [("a" : Str), "b", "c"])) = σ8 at mo8 hM8 hv8 ha8 hk8 ⊢
     k_lt w
     refine ⟨al, _, txs (([("a" : Str), "b", "c"]).take cs.length), rfl, ha8, by simp [txs], ?_, fun sl hsl => ?_⟩
     · rw [hci.len, show txs (([("a" : Str), "b", "c"]).take cs.length) = (txs [("a" : Str), "b", "c"]).take cs.length by simp [txs, List.map_take]]
       exact .upto _ _
     have mo9 := mo8.le (Yc (o := .list (txs (([("a" : Str), "b", "c"]).take cs.length))) hsl)
     have hM9 := hM8.mono (Yc (o := .list (txs (([("a" : Str), "b", "c"]).take cs.length))) hsl)
     have hv9 := hv8.mono (Le.del (ml := ml) (Yc (o := .list (txs (([("a" : Str), "b", "c"]).take cs.length))) hsl))
     have hs9 : (σ8.set sl (.list (txs (([("a" : Str), "b", "c"]).take cs.length)))) sl = some (.list (txs (([("a" : Str), "b", "c"]).take cs.length))) := Ya
     have hsm : sl ≠ ml := by rintro rfl; exact hM8.nn hsl
     generalize σ8.set sl (.list (txs (([("a" : Str), "b", "c"]).take cs.length))) = σ9 at mo9 hM9 hv9 hs9 ⊢
     k_lt w
     refine fin _ _ σ9 "character" _ mx lE sl _ ok' mo9 hM9 hv9 hs9 hsm (.inr ⟨rfl, rfl⟩) fun x f σ10 mo10 hM10 hF10 hLF he1 he2 => ?_
     have mo11 := (mo.trans mo9).trans mo10
     have hk10 : σ10 kl = some (.list ys) := (mo9.trans mo10).get hki hkm
     k_lt w
     refine fun t ht => ?_
     k_lt w
     try rw [hyl]
     refine h t x f _ (mo11.le (Yc ht)) (hM10.mono (Yc ht)) ?_ (hF10.mono (Le.del (Yc ht))) hLF
     rw [Ya, he1, he2]
end
section
variable {n : Nat} {c : Cx} {ρ : Loc} {σ : Sig}
theorem isIn_nats {p : Nat} {ps : List Nat} : isIn (.int (p : Nat)) (nats ps) = ps.contains p := by
 unfold isIn nats
 rw [List.any_map, Bool.eq_iff_iff, List.any_eq_true, List.contains_iff_mem]
 constructor
 · rintro ⟨q, hq, e⟩
   have : (q : Int) = p := by simpa [Di, PyData.eqv] using e
   have : q = p := by omega
   exact this ▸ hq
 · intro h
   exact ⟨p, h, by simp [Di, PyData.eqv]⟩
theorem nats_scal {ps : List Nat} : ∀ y ∈ nats ps, scal y = true := by
 intro y hy
 obtain ⟨b, _, rfl⟩ := List.mem_map.mp hy
 rfl
theorem sel_contains {m : Nat} {sel : Nat → Bool} {i : Nat} (h : i < m) : ((List.range m).filter sel).contains i = sel i := by
 rw [Bool.eq_iff_iff, List.contains_iff_mem, List.mem_filter, List.mem_range]
 exact ⟨fun a => a.2, fun a => ⟨h, a⟩⟩
theorem trues_sel {m : Nat} {sel : Nat → Bool} : (List.range m).filter sel = trues ((List.range m).map sel) := by
 unfold trues
 rw [List.length_map, List.length_range]
 refine List.filter_congr fun i hi => ?_
 have := List.mem_range.mp hi
 rw [List.getD_eq_getElem?_getD, List.getElem?_map, List.getElem?_range this]; rfl
theorem filter_sel_congr {j : Nat} {sel : Nat → Bool} {b : Bool} : (List.range j).filter sel = (List.range j).filter (fun x => if x = j then b else sel x) :=
 List.filter_congr fun i hi => by rw [if_neg (by have := List.mem_range.mp hi; omega)]
theorem flags_sel {sel : Nat → Bool} {j : Nat} : Yp ((List.range (j + 1)).map sel) = Yp ((List.range j).map sel) ++ [.int (if sel j then 1 else 0)] := by
 simp [Yp, List.range_succ]
theorem ct_law_index (hK : KOk K) (ok : c.Ok prog w K n) (hn : 5 ≤ n) {ml cl nm : Addr} {b m : Nat} {rs : List Str} {Q : V → Sig → Prop} (hM : Mill σ ml cl b) (hb : b ≤ 10000) (hnm : (σ.del ml) nm = some (.list (txs rs))) (hrl : rs.length = m) (hm1 : 1 ≤ m) (hm4 : m ≤ 4) (hrn : rs.Nodup) (hre : ∀ s ∈ rs, s ≠ "")
 (h : ∀ t ix pl ps ab σ', MO σ σ' ml → Mill σ' ml cl (b + 5) → σ' t = some (.tup [.ref ix, .ref pl]) → (σ'.del ml) pl = some (.list (nats ps)) → Ix prog w K (σ'.del ml) ix m (txs rs) ps ab → ps.Nodup → (∀ p ∈ ps, p < m) → ps.length ≤ 4 → Q (.ref t) σ') : CODE prog w c ρ σ (.ref (gv K "_law_index")) [.ref ml, .int m, .ref nm] [] Q := by
 have hnml : nm ≠ ml := by rintro rfl; rw [Yq] at hnm; cases hnm
 refine en_law_index hK ok (by omega) fun c' ok' sc' gl' => ?_
 k_lt C
 refine S_assign ok' ?_ (hs := swapsF ok' sc' (by decide +kernel))
 k_lt w
 refine R_ex <| X_comp ok' [("mill", .ref ml)] [("_law_grain", .ref (gv K "_law_grain"))] (compAt (by k_lt co) (by k_lt cp) (by k_lt gs)) ?_ (hs := fun _ => rfl)
 k_lt w
 refine R_one ok' fun r hr => ?_
 have mo1 := (MO.refl (σ := σ)).le (ml := ml) (Yc (o := .rng 0 m) hr)
 have hM1 := hM.mono (Yc (o := .rng 0 m) hr)
 have hr1 : (σ.set r (.rng 0 m)) r = some (.rng 0 m) := Ya
 generalize σ.set r (.rng 0 m) = σ1 at mo1 hM1 hr1 ⊢
 refine ⟨.rng 0 m, spanZ 0 m, fun j ys τ => MO σ τ ml ∧ Mill τ ml cl (b + j) ∧ ∃ sel : Nat → Bool, ys = nats ((List.range j).filter sel), Yr hr1 (by omega), Yk (by rw [Yf]; omega), ⟨mo1, hM1, fun _ => false, rfl⟩, ⟨?_, ?_⟩, ?_⟩
 · rintro j ys τ _; rfl
 · refine fun c2 j u ys τ ok2 gl2 k1 k2 hx => an3 fun mo hMj => ?_; rintro ⟨sel, rfl⟩
   obtain ⟨hj, rfl⟩ := Yn hx
   refine IFS_one ?_
   k_lt w
   refine Yb (ct_grain hK ok2 (by omega) hMj (by omega) (by omega) fun r2 σ4 hr2 mo4 hM4 => ?_)
   k_lt w
   have hfil : ∀ b : Bool, (List.range (j + 1)).filter (fun x => if x = j then b else sel x) = (List.range j).filter sel ++ (if b = true then [j] else []) := by
    intro b
    rw [List.range_succ, List.filter_append, ← filter_sel_congr]
    cases b <;> simp
   k_lt w
   refine ifD (fun hp => ?_) fun hp => ?_
   · k_lt w
     refine ⟨mo.trans mo4, hM4, fun x => if x = j then true else sel x, ?_⟩
     rw [hfil true]; simp [nats]
   · refine ⟨mo.trans mo4, hM4, fun x => if x = j then false else sel x, ?_⟩
     rw [hfil false]; simp
 refine fun D ys τ => an3 fun mo hMm => ?_; rintro ⟨sel, rfl⟩; intro hD
 rw [Yf] at hMm ⊢
 have hpn : ((List.range m).filter sel).Nodup := List.nodup_range.sublist List.filter_sublist
 have hpl : ((List.range m).filter sel).length ≤ m := by have := List.length_filter_le sel (List.range m); rwa [List.length_range] at this
 have hplt : ∀ p ∈ (List.range m).filter sel, p < m := fun p hp => List.mem_range.mp (List.mem_filter.mp hp).1
 have hcon : ∀ i, i < m → ((List.range m).filter sel).contains i = sel i := fun i hi => sel_contains hi
 have htr : (List.range m).filter sel = trues ((List.range m).map sel) := trues_sel
 generalize hps : (List.range m).filter sel = ps at hpn hpl hplt hcon htr
 have hDm : D ≠ ml := by rintro rfl; exact hMm.nn hD
 have hDσ : (σ.del ml) D = none := by
  rw [Ye hDm]
  cases q : σ D with
  | none => rfl
  | some z => rw [mo.get q hDm] at hD; cases hD
 have mo2 := mo.le (Yc (o := .list (nats ps)) hD)
 have hM2 := hMm.mono (Yc (o := .list (nats ps)) hD)
 have hD2 : (τ.set D (.list (nats ps))) D = some (.list (nats ps)) := Ya
 generalize τ.set D (.list (nats ps)) = σ2 at mo2 hM2 hD2 ⊢
 k_lt S
 k_lt w
 refine Yb (ct_grain hK ok' (by omega) hM2 (by omega) (by omega) fun r3 σ3 hr3 mo3 hM3 => ?_)
 have hD3 := mo3.get hD2 hDm
 have mo3 := mo2.trans mo3
 have hM3 := hM3.up (by omega : b + m + 1 ≤ b + 5)
 have hD3d : (σ3.del ml) D = some (.list (nats ps)) := by rw [Ye hDm]; exact hD3
 have hnpl : (nats ps).length ≤ 100000 := by rw [Yi]; omega
 -- the end: the index in hand
 have fin : ∀ (σ6 : Sig) (ix pl : Addr) (ps' : List Nat) (ab : Bool) (t : Addr), MO σ σ6 ml → Mill σ6 ml cl (b + 5) → (σ6.del ml) pl = some (.list (nats ps')) → Ix prog w K (σ6.del ml) ix m (txs rs) ps' ab → ps'.Nodup → (∀ p ∈ ps', p < m) → ps'.length ≤ 4 → σ6 t = none → Q (.ref t) (σ6.set t (.tup [.ref ix, .ref pl])) := by
  intro σ6 ix pl ps' ab t mo6 hM6 hpl6 hix6 g1 g2 g3 ht
  have le := Yc (o := .tup [.ref ix, .ref pl]) ht
  exact h t ix pl ps' ab _ (mo6.le le) (hM6.mono le) Ya ((Le.del le) _ _ hpl6) (hix6.mono (Le.del le)) g1 g2 g3
 k_lt w
 rcases (by omega : r3 = 0 ∨ r3 = 1 ∨ r3 = 2 ∨ r3 = 3 ∨ r3 = 4) with rfl | rfl | rfl | rfl | rfl
 · k_lt w
   refine R_ex <| X_comp ok' [] [] (compAt (by k_lt co) (by k_lt cp) (by k_lt gs)) ?_ (hs := fun _ => rfl)
   k_lt w
   refine ⟨.list D, nats ps, fun j zs τ => τ = σ3 ∧ zs = ups (ps.take j), ⟨rfl, hD3⟩, Yk (by omega), ⟨rfl, rfl⟩, ⟨?_, ?_⟩, ?_⟩
   · rintro j zs τ ⟨rfl, _⟩; exact hD3
   · rintro c3 j u zs τ ok3 gl3 k1 k2 hx ⟨rfl, rfl⟩
     obtain ⟨p, hp, rfl⟩ := nats_get hx
     refine Yt ?_
     k_lt w
     exact ⟨rfl, by rw [List.take_add_one, hp]; simp [ups]⟩
   rintro L zs τ ⟨rfl, rfl⟩ hL
   rw [Yi, List.take_length]
   have mo4 := mo3.le (Yc (o := .list (ups ps)) hL)
   have hM4 := hM3.mono (Yc (o := .list (ups ps)) hL)
   have hD4 := (Le.del (ml := ml) (Yc (o := .list (ups ps)) hL)) _ _ hD3d
   have hL4 : (τ.set L (.list (ups ps))) L = some (.list (ups ps)) := Ya
   generalize τ.set L (.list (ups ps)) = σ4 at mo4 hM4 hD4 hL4 ⊢
   k_lt w
   refine Yb (ct_integer hK ok' (by omega) (sk := .list L) ⟨rfl, hL4⟩ (by rw [ups_len]; omega) fun mx d l hl fr => ?_)
   refine (an3 fun le6 _ hv6 => ?_) (vec_off (k := "integer") hM4.nn hl fr)
   have mo6 := mo4.le le6
   have hM6 := hM4.mono le6
   have hD6 := (Le.del (ml := ml) le6) _ _ hD4
   generalize Yj K (σ4.set l (.list (ups ps))) mx d (.str "integer") (.ref l) .none = σ6 at hv6 mo6 hM6 hD6 ⊢
   k_lt w
   refine fun t ht => ?_
   k_lt w
   exact fin σ6 mx D ps false t mo6 hM6 hD6 (.vec hv6 (.inl rfl) fun b => posOk_up hK hv6 (by omega)) hpn hplt (by omega) ht
 · k_lt w
   refine R_ex <| X_comp ok' [("chosen_now", .ref D)] [] (compAt (by k_lt co) (by k_lt cp) (by k_lt gs)) ?_ (hs := fun _ => rfl)
   k_lt w
   refine R_one ok' fun rh hrh => ?_
   have mo3b := mo3.le (Yc (o := .rng 0 m) hrh)
   have hM3b := hM3.mono (Yc (o := .rng 0 m) hrh)
   have hD3b := (Le.del (ml := ml) (Yc (o := .rng 0 m) hrh)) _ _ hD3d
   have hD3c := (Yc (o := .rng 0 m) hrh) _ _ hD3
   have hrh3 : (σ3.set rh (.rng 0 m)) rh = some (.rng 0 m) := Ya
   generalize σ3.set rh (.rng 0 m) = σ3b at mo3b hM3b hD3b hD3c hrh3 ⊢
   refine ⟨.rng 0 m, spanZ 0 m, fun j zs τ => τ = σ3b ∧ zs = Yp ((List.range j).map sel), Yr hrh3 (by omega), Yk (by rw [Yf]; omega), ⟨rfl, rfl⟩, ⟨?_, ?_⟩, ?_⟩
   · rintro j zs τ _; rfl
   · rintro c3 j u zs τ ok3 gl3 k1 k2 hx ⟨rfl, rfl⟩
     obtain ⟨hj, rfl⟩ := Yn hx
     refine Yt ?_
     k_lt w
     refine C_inL ok3 hD3c rfl nats_scal ?_
     k_lt w
     try rw [isIn_nats, hcon j hj]
     k_lt w
     refine R_B (fun hs => ?_) fun hs => ?_
     · k_lt w
       exact ⟨rfl, by rw [flags_sel, hs]; rfl⟩
     · k_lt w
       exact ⟨rfl, by rw [flags_sel, hs]; rfl⟩
   rintro L zs τ ⟨rfl, rfl⟩ hL
   rw [Yf]
   generalize hfs : (List.range m).map sel = fls at htr
   have hfl : fls.length = m := by rw [← hfs]; simp
   have mo4 := mo3b.le (Yc (o := .list (Yp fls)) hL)
   have hM4 := hM3b.mono (Yc (o := .list (Yp fls)) hL)
   have hD4 := (Le.del (ml := ml) (Yc (o := .list (Yp fls)) hL)) _ _ hD3b
   have hL4 : (τ.set L (.list (Yp fls))) L = some (.list (Yp fls)) := Ya
   generalize τ.set L (.list (Yp fls)) = σ4 at mo4 hM4 hD4 hL4 ⊢
   k_lt w
   refine Yb (ct_logical hK ok' (by omega) (sk := .list L) ⟨rfl, hL4⟩ (by rw [flagsL_len]; omega) fun mx d l hl fr => ?_)
   refine (an3 fun le6 _ hv6 => ?_) (vec_off (k := "logical") hM4.nn hl fr)
   have mo6 := mo4.le le6
   have hM6 := hM4.mono le6
   have hD6 := (Le.del (ml := ml) le6) _ _ hD4
   generalize Yj K (σ4.set l (.list (Yp fls))) mx d (.str "logical") (.ref l) .none = σ6 at hv6 mo6 hM6 hD6 ⊢
   k_lt w
   refine fun t ht => ?_
   k_lt w
   exact fin σ6 mx D ps false t mo6 hM6 hD6 (.vec hv6 (.inr (.inl rfl)) fun b => posOk_flags hK hv6 (by omega) (by intro e; rw [e] at hfl; simp at hfl; omega) hfl htr) hpn hplt (by omega) ht
 · k_lt w
   refine R_ex <| X_comp ok' [("names", .ref nm)] [] (compAt (by k_lt co) (by k_lt cp) (by k_lt gs)) ?_ (hs := fun _ => rfl)
   k_lt w
   have hnm3 : σ3 nm = some (.list (txs rs)) := mo3.get (by rw [Ye hnml] at hnm; exact hnm) hnml
   refine ⟨.list D, nats ps, fun j zs τ => τ = σ3 ∧ zs = txs (pickS rs (ps.take j)), ⟨rfl, hD3⟩, Yk (by omega), ⟨rfl, rfl⟩, ⟨?_, ?_⟩, ?_⟩
   · rintro j zs τ ⟨rfl, _⟩; exact hD3
   · rintro c3 j u zs τ ok3 gl3 k1 k2 hx ⟨rfl, rfl⟩
     obtain ⟨p, hp, rfl⟩ := nats_get hx
     have hlt : p < rs.length := by rw [hrl]; exact hplt p (List.mem_of_getElem? hp)
     refine Yt ?_
     k_lt w
     refine SB_list hnm3 (by omega) (by omega) (v := .str rs[p]) (by simp [txs, hlt]) ?_
     k_lt w
     exact ⟨rfl, (pickS_snoc hp (List.getElem?_eq_getElem hlt)).symm⟩
   rintro L zs τ ⟨rfl, rfl⟩ hL
   rw [Yi, List.take_length]
   have mo4 := mo3.le (Yc (o := .list (txs (pickS rs ps))) hL)
   have hM4 := hM3.mono (Yc (o := .list (txs (pickS rs ps))) hL)
   have hD4 := (Le.del (ml := ml) (Yc (o := .list (txs (pickS rs ps))) hL)) _ _ hD3d
   have hL4 : (τ.set L (.list (txs (pickS rs ps)))) L = some (.list (txs (pickS rs ps))) := Ya
   generalize τ.set L (.list (txs (pickS rs ps))) = σ4 at mo4 hM4 hD4 hL4 ⊢
   k_lt w
   refine Yb (ct_character hK ok' (by omega) (sk := .list L) ⟨rfl, hL4⟩ (by rw [Ym, pickS_len]; omega) fun mx d l hl fr => ?_)
   refine (an3 fun le6 _ hv6 => ?_) (vec_off (k := "character") hM4.nn hl fr)
   have mo6 := mo4.le le6
   have hM6 := hM4.mono le6
   have hD6 := (Le.del (ml := ml) le6) _ _ hD4
   generalize Yj K (σ4.set l (.list (txs (pickS rs ps)))) mx d (.str "character") (.ref l) .none = σ6 at hv6 mo6 hM6 hD6 ⊢
   k_lt w
   refine fun t ht => ?_
   k_lt w
   exact fin σ6 mx D ps false t mo6 hM6 hD6 (.vec hv6 (.inr (.inr rfl)) fun b => posOk_names hK hv6 rfl (by omega) hrn hre (by omega) (by rw [hrl]; exact hplt)) hpn hplt (by omega) ht
 · by_cases hlen : ps.length < m
   · have e1 : decide (((nats ps).length : Int) < (m : Nat)) = true := by rw [Yi]; exact decide_eq_true (by omega)
     k_lt w
     refine R_ex <| X_comp ok' [("chosen_now", .ref D)] [] (compAt (by k_lt co) (by k_lt cp) (by k_lt gs)) ?_ (hs := fun _ => rfl)
     k_lt w
     refine R_one ok' fun rh hrh => ?_
     have mo3b := mo3.le (Yc (o := .rng 0 m) hrh)
     have hM3b := hM3.mono (Yc (o := .rng 0 m) hrh)
     have hD3b := (Le.del (ml := ml) (Yc (o := .rng 0 m) hrh)) _ _ hD3d
     have hD3c := (Yc (o := .rng 0 m) hrh) _ _ hD3
     have hrh3 : (σ3.set rh (.rng 0 m)) rh = some (.rng 0 m) := Ya
     generalize σ3.set rh (.rng 0 m) = σ3b at mo3b hM3b hD3b hD3c hrh3 ⊢
     refine ⟨.rng 0 m, spanZ 0 m, fun j zs τ => τ = σ3b ∧ zs = downs ((List.range j).filter fun x => !ps.contains x), Yr hrh3 (by omega), Yk (by rw [Yf]; omega), ⟨rfl, rfl⟩, ⟨?_, ?_⟩, ?_⟩
     · rintro j zs τ _; rfl
     · rintro c3 j u zs τ ok3 gl3 k1 k2 hx ⟨rfl, rfl⟩
       obtain ⟨hj, rfl⟩ := Yn hx
       refine IFS_one ?_
       k_lt w
       refine C_ninL ok3 hD3c rfl nats_scal ?_
       k_lt w
       try rw [isIn_nats]
       k_lt w
       rw [List.range_succ, List.filter_append]
       refine ifB (fun hs => ?_) fun hs => ?_
       · k_lt w
         try rw [List.filter_cons, if_pos hs]
         exact ⟨rfl, by simp [downs]⟩
       · rw [List.filter_cons, if_neg (by rw [hs]; simp)]
         exact ⟨rfl, by simp [downs]⟩
     rintro L zs τ ⟨rfl, rfl⟩ hL
     rw [Yf]
     have hql : ((List.range m).filter fun x => !ps.contains x).length ≤ m := by have := List.length_filter_le (fun x => !ps.contains x) (List.range m); rwa [List.length_range] at this
     have hq0 : ((List.range m).filter fun x => !ps.contains x) ≠ [] := by
      intro e
      have hall : ∀ x, x < m → x ∈ ps := by
       intro x hx
       by_cases q : x ∈ ps
       · exact q
       · have : x ∈ ((List.range m).filter fun x => !ps.contains x) := List.mem_filter.mpr ⟨List.mem_range.mpr hx, by rw [Bool.not_eq_true', Bool.eq_false_iff]; intro h; exact q (List.contains_iff_mem.mp h)⟩
         rw [e] at this; cases this
      have h1 : (List.range m).length ≤ ps.length := by
       rw [← hps]
       have : (List.range m).filter sel = List.range m := List.filter_eq_self.mpr fun x hx => by
        have := hall x (List.mem_range.mp hx)
        rw [← hps] at this
        exact (List.mem_filter.mp this).2
       rw [this]; exact Nat.le_refl _
      rw [List.length_range] at h1
      omega
     have hpsq : ps = (List.range m).filter fun i => !((List.range m).filter fun x => !ps.contains x).contains i := by
      conv => lhs; rw [← hps]
      refine List.filter_congr fun i hi => ?_
      have hi' := List.mem_range.mp hi
      rw [sel_contains hi', Bool.not_not, hcon i hi']
     generalize hqs : ((List.range m).filter fun x => !ps.contains x) = qs at hql hq0 hpsq
     have mo4 := mo3b.le (Yc (o := .list (downs qs)) hL)
     have hM4 := hM3b.mono (Yc (o := .list (downs qs)) hL)
     have hD4 := (Le.del (ml := ml) (Yc (o := .list (downs qs)) hL)) _ _ hD3b
     have hL4 : (τ.set L (.list (downs qs))) L = some (.list (downs qs)) := Ya
     generalize τ.set L (.list (downs qs)) = σ4 at mo4 hM4 hD4 hL4 ⊢
     k_lt w
     refine Yb (ct_integer hK ok' (by omega) (sk := .list L) ⟨rfl, hL4⟩ (by rw [downs_len]; omega) fun mx d l hl fr => ?_)
     refine (an3 fun le6 _ hv6 => ?_) (vec_off (k := "integer") hM4.nn hl fr)
     have mo6 := mo4.le le6
     have hM6 := hM4.mono le6
     have hD6 := (Le.del (ml := ml) le6) _ _ hD4
     generalize Yj K (σ4.set l (.list (downs qs))) mx d (.str "integer") (.ref l) .none = σ6 at hv6 mo6 hM6 hD6 ⊢
     k_lt w
     refine fun t ht => ?_
     k_lt w
     exact fin σ6 mx D ps false t mo6 hM6 hD6 (.vec hv6 (.inl rfl) fun b => posOk_down hK hv6 (by omega) (by omega) hq0 hpsq) hpn hplt (by omega) ht
   · have e1 : decide (((nats ps).length : Int) < (m : Nat)) = false := by rw [Yi]; exact decide_eq_false (by omega)
     k_lt w
     obtain ⟨oo, hoo⟩ := Option.ne_none_iff_exists'.mp hM3.nn
     refine CALL.offM (Q' := fun v τ => Le (σ3.del ml) τ ∧ ∃ x, v = .ref x ∧ Obj0 K τ x "Missing" [("kind", .str "missing"), ("attrs", .none)]) ok' hoo (fun c10 S10 ok10 => Yb (ct_missing hK ok10 (by omega) fun x τ le hx => ⟨le, x, rfl, hx⟩)) ?_
     refine fun v τ => an2 fun le => ex1 fun x => ?_; rintro ⟨rfl, hx⟩; intro hτ
     obtain ⟨hM6, mo6⟩ := hM3.refit hoo le hτ
     have hx6 : Obj0 K ((τ.set ml oo).del ml) x "Missing" [("kind", .str "missing"), ("attrs", .none)] := by rw [Mine.refit hτ]; exact hx
     have mo6 := mo3.trans mo6
     generalize τ.set ml oo = σ6 at hM6 mo6 hx6 ⊢
     k_lt w
     refine R_one ok' fun rq hrq => ?_
     have l7 := Yc (o := .rng 0 m) hrq
     have hr7 : (σ6.set rq (.rng 0 m)) rq = some (.rng 0 m) := Ya
     have mo7 := mo6.le l7
     have hM7 := hM6.mono l7
     have hx7 := hx6.mono (Le.del (ml := ml) l7)
     generalize σ6.set rq (.rng 0 m) = σ7 at hr7 mo7 hM7 hx7 ⊢
     k_lt w
     refine N_list ok' (Yr hr7 (by omega)) (by rw [Yf]; omega) fun y hy => ?_
     have l8 := Yc (o := .list (spanZ 0 m)) hy
     have hy8 : (σ7.set y (.list (spanZ 0 m))) y = some (.list (nats (List.range m))) := by rw [Ya, span_nats]
     have hyml : y ≠ ml := by rintro rfl; exact hM7.nn hy
     have mo8 := mo7.le l8
     have hM8 := hM7.mono l8
     have hx8 := hx7.mono (Le.del (ml := ml) l8)
     generalize σ7.set y (.list (spanZ 0 m)) = σ8 at hy8 mo8 hM8 hx8 ⊢
     k_lt w
     refine fun t ht => ?_
     k_lt w
     exact fin σ8 x y (List.range m) true t mo8 hM8 (by rw [Ye hyml]; exact hy8) (.miss hx8 rfl) List.nodup_range (fun p hp => List.mem_range.mp hp) (by rw [List.length_range]; omega) ht
 · k_lt w
   refine Q_reverse hD3 hnpl ?_
   have hrv : (nats ps).reverse = nats ps.reverse := by simp [nats, List.map_reverse]
   rw [hrv]
   have mo3r : MO σ (σ3.set D (.list (nats ps.reverse))) ml := by
    show Le _ _
    rw [set_del_comm hDm]
    exact (mo3 : Le _ _).setD hDσ
   have hclD : cl ≠ D := by
    obtain ⟨a9, m9, zs9, d1, d2, d3, d4, d5⟩ := hM
    have hcm := Mill.cl d1 d3
    rintro rfl
    rw [Ye hcm, d3] at hDσ; cases hDσ
   have hM3r : Mill (σ3.set D (.list (nats ps.reverse))) ml cl (b + 5) := by
    obtain ⟨a, m', zs, a1, a2, a3, a4, a5⟩ := hM3
    exact ⟨a, m', zs, by rw [Yd (Ne.symm hDm)]; exact a1, a2, by rw [Yd hclD]; exact a3, a4, a5⟩
   have hDr : (σ3.set D (.list (nats ps.reverse))) D = some (.list (nats ps.reverse)) := Ya
   have hDrd : ((σ3.set D (.list (nats ps.reverse))).del ml) D = some (.list (nats ps.reverse)) := by rw [Ye hDm]; exact hDr
   generalize σ3.set D (.list (nats ps.reverse)) = σ3r at mo3r hM3r hDr hDrd ⊢
   have hpl' : ps.reverse.length ≤ m := by rw [List.length_reverse]; exact hpl
   have hnpl' : (nats ps.reverse).length ≤ 100000 := by rw [Yi]; omega
   k_lt w
   refine R_ex <| X_comp ok' [] [] (compAt (by k_lt co) (by k_lt cp) (by k_lt gs)) ?_ (hs := fun _ => rfl)
   k_lt w
   refine ⟨.list D, nats ps.reverse, fun j zs τ => τ = σ3r ∧ zs = ups (ps.reverse.take j), ⟨rfl, hDr⟩, Yk (by omega), ⟨rfl, rfl⟩, ⟨?_, ?_⟩, ?_⟩
   · rintro j zs τ ⟨rfl, _⟩; exact hDr
   · rintro c3 j u zs τ ok3 gl3 k1 k2 hx ⟨rfl, rfl⟩
     obtain ⟨p, hp, rfl⟩ := nats_get hx
     refine Yt ?_
     k_lt w
     exact ⟨rfl, by rw [List.take_add_one, hp]; simp [ups]⟩
   rintro L zs τ ⟨rfl, rfl⟩ hL
   rw [Yi, List.take_length]
   have mo4 := mo3r.le (Yc (o := .list (ups ps.reverse)) hL)
   have hM4 := hM3r.mono (Yc (o := .list (ups ps.reverse)) hL)
   have hD4 := (Le.del (ml := ml) (Yc (o := .list (ups ps.reverse)) hL)) _ _ hDrd
   have hL4 : (τ.set L (.list (ups ps.reverse))) L = some (.list (ups ps.reverse)) := Ya
   generalize τ.set L (.list (ups ps.reverse)) = σ4 at mo4 hM4 hD4 hL4 ⊢
   k_lt w
   refine Yb (ct_integer hK ok' (by omega) (sk := .list L) ⟨rfl, hL4⟩ (by rw [ups_len]; omega) fun mx d l hl fr => ?_)
   refine (an3 fun le6 _ hv6 => ?_) (vec_off (k := "integer") hM4.nn hl fr)
   have mo6 := mo4.le le6
   have hM6 := hM4.mono le6
   have hD6 := (Le.del (ml := ml) le6) _ _ hD4
   generalize Yj K (σ4.set l (.list (ups ps.reverse))) mx d (.str "integer") (.ref l) .none = σ6 at hv6 mo6 hM6 hD6 ⊢
   k_lt w
   refine fun t ht => ?_
   k_lt w
   exact fin σ6 mx D ps.reverse false t mo6 hM6 hD6 (.vec hv6 (.inl rfl) fun b => posOk_up hK hv6 (by omega)) ((List.reverse_perm ps).nodup_iff.mpr hpn) (fun p hp => hplt p (List.mem_reverse.mp hp)) (by omega) ht
end
section
variable {n : Nat} {c : Cx} {ρ : Loc} {σ : Sig}
inductive Cells (σ : Sig) : List V → List (Str × List V) → Prop
 | nil : Cells σ [] []
 | cons {c l : Addr} {k : Str} {xs us cs} : σ c = some (.tup [.str k, .ref l]) → σ l = some (.list xs) → Cells σ us cs → Cells σ (.ref c :: us) ((k, xs) :: cs)
theorem Cells.mono {σ σ' : Sig} {us : List V} {cs : List (Str × List V)} (h : Cells σ us cs) (le : Le σ σ') : Cells σ' us cs := by
 induction h with
 | nil => exact .nil
 | cons h1 h2 _ ih => exact .cons (le _ _ h1) (le _ _ h2) ih
theorem Cells.get {us : List V} {cs : List (Str × List V)} (h : Cells σ us cs) : ∀ {i : Nat} {q : Str × List V}, cs[i]? = some q → ∃ c l, us[i]? = some (.ref c) ∧ σ c = some (.tup [.str q.1, .ref l]) ∧ σ l = some (.list q.2) := by
 induction h with
 | nil => intro i v e; cases e
 | cons h1 h2 _ ih =>
  intro i v e
  cases i with
  | zero => cases e; exact jv2 _ _ rfl ⟨h1, h2⟩
  | succ i => exact ih (by simpa using e)
theorem Cells.snoc {us : List V} {cs : List (Str × List V)} {c l : Addr} {k : Str} {xs : List V} (h : Cells σ us cs) (h1 : σ c = some (.tup [.str k, .ref l])) (h2 : σ l = some (.list xs)) : Cells σ (us ++ [.ref c]) (cs ++ [(k, xs)]) := by
 induction h with
 | nil => exact .cons h1 h2 .nil
 | cons a b _ ih => exact .cons a b ih
theorem Cells.len {us : List V} {cs : List (Str × List V)} (h : Cells σ us cs) : us.length = cs.length := by
 induction h with
 | nil => rfl
 | cons _ _ _ ih => simp [ih]
inductive Plain (σ : Sig) (t : Addr) (f : FD) : Prop
 | mk (cl rl nl : Addr) (us : List V) (h1 : σ t = some (.tup [.ref cl, .str f.kd, .ref rl, .ref nl])) (h2 : σ cl = some (.list us)) (h3 : Cells σ us f.cols) (h4 : σ rl = some (.list f.marks)) (h5 : σ nl = some (.list (txs f.ss)))
theorem Plain.mono {t : Addr} {f : FD} {σ σ' : Sig} (h : Plain σ t f) (le : Le σ σ') : Plain σ' t f := by obtain ⟨cl, rl, nl, us, h1, h2, h3, h4, h5⟩ := h; exact ⟨cl, rl, nl, us, le _ _ h1, le _ _ h2, h3.mono le, le _ _ h4, le _ _ h5⟩
structure POk (f : FD) : Prop where
 c : ∀ p ∈ f.cols, PyData.strOk p.1 = true ∧ ∀ v ∈ p.2, scal v = true
 k : PyData.strOk f.kd = true
 m : ∀ v ∈ f.marks, scal v = true
 n : ∀ v ∈ txs f.ss, scal v = true
noncomputable def colsD (cs : List (Str × List V)) : List PyData := cs.map fun p => .tuple [.str p.1, .list (p.2.map Dv)]
noncomputable def plainD (f : FD) : PyData := .tuple [.list (colsD f.cols), .str f.kd, .list (f.marks.map Dv), .list ((txs f.ss).map Dv)]
theorem Cells.rd {us : List V} {cs : List (Str × List V)} (h : Cells σ us cs) (hc : ∀ p ∈ cs, PyData.strOk p.1 = true ∧ ∀ v ∈ p.2, scal v = true) : RDs σ us (colsD cs) := by
 induction h with
 | nil => exact .nil
 | cons h1 h2 _ ih =>
  obtain ⟨a, b⟩ := hc _ List.mem_cons_self
  exact .cons (.tup h1 (.cons (.sc (x := .str _) a) (.cons (Yo h2 b) .nil))) (ih fun p hp => hc p (List.mem_cons_of_mem _ hp))
theorem Plain.rd {t : Addr} {f : FD} (h : Plain σ t f) (hf : POk f) : RD σ (.ref t) (plainD f) := by
 obtain ⟨cl, rl, nl, us, h1, h2, h3, h4, h5⟩ := h
 exact .tup h1 (.cons (.list h2 (h3.rd hf.c)) (.cons (.sc (x := .str _) hf.k) (.cons (Yo h4 hf.m) (.cons (Yo h5 hf.n) .nil))))
theorem colsD_lay : ∀ {cs : List (Str × List V)}, (∀ p ∈ cs, PyData.strOk p.1 = true ∧ ∀ v ∈ p.2, scal v = true) → PyData.canLayAll0 (colsD cs) = true
 | [], _ => rfl
 | p :: cs, h => by
  obtain ⟨a, b⟩ := h p List.mem_cons_self
  show PyData.canLayAll0 (PyData.tuple [.str p.1, .list (p.2.map Dv)] :: colsD cs) = true
  rw [PyData.canLayAll0, colsD_lay fun q hq => h q (List.mem_cons_of_mem _ hq), PyData.canLay0, PyData.canLayAll0, PyData.canLayAll0, PyData.canLayAll0, PyData.canLay0, PyData.canLay0, Yl b, a]; rfl
theorem plainD_lay {f : FD} (hf : POk f) : (plainD f).canLay0 = true := by
 unfold plainD
 simp only [PyData.canLay0, PyData.canLayAll0, colsD_lay hf.c, Yl hf.m, Yl hf.n, hf.k, Bool.and_self]
theorem colsD_depth : ∀ {cs : List (Str × List V)}, PyData.depthAll (colsD cs) ≤ 2
 | [] => by simp [colsD, PyData.depthAll]
 | p :: cs => by
  have := colsD_depth (cs := cs)
  show PyData.depthAll (PyData.tuple [.str p.1, .list (p.2.map Dv)] :: colsD cs) ≤ 2
  rw [PyData.depthAll, PyData.depth, PyData.depthAll, PyData.depthAll, PyData.depthAll, PyData.depth, PyData.depth, depthAll_Dv]
  omega
theorem plainD_depth {f : FD} : (plainD f).depth ≤ 1000 := by
 have := colsD_depth (cs := f.cols)
 unfold plainD
 simp only [PyData.depth, PyData.depthAll, depthAll_Dv]
 omega
theorem C_nePlain (ok : c.Ok prog w K n) {t u : Addr} {f : FD} {Q : V → Sig → Prop} (h1 : Plain σ t f) (h2 : Plain σ u f) (hf : POk f) (h : Q (.bool false) σ) : CMP prog w c ρ σ .NotEq (.ref t) (.ref u) Q := by
 refine C_neD ok (h1.rd hf) (h2.rd hf) (plainD_lay hf) (plainD_lay hf) plainD_depth ?_
 k_lt w
 try rw [PySem.SeqAt.eqv_refl _ (plainD_lay hf)]; exact h
theorem C_eqPlain (ok : c.Ok prog w K n) {t u : Addr} {f : FD} {Q : V → Sig → Prop} (h1 : Plain σ t f) (h2 : Plain σ u f) (hf : POk f) (h : Q (.bool true) σ) : CMP prog w c ρ σ .Eq (.ref t) (.ref u) Q := by
 refine C_eqD ok (h1.rd hf) (h2.rd hf) (plainD_lay hf) (plainD_lay hf) plainD_depth ?_
 k_lt w
 try rw [PySem.SeqAt.eqv_refl _ (plainD_lay hf)]; exact h
theorem kn_ok {k : Str} (h : k = "integer" ∨ k = "character") : PyData.strOk k = true := by rcases h with rfl | rfl <;> decide +kernel
theorem FD.Ok.pok {f : FD} (h : f.Ok) (hk : f.kd = "integer" ∨ f.kd = "character") : POk f := ⟨fun p hp => ⟨kn_ok (h.kn p hp), h.sc p hp⟩, kn_ok hk, h.ms, h.ns⟩
theorem pickL_scal {xs : List V} {ps : List Nat} (h : ∀ v ∈ xs, scal v = true) : ∀ v ∈ pickL xs ps, scal v = true := by
 intro v hv
 obtain ⟨p, _, rfl⟩ := List.mem_map.mp hv
 rw [List.getD_eq_getElem?_getD]
 cases q : xs[p]? with
 | none => rfl
 | some y => exact h y (List.mem_of_getElem? q)
theorem pickS_scal {ss : List Str} {ps : List Nat} (h : ∀ v ∈ txs ss, scal v = true) : ∀ v ∈ txs (pickS ss ps), scal v = true := by
 intro v hv
 obtain ⟨s, hs, rfl⟩ := List.mem_map.mp hv
 obtain ⟨p, _, rfl⟩ := List.mem_map.mp hs
 rw [List.getD_eq_getElem?_getD]
 cases q : ss[p]? with
 | none => exact (by decide +kernel : scal (.str "") = true)
 | some y => exact h (.str y) (List.mem_map.mpr ⟨y, List.mem_of_getElem? q, rfl⟩)
theorem POk.part {f : FD} (h : POk f) (is : List Nat) {js : List Nat} (hj : ∀ p ∈ js, p < f.cols.length) : POk (f.part is js) := by
 refine ⟨fun p hp => ?_, h.k, pickL_scal h.m, pickS_scal h.n⟩
 obtain ⟨q, hq, rfl⟩ := List.mem_map.mp hp
 obtain ⟨a, b⟩ := h.c q (pickC_mem hq hj)
 exact ⟨a, pickL_scal b⟩
theorem ct_law_plain (hK : KOk K) (ok : c.Ok prog w K n) (hn : 1 ≤ n) {x : Addr} {f : FD} {Q : V → Sig → Prop} (hF : FrmE K σ x f) (h : ∀ t σ', Le σ σ' → Plain σ' t f → Q (.ref t) σ') : CODE prog w c ρ σ (.ref (gv K "_law_plain")) [.ref x] [] Q := by
 have hwi := hF.wide
 obtain ⟨l, a, nx, nl, cx, cl, rx, rl, vs, hF⟩ := hF
 have h1 := hF.self; have h2 := hF.at'; have h3 := hF.rn; have h4 := hF.nm
 have hvs := hF.cs.len
 refine en_law_plain hK ok (by omega) fun c' ok' sc' gl' => ?_
 k_lt w
 refine R_ex <| X_comp ok' [] [] (compAt (by k_lt co) (by k_lt cp) (by k_lt gs)) ?_ (hs := fun _ => rfl)
 k_lt w
 refine ⟨.list l, vs, fun i ys σ' => Le σ σ' ∧ Cells σ' ys (f.cols.take i), ⟨rfl, h1.list⟩, Yk (by omega), ⟨Le.refl, .nil⟩, ⟨?_, ?_⟩, ?_⟩
 · rintro i ys σ' ⟨le, _⟩; exact le _ _ h1.list
 · rintro c2 i v ys σ' ok2 gl2 k1 k2 hx ⟨le, hc⟩
   refine (ex4 fun z lz k xs => an3 ?_) ((hF.cs.mono le).get hx); rintro rfl; intro hq hv
   refine Yt ?_
   k_lt w
   refine fun t ht => ?_
   refine ⟨le.trans (Yc ht), ?_⟩
   rw [List.take_add_one, hq]
   exact (hc.mono (Yc ht)).snoc Ya (Yg ht hv.list)
 rintro D ys σ' ⟨le, hc⟩ hD
 rw [hvs, List.take_length] at hc
 have le1 := le.trans (Yc (o := .list ys) hD)
 have hc1 := hc.mono (Yc (o := .list ys) hD)
 have hD1 : (σ'.set D (.list ys)) D = some (.list ys) := Ya
 generalize σ'.set D (.list ys) = σ1 at le1 hc1 hD1 ⊢
 have g1 := h1.mono le1; have g2 := le1 _ _ h2; have g3 := h3.mono le1; have g4 := h4.mono le1
 k_lt w
 refine fun t ht => ?_
 k_lt w
 have le2 := Yc (o := .tup [.ref D, .str f.kd, .ref rl, .ref nl]) ht
 exact h t _ (le1.trans le2) ⟨D, rl, nl, ys, Ya, le2 _ _ hD1, hc1.mono le2, le2 _ _ g3.list, le2 _ _ g4.list⟩
theorem ct_law_taken (hK : KOk K) (ok : c.Ok prog w K n) (hn : 2 ≤ n) {x jl : Addr} {f : FD} {is js : List Nat} {rv : V} {sk : SK} {Q : V → Sig → Prop} (hF : FrmE K σ x f) (hr : SrcOf σ rv sk (nats is)) (hj : σ jl = some (.list (nats js))) (hp : Picks f is js)
 (h : ∀ t σ', Le σ σ' → Plain σ' t (f.part is js) → Q (.ref t) σ') : CODE prog w c ρ σ (.ref (gv K "_law_taken")) [.ref x, rv, .ref jl] [] Q := by
 have hsl := hF.sl
 have hcl := hF.clen
 have hhi := hF.high
 have hwi := hF.wide
 have li := hp.i3
 have lj := hp.j3
 refine en_law_taken hK ok (by omega) fun c' ok' sc' gl' => ?_
 k_lt w
 refine Yb (ct_law_plain hK ok' (by omega) hF fun t0 σ1 le1 hP => ?_)
 obtain ⟨cl, rl, nl, us, h1, h2, h3, h4, h5⟩ := hP
 refine G_tuple ok' (.tup t0) ⟨rfl, h1⟩ (fun _ _ e => by cases e) rfl ?_
 k_lt w
 refine R_st <| S_assign_comp ok' [("cells", .ref cl), ("rows", rv)] [] (compAt (by k_lt co) (by k_lt cp) (by k_lt gs)) ?_ (swapsT ok' sc' (by decide +kernel)) (hs := fun _ => rfl)
 k_lt w
 refine ⟨.list jl, nats js, fun i ys σ' => Le σ1 σ' ∧ Cells σ' ys ((pickC f.cols (js.take i)).map fun p => (p.1, pickL p.2 is)), ⟨rfl, le1 _ _ hj⟩, Yk (by rw [Yi]; omega), ⟨Le.refl, .nil⟩, ⟨?_, ?_⟩, ?_⟩
 · rintro i ys σ' ⟨le, _⟩; exact (le1.trans le) _ _ hj
 · rintro c2 i v ys σ' ok2 gl2 k1 k2 hx ⟨le, hc⟩
   obtain ⟨p, hp1, rfl⟩ := nats_get hx
   have hlt : p < f.cols.length := by rw [← hsl]; exact hp.j1 p (List.mem_of_getElem? hp1)
   have hq : f.cols[p]? = some f.cols[p] := List.getElem?_eq_getElem hlt
   generalize f.cols[p] = q at hq
   obtain ⟨k, xs⟩ := q
   have hxl : xs.length = f.marks.length := hcl _ (List.mem_of_getElem? hq)
   refine (ex2 fun cc cll => an3 fun hu hcc hll => ?_) ((h3.mono le).get hq)
   have hu' : us[((p : Nat) : Int).toNat]? = some (.ref cc) := hu
   have h2' := le _ _ h2
   refine Yt ?_
   k_lt w
   refine SB_list h2' (by omega) (by omega) hu' ?_
   k_lt w
   refine R_ex <| X_comp ok2 [("cells", .ref cl), ("at", .int p)] [] (compAt (by k_lt co) (Caps.cons (by k_lt hv) (k1 _ (by simp)) (Caps.cons (by k_lt hv) (k2.trans (by decide +kernel)) Caps.nil)) (by k_lt gs)) ?_ (hs := fun _ => rfl)
   k_lt w
   refine ⟨sk, nats is, fun j zs τ => τ = σ' ∧ zs = pickL xs (is.take j), hr.mono (le1.trans le), Yk (by rw [Yi]; omega), ⟨rfl, rfl⟩, ⟨?_, ?_⟩, ?_⟩
   · rintro j zs τ ⟨rfl, _⟩; exact (hr.mono (le1.trans le)).src
   · rintro c3 j u zs τ ok3 gl3 k3 k4 hx2 ⟨rfl, rfl⟩
     obtain ⟨r, hr1, rfl⟩ := nats_get hx2
     have hlr : r < xs.length := by rw [hxl]; exact hp.i1 r (List.mem_of_getElem? hr1)
     refine Yt ?_
     k_lt w
     refine SB_list h2' (by omega) (by omega) hu' ?_
     k_lt w
     refine SB_list hll (by omega) (by omega) (getD_get hlr) ?_
     k_lt w
     exact ⟨rfl, (pickL_snoc hr1).symm⟩
   rintro D zs τ ⟨rfl, rfl⟩ hD
   rw [Yi, List.take_length]
   have l3 := Yc (o := .list (pickL xs is)) hD
   have hD3 : (τ.set D (.list (pickL xs is))) D = some (.list (pickL xs is)) := Ya
   have hc3 := hc.mono l3
   generalize τ.set D (.list (pickL xs is)) = σ3 at l3 hD3 hc3 ⊢
   k_lt w
   refine fun t ht => ?_
   refine ⟨(le.trans l3).trans (Yc ht), ?_⟩
   rw [pickC_snoc hp1 hq, List.map_append]
   exact (hc3.mono (Yc ht)).snoc Ya (Yg ht hD3)
 rintro D ys σ' ⟨le, hc⟩ hD
 rw [Yi, List.take_length] at hc
 have le2 := le.trans (Yc (o := .list ys) hD)
 have hc2 := hc.mono (Yc (o := .list ys) hD)
 have hD2 : (σ'.set D (.list ys)) D = some (.list ys) := Ya
 generalize σ'.set D (.list ys) = σ2 at le2 hc2 hD2 ⊢
 k_lt S
 k_lt w
 have h4' := le2 _ _ h4
 k_lt w
 refine R_ex <| X_comp ok' [("marks", .ref rl)] [] (compAt (by k_lt co) (by k_lt cp) (by k_lt gs)) ?_ (hs := fun _ => rfl)
 k_lt w
 refine ⟨sk, nats is, fun j zs τ => τ = σ2 ∧ zs = pickL f.marks (is.take j), hr.mono (le1.trans le2), Yk (by rw [Yi]; omega), ⟨rfl, rfl⟩, ⟨?_, ?_⟩, ?_⟩
 · rintro j zs τ ⟨rfl, _⟩; exact (hr.mono (le1.trans le2)).src
 · rintro c3 j u zs τ ok3 gl3 k3 k4 hx2 ⟨rfl, rfl⟩
   obtain ⟨r, hr1, rfl⟩ := nats_get hx2
   have hlr : r < f.marks.length := hp.i1 r (List.mem_of_getElem? hr1)
   refine Yt ?_
   k_lt w
   refine SB_list h4' (by omega) (by omega) (getD_get hlr) ?_
   k_lt w
   exact ⟨rfl, (pickL_snoc hr1).symm⟩
 rintro D3 zs τ ⟨rfl, rfl⟩ hD3
 rw [Yi, List.take_length]
 have l3 := Yc (o := .list (pickL f.marks is)) hD3
 have hM3 : (τ.set D3 (.list (pickL f.marks is))) D3 = some (.list (pickL f.marks is)) := Ya
 have hc3 := hc2.mono l3
 have hD3' := l3 _ _ hD2
 have le3 := le2.trans l3
 generalize τ.set D3 (.list (pickL f.marks is)) = σ3 at l3 hM3 hc3 hD3' le3 ⊢
 have h5' := le3 _ _ h5
 k_lt w
 refine R_ex <| X_comp ok' [("names", .ref nl)] [] (compAt (by k_lt co) (by k_lt cp) (by k_lt gs)) ?_ (hs := fun _ => rfl)
 k_lt w
 refine ⟨.list jl, nats js, fun j zs τ => τ = σ3 ∧ zs = txs (pickS f.ss (js.take j)), ⟨rfl, (le1.trans le3) _ _ hj⟩, Yk (by rw [Yi]; omega), ⟨rfl, rfl⟩, ⟨?_, ?_⟩, ?_⟩
 · rintro j zs τ ⟨rfl, _⟩; exact (le1.trans le3) _ _ hj
 · rintro c3 j u zs τ ok3 gl3 k3 k4 hx2 ⟨rfl, rfl⟩
   obtain ⟨r, hr1, rfl⟩ := nats_get hx2
   have hlr : r < f.ss.length := hp.j1 r (List.mem_of_getElem? hr1)
   refine Yt ?_
   k_lt w
   refine SB_list h5' (by omega) (by omega) (v := .str f.ss[r]) (by simp [txs, hlr]) ?_
   k_lt w
   exact ⟨rfl, (pickS_snoc hr1 (List.getElem?_eq_getElem hlr)).symm⟩
 rintro D4 zs τ ⟨rfl, rfl⟩ hD4
 rw [Yi, List.take_length]
 have l4 := Yc (o := .list (txs (pickS f.ss js))) hD4
 have hN4 : (τ.set D4 (.list (txs (pickS f.ss js)))) D4 = some (.list (txs (pickS f.ss js))) := Ya
 generalize τ.set D4 (.list (txs (pickS f.ss js))) = σ4 at l4 hN4 ⊢
 k_lt w
 refine fun t ht => ?_
 k_lt w
 have l5 := Yc (o := .tup [.ref D, .str f.kd, .ref D3, .ref D4]) ht
 have l45 := l4.trans l5
 exact h t _ (((le1.trans le3).trans l4).trans l5) ⟨D, D3, D4, ys, Ya, l45 _ _ hD3', hc3.mono l45, l45 _ _ hM3, l5 _ _ hN4⟩
end
section
variable {n : Nat} {c : Cx} {ρ : Loc} {σ : Sig}
theorem C_neL (ok : c.Ok prog w K n) {a b : Addr} {xs : List V} {Q : V → Sig → Prop} (ha : σ a = some (.list xs)) (hb : σ b = some (.list xs)) (hs : ∀ v ∈ xs, scal v = true) (h : Q (.bool false) σ) : CMP prog w c ρ σ .NotEq (.ref a) (.ref b) Q := by
 have hl : (PyData.list (xs.map Dv)).canLay0 = true := by rw [PyData.canLay0]; exact Yl hs
 k_lt w
 refine C_neD ok (Yo ha hs) (Yo hb hs) hl hl (by rw [PyData.depth, depthAll_Dv]; omega) ?_
 k_lt w
 try rw [PySem.SeqAt.eqv_refl _ hl]; exact h
theorem C_neNil (ok : c.Ok prog w K n) {a b : Addr} {ps : List Nat} {Q : V → Sig → Prop} (ha : σ a = some (.list (nats ps))) (hb : σ b = some (.list [])) (h : Q (.bool (!ps.isEmpty)) σ) : CMP prog w c ρ σ .NotEq (.ref a) (.ref b) Q := by
 refine C_neD ok (Yo ha nats_scal) (Yo hb (by simp)) (by rw [PyData.canLay0]; exact Yl nats_scal) rfl (by rw [PyData.depth, depthAll_Dv]; omega) ?_
 have e : PyData.eqv (.list ((nats ps).map Dv)) (.list (([] : List V).map Dv)) = ps.isEmpty := by
  cases ps <;> simp [nats, PyData.eqv, PyData.eqvAll]
 rw [e]; exact h
theorem LF.kd {f : FD} (h : LF f) : f.kd = "integer" ∨ f.kd = "character" := by
 obtain ⟨v, hv⟩ := List.exists_mem_of_length_pos (l := f.marks) (by have := h.h1; omega)
 rcases h.ok.lab v hv with ⟨e, _⟩ | ⟨e, _⟩
 · exact .inr e
 · exact .inl e
theorem LF.pok {f : FD} (h : LF f) : POk f := h.ok.pok h.kd
theorem side_eq {f : FD} {js : List Nat} (hcl : ∀ p ∈ f.cols, p.2.length = f.marks.length) (hjs : ∀ p ∈ js, p < f.cols.length) : f.part (List.range f.marks.length) js = f.side js := by
 unfold FD.part FD.side
 rw [← side_part hcl hjs, pickL_all rfl]
theorem ct_parts_right (hK : KOk K) (ok : c.Ok prog w K n) (hn : 12 ≤ n) {ip x ix jx rl jl : Addr} {f : FD} {is js : List Nat} {ai aj : Bool} {Q : V → Sig → Prop} (hI : Itp K σ ip) (hF : FrmE K σ x f) (hL : LF f)
 (hix : Ix prog w K σ ix f.marks.length (rowTexts f) is ai) (hjx : Ix prog w K σ jx f.ss.length (txs f.ss) js aj) (hr : σ rl = some (.list (nats is))) (hj : σ jl = some (.list (nats js))) (hp : Picks f is js)
 (h : Q (.bool true) σ) : CODE prog w c ρ σ (.ref (gv K "_law_parts_right")) [.ref ip, .ref x, .ref ix, .ref rl, .ref jx, .ref jl] [] Q := by
 have hlj : (nats js).length ≤ 100000 := by rw [Yi]; have := hp.j3; omega
 have hpk := hL.pok
 have hsl := hF.sl
 have hcl := hF.clen
 have hj1 : ∀ p ∈ js, p < f.cols.length := by rw [← hsl]; exact hp.j1
 refine CODE.drop (en_law_parts_right hK ok (by omega) fun c' ok' sc' gl' => ?_)
 k_lt w
 refine Yb (ct_law_plain hK ok' (by omega) hF fun wf σ1 l1 hW => ?_)
 k_lt w
 refine fun t0 ht00 => ?_
 have lt0 : Le σ1 (σ1.set t0 (.tup [.none, .ref x])) := Yc ht00
 have ht0 : (σ1.set t0 (.tup [.none, .ref x])) t0 = some (.tup [.none, .ref x]) := Ya
 generalize σ1.set t0 (.tup [.none, .ref x]) = σ2 at lt0 ht0 ⊢
 k_lt w
 refine fun t1 ht10 => ?_
 have lt1 : Le σ2 (σ2.set t1 (.tup [.none, .ref ix])) := Yc ht10
 have ht1 : (σ2.set t1 (.tup [.none, .ref ix])) t1 = some (.tup [.none, .ref ix]) := Ya
 generalize σ2.set t1 (.tup [.none, .ref ix]) = σ3 at lt1 ht1 ⊢
 k_lt w
 refine fun t2 ht20 => ?_
 have lt2 : Le σ3 (σ3.set t2 (.tup [.none, .ref jx])) := Yc ht20
 have ht2 : (σ3.set t2 (.tup [.none, .ref jx])) t2 = some (.tup [.none, .ref jx]) := Ya
 generalize σ3.set t2 (.tup [.none, .ref jx]) = σ4 at lt2 ht2 ⊢
 k_lt w
 refine fun al hal0 => ?_
 have lal : Le σ4 (σ4.set al (.list [.ref t0, .ref t1, .ref t2])) := Yc hal0
 have hal : (σ4.set al (.list [.ref t0, .ref t1, .ref t2])) al = some (.list [.ref t0, .ref t1, .ref t2]) := Ya
 generalize σ4.set al (.list [.ref t0, .ref t1, .ref t2]) = σ5 at lal hal ⊢
 k_lt w
 refine Yb (ct_flag hK ok' (by omega) (b := false) fun fx fl σ6 l6 hfx => ?_)
 k_lt w
 refine fun t3 ht30 => ?_
 have lt3 : Le σ6 (σ6.set t3 (.tup [.str "drop", .ref fx])) := Yc ht30
 have ht3 : (σ6.set t3 (.tup [.str "drop", .ref fx])) t3 = some (.tup [.str "drop", .ref fx]) := Ya
 generalize σ6.set t3 (.tup [.str "drop", .ref fx]) = σ7 at lt3 ht3 ⊢
 k_lt w
 refine fun bl hbl0 => ?_
 have lbl : Le σ7 (σ7.set bl (.list [.ref t3])) := Yc hbl0
 have hbl : (σ7.set bl (.list [.ref t3])) bl = some (.list [.ref t3]) := Ya
 generalize σ7.set bl (.list [.ref t3]) = σ8 at lbl hbl ⊢
 have hal8 := (by k_lt le : Le σ5 σ8) _ _ hal
 k_lt w
 refine B_cat ok' hal8 hbl (by simp) fun cl hcl0 => ?_
 have lcl : Le σ8 (σ8.set cl (.list [.ref t0, .ref t1, .ref t2, .ref t3])) := Yc hcl0
 have hclx : (σ8.set cl (.list [.ref t0, .ref t1, .ref t2, .ref t3])) cl = some (.list [.ref t0, .ref t1, .ref t2, .ref t3]) := Ya
 show RUN _ _ _ _ _ (σ8.set cl (.list [.ref t0, .ref t1, .ref t2, .ref t3]))
 generalize σ8.set cl (.list [.ref t0, .ref t1, .ref t2, .ref t3]) = σ9 at lcl hclx ⊢
 k_lt w
 refine Yb (ct_bsub_keep hK ok' (by omega) (hF.mono (by k_lt le)) hL.ok hp (hix.mono (by k_lt le)) (hjx.mono (by k_lt le)) hclx ((by k_lt le : Le σ2 σ9) _ _ ht0) ((by k_lt le : Le σ3 σ9) _ _ ht1) ((by k_lt le : Le σ4 σ9) _ _ ht2) ((by k_lt le : Le σ7 σ9) _ _ ht3) (hfx.mono (by k_lt le)) fun kp σ10 l10 hkp => ?_)
 k_lt w
 refine Yb (ct_law_plain hK ok' (by omega) hkp fun p1 σ11 l11 hP1 => ?_)
 k_lt w
 refine Yb (ct_law_taken hK ok' (by omega) (sk := .list rl) (hF.mono (by k_lt le)) ⟨rfl, (by k_lt le : Le σ σ11) _ _ hr⟩ ((by k_lt le : Le σ σ11) _ _ hj) hp fun p2 σ12 l12 hP2 => ?_)
 k_lt w
 refine C_nePlain ok' (hP1.mono (by k_lt le)) hP2 (hpk.part is hj1) ?_
 have hj12 := (by k_lt le : Le σ σ12) _ _ hj
 k_lt v
 -- the single column
 refine R_st <| ST.mono (Q := fun o ρ' σ' => o = .next ∧ (∃ av, ρ' = ([("interp", some (.ref ip)), ("df", some (.ref x)), ("ix", some (.ref ix)), ("rows", some (.ref rl)), ("jx", some (.ref jx)), ("columns", some (.ref jl)), ("whole_frame", some (.ref wf)), ("args", some (.ref al)), ("kept", some (.ref kp)), ("alone", av), ("back", none), ("side", none), ("again", none)] : List (Str × Option V))) ∧ Le σ12 σ') ?_ ?_
 · by_cases hone : js.length = 1
   · have e1 : decide (((nats js).length : Int) = 1) = true := by rw [Yi]; exact decide_eq_true (by omega)
     obtain ⟨j, rfl⟩ : ∃ j, js = [j] := by
      exact List.length_eq_one_iff.mp hone
     have hjlt := hj1 j List.mem_cons_self
     have hq : f.cols[j]? = some f.cols[j] := List.getElem?_eq_getElem hjlt
     generalize f.cols[j] = q at hq
     obtain ⟨k, xs⟩ := q
     have hkn := hL.ok.kn _ (List.mem_of_getElem? hq)
     have hxs := hL.ok.sc _ (List.mem_of_getElem? hq)
     have hal12 := (by k_lt le : Le σ5 σ12) _ _ hal
     k_lt w
     refine Yb (ct_bsub_one hK ok' (by omega) (hF.mono (by k_lt le)) hL.ok hp (hix.mono (by k_lt le)) (hjx.mono (by k_lt le)) hq hal12 ((by k_lt le : Le σ2 σ12) _ _ ht0) ((by k_lt le : Le σ3 σ12) _ _ ht1) ((by k_lt le : Le σ4 σ12) _ _ ht2) fun y k' l' xs' a' σ13 l13 hy hb' hab => ?_)
     k_lt v
     have hF13 := hF.mono (by k_lt le : Le σ σ13)
     obtain ⟨lx, ax, nx, nlx, cx, clx, rx, rlx, vs, hF0⟩ := hF13
     have hs := hF0.self
     have hvs := hF0.cs.len
     have hgv : vs[j]? = some vs[j] := List.getElem?_eq_getElem (by omega)
     refine (ex4 fun z lz kz xz => an3 fun hz hqz hvz => ?_) (hF0.cs.get hgv)
     rw [hq] at hqz; cases hqz
     have hgz : vs[((j : Nat) : Int).toNat]? = some (.ref z) := by rw [← hz]; exact hgv
     have hwi := hF0.wide
     have hj13 : σ13 jl = some (.list [.int (j : Nat)]) := (by k_lt le : Le σ σ13) _ _ hj
     have hix13 := hix.mono (by k_lt le : Le σ σ13)
     refine R_ifF (τ := σ13) ?_ fun σ14 l14 => ?_
     · k_lt w
       refine SB_list hs.list (by omega) (by omega) hgz ?_
       k_lt w
       cases hix13 with
       | vec g1 g2 g3 =>
        obtain ⟨rfl, rfl⟩ := hab rfl
        have e2 : decide (k' ≠ k') = false := by simp
        k_lt w
        exact ⟨rfl, Le.refl⟩
       | miss g1 g2 =>
        by_cases hk : k' = k
        · have e2 : decide (k' ≠ k) = false := by simp [hk]
          k_lt w
          exact ⟨rfl, Le.refl⟩
        · have e2 : decide (k' ≠ k) = true := by simp [hk]
          k_lt w
          exact ⟨rfl, Le.refl⟩
     k_lt v
     have hix14 := hix13.mono l14
     have hy14 := hy.mono l14
     have hkp14 := hkp.mono (by k_lt le : Le σ10 σ14)
     obtain ⟨lk, ak, nk, nlk, ck, clk, rk, rlk, vk, hFk⟩ := hkp14
     have hks := hFk.self
     refine R_ifF (τ := σ14) ?_ fun σ15 l15 => ?_
     · k_lt w
       cases hix14 with
       | miss g1 g2 =>
        k_lt w
        exact ⟨rfl, Le.refl⟩
       | vec g1 g2 g3 =>
        obtain ⟨rfl, rfl⟩ := hab rfl
        have hck : (f.part is [j]).cols = [(k', pickL xs is)] := by simp [FD.part, pickC, List.getD_eq_getElem?_getD, hq]
        have hcsk := hFk.cs
        rw [hck] at hcsk
        cases hcsk with
        | cons hv1 hnil =>
         cases hnil
         rcases g2 with rfl | rfl | rfl
         all_goals
          k_lt w
          refine SB_list hks.list (by omega) (by omega) rfl ?_
          k_lt w
          refine C_neL ok' hy14.list hv1.list (pickL_scal hxs) ?_
          k_lt w
          exact ⟨rfl, Le.refl⟩
     k_lt w
     exact ⟨rfl, ⟨_, rfl⟩, by k_lt le⟩
   · have e1 : decide (((nats js).length : Int) = 1) = false := by rw [Yi]; exact decide_eq_false (by omega)
     k_lt w
     exact ⟨rfl, ⟨_, rfl⟩, Le.refl⟩
 refine fun o ρ' σ16 => an3 ?_; rintro rfl ⟨av, rfl⟩; intro l16
 k_lt w
 refine fun t4 ht40 => ?_
 have lt4 : Le σ16 (σ16.set t4 (.tup [.str "value", .ref kp])) := Yc ht40
 have ht4 : (σ16.set t4 (.tup [.str "value", .ref kp])) t4 = some (.tup [.str "value", .ref kp]) := Ya
 generalize σ16.set t4 (.tup [.str "value", .ref kp]) = σ17 at lt4 ht4 ⊢
 k_lt w
 refine fun dl hdl0 => ?_
 have ldl : Le σ17 (σ17.set dl (.list [.ref t4])) := Yc hdl0
 have hdl : (σ17.set dl (.list [.ref t4])) dl = some (.list [.ref t4]) := Ya
 generalize σ17.set dl (.list [.ref t4]) = σ18 at ldl hdl ⊢
 have hal18 := (by k_lt le : Le σ5 σ18) _ _ hal
 k_lt w
 refine B_cat ok' hal18 hdl (by simp) fun el hel0 => ?_
 have lel : Le σ18 (σ18.set el (.list [.ref t0, .ref t1, .ref t2, .ref t4])) := Yc hel0
 have hel : (σ18.set el (.list [.ref t0, .ref t1, .ref t2, .ref t4])) el = some (.list [.ref t0, .ref t1, .ref t2, .ref t4]) := Ya
 show RUN _ _ _ _ _ (σ18.set el (.list [.ref t0, .ref t1, .ref t2, .ref t4]))
 generalize σ18.set el (.list [.ref t0, .ref t1, .ref t2, .ref t4]) = σ19 at lel hel ⊢
 k_lt w
 refine Yb (ct_bset_two hK ok' (by omega) (hI.mono (by k_lt le)) (hF.mono (by k_lt le)) hL.ok hp (hix.mono (by k_lt le)) (hjx.mono (by k_lt le)) (hkp.mono (by k_lt le)) hel ((by k_lt le : Le σ2 σ19) _ _ ht0) ((by k_lt le : Le σ3 σ19) _ _ ht1) ((by k_lt le : Le σ4 σ19) _ _ ht2) ((by k_lt le : Le σ17 σ19) _ _ ht4) fun bk σ20 l20 hbk => ?_)
 k_lt v
 have hr20 := (by k_lt le : Le σ σ20) _ _ hr
 have hj20 := (by k_lt le : Le σ σ20) _ _ hj
 have hW20 := hW.mono (by k_lt le : Le σ1 σ20)
 refine R_ifF (τ := σ20) ?_ fun σ21 l21 => ?_
 · k_lt w
   refine fun n1 hn1 => ?_
   have l1a := Yc (o := .list []) hn1
   k_lt w
   refine C_neNil ok' (l1a _ _ hr20) Ya ?_
   have hj21 := l1a _ _ hj20
   have hW21 := hW20.mono l1a
   have hbk21 := hbk.mono l1a
   generalize σ20.set n1 (.list []) = σ20a at l1a hj21 hW21 hbk21 ⊢
   k_lt w
   refine R_B (fun hb1 => ?_) fun hb1 => ?_
   · k_lt w
     refine fun n2 hn2 => ?_
     have l2a := Yc (o := .list []) hn2
     k_lt w
     refine C_neNil ok' (l2a _ _ hj21) Ya ?_
     have hW22 := hW21.mono l2a
     have hbk22 := hbk21.mono l2a
     generalize σ20a.set n2 (.list []) = σ20b at l2a hW22 hbk22 ⊢
     k_lt w
     refine R_B (fun hb2 => ?_) fun hb2 => ?_
     · k_lt w
       refine Yb (ct_law_plain hK ok' (by omega) hbk22 fun p3 σ20c l3a hP3 => ?_)
       k_lt w
       refine C_nePlain ok' hP3 (hW22.mono l3a) hpk ?_
       k_lt w
       exact ⟨rfl, by k_lt le⟩
     · k_lt w
       exact ⟨rfl, by k_lt le⟩
   · k_lt w
     exact ⟨rfl, by k_lt le⟩
 k_lt w
 refine fun t5 ht50 => ?_
 have lt5 : Le σ21 (σ21.set t5 (.tup [.none, .ref x])) := Yc ht50
 have ht5 : (σ21.set t5 (.tup [.none, .ref x])) t5 = some (.tup [.none, .ref x]) := Ya
 generalize σ21.set t5 (.tup [.none, .ref x]) = σ22 at lt5 ht5 ⊢
 k_lt w
 refine fun t6 ht60 => ?_
 have lt6 : Le σ22 (σ22.set t6 (.tup [.none, .ref jx])) := Yc ht60
 have ht6 : (σ22.set t6 (.tup [.none, .ref jx])) t6 = some (.tup [.none, .ref jx]) := Ya
 generalize σ22.set t6 (.tup [.none, .ref jx]) = σ23 at lt6 ht6 ⊢
 k_lt w
 refine fun gl1 hgl10 => ?_
 have lgl1 : Le σ23 (σ23.set gl1 (.list [.ref t5, .ref t6])) := Yc hgl10
 have hgl1 : (σ23.set gl1 (.list [.ref t5, .ref t6])) gl1 = some (.list [.ref t5, .ref t6]) := Ya
 generalize σ23.set gl1 (.list [.ref t5, .ref t6]) = σ24 at lgl1 hgl1 ⊢
 k_lt w
 refine Yb (ct_bsub_side hK ok' (by omega) (hF.mono (by k_lt le)) hL.ok hp.j1 hp.j2 hp.j3 (hjx.mono (by k_lt le)) hgl1 ((by k_lt le : Le σ22 σ24) _ _ ht5) ((by k_lt le : Le σ23 σ24) _ _ ht6) fun sd σ25 l25 hsd => ?_)
 k_lt v
 have hjx25 := hjx.mono (by k_lt le : Le σ σ25)
 have hj25 := (by k_lt le : Le σ σ25) _ _ hj
 obtain ⟨wcl, wrl, wnl, wus, hw1, hw2, hw3, hw4, hw5⟩ := hW.mono (by k_lt le : Le σ1 σ25)
 have hhi := hF.high
 have hml : f.marks.length ≤ 100000 := by omega
 refine R_ifF (τ := σ25) ?_ fun σ26 l26 => ?_
 · k_lt w
   cases hjx25 with
   | miss g1 g2 =>
    k_lt w
    exact ⟨rfl, Le.refl⟩
   | vec g1 g2 g3 =>
    rcases g2 with rfl | rfl | rfl
    all_goals
     k_lt w
     refine Yb (ct_law_plain hK ok' (by omega) hsd fun p4 σ25a l25a hP4 => ?_)
     have hw1a := l25a _ _ hw1
     have hw4a := l25a _ _ hw4
     k_lt w
     refine R_one ok' fun rg hrg => ?_
     have l25b := Yc (o := .rng 0 f.marks.length) hrg
     have hrg1 : (σ25a.set rg (.rng 0 f.marks.length)) rg = some (.rng 0 f.marks.length) := Ya
     have hP4b := hP4.mono l25b
     have hj25b := l25b _ _ (l25a _ _ hj25)
     have hF25b := (hF.mono (by k_lt le : Le σ σ25a)).mono l25b
     generalize σ25a.set rg (.rng 0 f.marks.length) = σ25b at l25b hrg1 hP4b hj25b hF25b ⊢
     k_lt w
     refine Yb (ct_law_taken hK ok' (by omega) (sk := .rng 0 f.marks.length) (is := List.range f.marks.length) hF25b (by rw [← span_nats]; exact Yr hrg1 hml) hj25b ⟨fun p hp => List.mem_range.mp hp, hp.j1, List.nodup_range, hp.j2, by rw [List.length_range]; exact hhi, hp.j3⟩ fun p5 σ25c l25c hP5 => ?_)
     k_lt w
     try rw [side_eq hcl hj1] at hP5
     k_lt w
     refine C_nePlain ok' (hP4b.mono l25c) hP5 (by rw [← side_eq hcl hj1]; exact hpk.part _ hj1) ?_
     k_lt w
     exact ⟨rfl, by k_lt le⟩
 k_lt v
 have hj26 := l26 _ _ hj25
 refine R_st <| ST.mono (Q := fun o ρ' σ' => o = .next ∧ (∃ av2, ρ' = ([("interp", some (.ref ip)), ("df", some (.ref x)), ("ix", some (.ref ix)), ("rows", some (.ref rl)), ("jx", some (.ref jx)), ("columns", some (.ref jl)), ("whole_frame", some (.ref wf)), ("args", some (.ref al)), ("kept", some (.ref kp)), ("alone", av), ("back", some (.ref bk)), ("side", some (.ref sd)), ("again", av2)] : List (Str × Option V))) ∧ Le σ26 σ') ?_ ?_
 · k_lt w
   refine fun n3 hn3 => ?_
   have l3a := Yc (o := .list []) hn3
   k_lt w
   refine C_neNil ok' (l3a _ _ hj26) Ya ?_
   generalize σ26.set n3 (.list []) = σ27 at l3a ⊢
   k_lt w
   refine R_B (fun hb => ?_) fun hb => ?_
   · k_lt w
     refine fun t7 ht70 => ?_
     have lt7 : Le σ27 (σ27.set t7 (.tup [.none, .ref x])) := Yc ht70
     have ht7 : (σ27.set t7 (.tup [.none, .ref x])) t7 = some (.tup [.none, .ref x]) := Ya
     generalize σ27.set t7 (.tup [.none, .ref x]) = σ28 at lt7 ht7 ⊢
     k_lt w
     refine fun t8 ht80 => ?_
     have lt8 : Le σ28 (σ28.set t8 (.tup [.none, .ref jx])) := Yc ht80
     have ht8 : (σ28.set t8 (.tup [.none, .ref jx])) t8 = some (.tup [.none, .ref jx]) := Ya
     generalize σ28.set t8 (.tup [.none, .ref jx]) = σ29 at lt8 ht8 ⊢
     k_lt w
     refine fun t9 ht90 => ?_
     have lt9 : Le σ29 (σ29.set t9 (.tup [.str "value", .ref sd])) := Yc ht90
     have ht9 : (σ29.set t9 (.tup [.str "value", .ref sd])) t9 = some (.tup [.str "value", .ref sd]) := Ya
     generalize σ29.set t9 (.tup [.str "value", .ref sd]) = σ30 at lt9 ht9 ⊢
     k_lt w
     refine fun hl hhl0 => ?_
     have lhl : Le σ30 (σ30.set hl (.list [.ref t7, .ref t8, .ref t9])) := Yc hhl0
     have hhl : (σ30.set hl (.list [.ref t7, .ref t8, .ref t9])) hl = some (.list [.ref t7, .ref t8, .ref t9]) := Ya
     generalize σ30.set hl (.list [.ref t7, .ref t8, .ref t9]) = σ31 at lhl hhl ⊢
     k_lt w
     refine Yb (ct_bset_side hK ok' (by omega) (hI.mono (by k_lt le)) (hF.mono (by k_lt le)) hL.ok hp.j1 hp.j2 hp.j3 (hjx.mono (by k_lt le)) (hsd.mono (by k_lt le)) hhl ((by k_lt le : Le σ28 σ31) _ _ ht7) ((by k_lt le : Le σ29 σ31) _ _ ht8) ((by k_lt le : Le σ30 σ31) _ _ ht9) fun ag σ32 l32 hag => ?_)
     k_lt w
     refine Yb (ct_law_plain hK ok' (by omega) hag fun p6 σ33 l33 hP6 => ?_)
     k_lt w
     refine C_nePlain ok' hP6 (hW.mono (by k_lt le)) hpk ?_
     k_lt w
     exact ⟨rfl, ⟨_, rfl⟩, by k_lt le⟩
   · k_lt w
     exact ⟨rfl, ⟨_, rfl⟩, by k_lt le⟩
 refine fun o ρ' σ34 => an3 ?_; rintro rfl ⟨av2, rfl⟩; intro l34
 k_lt w
 refine Yb (ct_law_plain hK ok' (by omega) (hF.mono (by k_lt le)) fun p7 σ35 l35 hP7 => ?_)
 k_lt w
 refine C_eqPlain ok' hP7 (hW.mono (by k_lt le)) hpk ?_
 k_lt w
 exact ⟨σ, by k_lt le, h⟩
end
section
variable {n : Nat} {c : Cx} {ρ : Loc} {σ : Sig}
noncomputable def cnt (fl : List Bool) (r : Nat) : Nat := ((List.range r).filter fun i => fl.getD i false).length
theorem cnt_succ {fl : List Bool} {r : Nat} : cnt fl (r + 1) = cnt fl r + (if fl.getD r false = true then 1 else 0) := by
 unfold cnt
 rw [List.range_succ, List.filter_append, List.length_append]
 cases h : fl.getD r false with
 | true => rw [List.filter_cons, if_pos h]; rfl
 | false => rw [List.filter_cons, if_neg (by rw [h]; simp)]; rfl
theorem cnt_all {fl : List Bool} : cnt fl fl.length = (trues fl).length := rfl
theorem trues_at {fl : List Bool} {r : Nat} (hr : r < fl.length) (h : fl.getD r false = true) : (trues fl).getD (cnt fl r) 0 = r ∧ cnt fl r < (trues fl).length := by
 have e : List.range fl.length = List.range r ++ (List.range' r (fl.length - r)) := by
  rw [List.range_eq_range', List.range_eq_range']
  have := List.range'_append (s := 0) (m := r) (n := fl.length - r) (step := 1)
  simp only [Nat.zero_add, Nat.one_mul] at this
  rw [this]
  congr 1; omega
 have e2 : List.range' r (fl.length - r) = r :: List.range' (r + 1) (fl.length - r - 1) := by
  rw [show fl.length - r = (fl.length - r - 1) + 1 by omega, List.range'_succ]
  congr 1
 have e3 : trues fl = ((List.range r).filter fun i => fl.getD i false) ++ (r :: ((List.range' (r + 1) (fl.length - r - 1)).filter fun i => fl.getD i false)) := by
  unfold trues
  rw [e, List.filter_append, e2, List.filter_cons, if_pos h]
 rw [e3]
 refine ⟨?_, ?_⟩
 · rw [List.getD_eq_getElem?_getD]
   unfold cnt
   rw [List.getElem?_append_right (Nat.le_refl _)]
   simp
 · rw [List.length_append]; unfold cnt; simp
theorem flagCol_getD {ts : List Bool} {high c r : Nat} (hr : r < high) : (Ys ts high c).getD r false = ts.getD (c * high + r) false := by
 unfold Ys
 rw [List.getD_eq_getElem?_getD, List.getD_eq_getElem?_getD, List.getElem?_take_of_lt hr, List.getElem?_drop]
noncomputable def spares (m : Nat) : List V := (List.range m).map fun a => V.int (70 + (a : Nat))
theorem spares_len {m : Nat} : (spares m).length = m := by simp [spares]
theorem spares_small {m : Nat} (h : m ≤ 3) : ∀ v ∈ spares m, smallInt v := by
 intro v hv
 obtain ⟨a, ha, rfl⟩ := List.mem_map.mp hv
 have := List.mem_range.mp ha
 exact jv1 _ rfl (by omega)
theorem spare_txt (a : Nat) (h : a < 3) : PyData.strOk (Str.ofString (toString ((70 : Int) + (a : Nat)))) = true := by
 have : a = 0 ∨ a = 1 ∨ a = 2 := by omega
 rcases this with rfl | rfl | rfl <;> decide +kernel
theorem putN_mem {xs ys : List V} {ps : List Nat} {P : V → Prop} (hx : ∀ v ∈ xs, P v) (hy : ∀ v ∈ ys, P v) (h0 : ys ≠ [] ∨ ps = []) : ∀ i, i ≤ ps.length → ∀ v ∈ putN xs ps ys i, P v
 | 0, _, v, hv => hx v hv
 | i + 1, hi, v, hv => by
  rw [putN_succ] at hv
  rcases List.mem_or_eq_of_mem_set hv with hv | rfl
  · exact putN_mem hx hy h0 i (by omega) v hv
  · have hl : 0 < ys.length := by
     rcases h0 with h0 | h0
     · exact List.length_pos_iff.mpr h0
     · subst h0; simp at hi
    have := Nat.mod_lt i hl
    rw [List.getD_eq_getElem?_getD, List.getElem?_eq_getElem this]
    exact hy _ (List.getElem_mem this)
noncomputable def conv (k : Str) (sp : List V) (u m : Nat) : List V := if k = "integer" then spareAt sp u m else (spareAt sp u m).map (lab "integer")
theorem spareAt_get {sp : List V} {u m i : Nat} (h : i < m) : (spareAt sp u m)[i]? = some (sp.getD ((u + i) % sp.length) .none) := by
 unfold spareAt; rw [List.getElem?_map, List.getElem?_range h]; rfl
theorem conv_len {k : Str} {sp : List V} {u m : Nat} : (conv k sp u m).length = m := by unfold conv spareAt; split <;> simp
theorem conv_at {k : Str} {m u w i : Nat} (h : i < m) (hw : 1 ≤ w) (hk : k = "integer" ∨ k = "character") : ∃ a, a < w ∧ (u + i) % w = a ∧ (conv k (spares w) u m).getD (i % (conv k (spares w) u m).length) .none = if k = "character" then .str (Str.ofString (toString ((70 : Int) + (a : Nat)))) else .int (70 + (a : Nat)) := by
 have hlt : (u + i) % w < w := Nat.mod_lt _ hw
 refine ⟨(u + i) % w, hlt, rfl, ?_⟩
 rw [conv_len, Nat.mod_eq_of_lt h, List.getD_eq_getElem?_getD]
 have hs : (spares w).getD ((u + i) % (spares w).length) .none = .int (70 + (((u + i) % w : Nat))) := by
  rw [spares_len, List.getD_eq_getElem?_getD]; unfold spares
  rw [List.getElem?_map, List.getElem?_range hlt]; rfl
 unfold conv
 rcases hk with rfl | rfl
 · rw [if_pos rfl, spareAt_get h, hs, if_neg (by decide +kernel)]; rfl
 · rw [if_neg (by decide +kernel), List.getElem?_map, spareAt_get h, hs, if_pos rfl]
   simp [lab]
theorem conv_scal {k : Str} {m u w : Nat} (hw : 1 ≤ w) (hw3 : w ≤ 3) (hk : k = "integer" ∨ k = "character") : ∀ v ∈ conv k (spares w) u m, scal v = true := by
 intro v hv
 obtain ⟨i, hi, e⟩ := List.mem_iff_getElem.mp hv
 rw [conv_len] at hi
 refine (ex1 fun a => an3 fun ha _ hc => ?_) (conv_at (u := u) hi hw hk)
 rw [conv_len, Nat.mod_eq_of_lt hi, List.getD_eq_getElem?_getD, List.getElem?_eq_getElem (by rw [conv_len]; exact hi)] at hc
 rw [← e]
 have hc' : (conv k (spares w) u m)[i] = if k = "character" then .str (Str.ofString (toString ((70 : Int) + (a : Nat)))) else .int (70 + (a : Nat)) := hc
 rw [hc']
 split
 · exact spare_txt a (by omega)
 · rfl
theorem setItems_conv {k : Str} {xs sp : List V} {fl : List Bool} {u : Nat} : setItems k xs sp fl u = putN xs (trues fl) (conv k sp u (trues fl).length) (trues fl).length := rfl
theorem putN_step {xs zs : List V} {fl : List Bool} {r : Nat} (hr : r < fl.length) (h : fl.getD r false = true) : (putN xs (trues fl) zs (cnt fl r)).set r (zs.getD (cnt fl r % zs.length) .none) = putN xs (trues fl) zs (cnt fl (r + 1)) := by
 rw [cnt_succ, if_pos h, putN_succ, (trues_at hr h).1]
theorem newVec_del0 {a x d : Addr} {k l' at' : V} (ha : σ a ≠ none) (f : Fresh2 σ x d) : (Yj K σ x d k l' at').del a = Yj K (σ.del a) x d k l' at' ∧ Fresh2 (σ.del a) x d := by
 have n2 : a ≠ x := by rintro rfl; exact ha f.fx
 have n3 : a ≠ d := by rintro rfl; exact ha f.fd
 refine ⟨?_, ⟨by rw [Ye (Ne.symm n2)]; exact f.fx, by rw [Ye (Ne.symm n3)]; exact f.fd, f.ne⟩⟩
 unfold Yj
 rw [set_del_comm (Ne.symm n2), set_del_comm (Ne.symm n3)]
end
section
variable {n : Nat} {c : Cx} {ρ : Loc} {σ : Sig}
theorem CALL.lose {f : V} {xs : List V} {kw : List (Str × V)} {τ : Sig} {Q : V → Sig → Prop} (le : Le τ σ) (h : CALL prog w c ρ τ f xs kw Q) : CALL prog w c ρ σ f xs kw Q := fun g vs kv h1 h2 h3 s F => h g vs kv h1 h2 h3 s (F.drop le)
theorem ct_flags_right (hK : KOk K) (ok : c.Ok prog w K n) (hn : 12 ≤ n) {ip ml cl x : Addr} {b : Nat} {f : FD} {Q : V → Sig → Prop} (hM : Mill σ ml cl b) (hb : b ≤ 10000) (hI : Itp K (σ.del ml) ip) (hF : FrmE K (σ.del ml) x f) (hL : LF f)
 (h : ∀ σ', Le (σ.del ml) σ' → Q (.bool true) σ') : CODE prog w c ρ σ (.ref (gv K "_law_flags_right")) [.ref ip, .ref ml, .ref x, .int f.marks.length, .int f.cols.length] [] Q := by
 have hpk := hL.pok
 have h1 := hL.h1; have h4 := hL.h4; have w1 := hL.w1; have w3 := hL.w3
 have hcl := hL.cl
 generalize hhigh : f.marks.length = high at *
 generalize hwide : f.cols.length = wide at *
 have hprod : high * wide ≤ 12 := by
  have : high * wide ≤ 4 * 3 := Nat.mul_le_mul h4 w3
  omega
 refine en_law_flags_right hK ok (by omega) fun c' ok' sc' gl' => ?_
 k_lt C
 refine R_st <| S_assign_comp ok' [("mill", .ref ml)] [("_law_grain", .ref (gv K "_law_grain"))] (compAt (by k_lt co) (by k_lt cp) (by k_lt gs)) ?_ (swapsT ok' sc' (by decide +kernel)) (hs := fun _ => rfl)
 k_lt w
 refine B_mul (mulN (by omega)) ?_
 k_lt w
 try rw [show ((high : Nat) : Int) * (wide : Nat) = ((high * wide : Nat) : Int) by push_cast; rfl]
 generalize hpr : high * wide = pr at hprod
 k_lt w
 refine R_one ok' fun rg hrg => ?_
 have mo1 := (MO.refl (σ := σ)).le (ml := ml) (Yc (o := .rng 0 pr) hrg)
 have hM1 := hM.mono (Yc (o := .rng 0 pr) hrg)
 have hr1 : (σ.set rg (.rng 0 pr)) rg = some (.rng 0 pr) := Ya
 generalize σ.set rg (.rng 0 pr) = σ1 at mo1 hM1 hr1 ⊢
 refine ⟨.rng 0 pr, spanZ 0 pr, fun j ys τ => MO σ τ ml ∧ Mill τ ml cl (b + j) ∧ ∃ ts : List Bool, ys = Yp ts ∧ ts.length = j, Yr hr1 (by omega), Yk (by rw [Yf]; omega), ⟨mo1, hM1, [], rfl, rfl⟩, ⟨?_, ?_⟩, ?_⟩
 · rintro j ys τ _; rfl
 · refine fun c2 j u ys τ ok2 gl2 k1 k2 hx => an3 fun mo hMj => ex1 fun ts => ?_; rintro ⟨rfl, hts⟩
   obtain ⟨hj, rfl⟩ := Yn hx
   refine Yt ?_
   k_lt w
   refine Yb (ct_grain hK ok2 (by omega) hMj (by omega) (by omega) fun r2 σ4 hr2 mo4 hM4 => ?_)
   rcases (by omega : r2 = 0 ∨ r2 = 1) with rfl | rfl
   · k_lt w
     exact ⟨mo.trans mo4, hM4, ts ++ [false], by simp [Yp], by simp [hts]⟩
   · k_lt w
     exact ⟨mo.trans mo4, hM4, ts ++ [true], by simp [Yp], by simp [hts]⟩
 refine fun tl ys τ => an3 fun mo hMm => ex1 fun ts => ?_; rintro ⟨rfl, hts⟩; intro htl
 rw [Yf] at hMm hts
 have htm : tl ≠ ml := by rintro rfl; exact hMm.nn htl
 have mo2 := mo.le (Yc (o := .list (Yp ts)) htl)
 have hM2 := hMm.mono (Yc (o := .list (Yp ts)) htl)
 have ht2 : (τ.set tl (.list (Yp ts))) tl = some (.list (Yp ts)) := Ya
 generalize τ.set tl (.list (Yp ts)) = σ2 at mo2 hM2 ht2 ⊢
 k_lt S
 have ht2d : (σ2.del ml) tl = some (.list (Yp ts)) := by rw [Ye htm]; exact ht2
 k_lt w
 refine R_ex <| X_dict ok' [("dim", _, _)] rfl rfl (by simp) (by simp) (by simp only [List.map_cons, List.map_nil]; decide +kernel) (fun c2 S2 ok2 => ?_) (by rfl)
 have gl2 := S2.gl.trans gl'
 k_lt w
 refine fun dl hdl => ?_
 have mo3 := mo2.le (Yc (o := .list [.int high, .int wide]) hdl)
 have hM3 := hM2.mono (Yc (o := .list [.int high, .int wide]) hdl)
 have ht3 := (Le.del (ml := ml) (Yc (o := .list [.int high, .int wide]) hdl)) _ _ ht2d
 have hdl3 : (σ2.set dl (.list [.int high, .int wide])) dl = some (.list [.int high, .int wide]) := Ya
 generalize σ2.set dl (.list [.int high, .int wide]) = σ3 at mo3 hM3 ht3 hdl3 ⊢
 k_lt w
 refine Yb (ct_integer hK ok2 (by omega) (sk := .list dl) ⟨rfl, hdl3⟩ (by simp) fun dx d l hl fr => ?_)
 refine (an3 fun le4 _ hv4 => ?_) (vec_off (k := "integer") hM3.nn hl fr)
 have mo4 := mo3.le le4
 have hM4 := hM3.mono le4
 have ht4 := (Le.del (ml := ml) le4) _ _ ht3
 generalize Yj K (σ3.set l (.list [.int high, .int wide])) dx d (.str "integer") (.ref l) .none = σ4 at hv4 mo4 hM4 ht4 ⊢
 k_lt w
 intro ma hma
 have hmam : ma ≠ ml := by rintro rfl; exact hM4.nn hma
 have le5 : Le σ4 (σ4.set ma (.dicS [("dim", .ref dx)])) := Yc hma
 have mo5 := mo4.le le5
 have hM5 := hM4.mono le5
 have ht5 := (Le.del (ml := ml) le5) _ _ ht4
 have hv5 := hv4.mono (Le.del (ml := ml) le5)
 have hma5 : ((σ4.set ma (.dicS [("dim", .ref dx)])).del ml) ma = some (.dicS [("dim", .ref dx)]) := by rw [Ye hmam, Ya]
 show RUN _ _ _ _ _ (σ4.set ma (.dicS [("dim", .ref dx)]))
 generalize σ4.set ma (.dicS [("dim", .ref dx)]) = σ5 at le5 mo5 hM5 ht5 hv5 hma5 ⊢
 k_lt w
 refine mk_Vector hK ok' (by omega) fun mx d6 fr6 => ?_
 obtain ⟨e6, fr6d⟩ := newVec_del0 (k := .str "logical") (l' := .ref tl) (at' := .ref ma) hM5.nn fr6
 have le6 := newVec_le (k := .str "logical") (l := .ref tl) (a := .ref ma) fr6
 have mo6 := mo5.le le6
 have hM6 := hM5.mono le6
 have l56 : Le (σ5.del ml) ((Yj K σ5 mx d6 (.str "logical") (.ref tl) (.ref ma)).del ml) := Le.del le6
 have hmv : Vec K ((Yj K σ5 mx d6 (.str "logical") (.ref tl) (.ref ma)).del ml) mx "logical" tl (Yp ts) (.ref ma) := by rw [e6]; exact newVec_vec fr6d ht5
 have hma6 := l56 _ _ hma5
 have hv6 := hv5.mono l56
 have ht6 := l56 _ _ ht5
 generalize Yj K σ5 mx d6 (.str "logical") (.ref tl) (.ref ma) = σ6 at mo6 hM6 hmv hma6 hv6 ht6 ⊢
 k_lt w
 refine R_st <| S_assign_comp ok' [] [] (compAt (by k_lt co) (by k_lt cp) (by k_lt gs)) ?_ (swapsT ok' sc' (by decide +kernel)) (hs := fun _ => rfl)
 k_lt w
 refine Yb (ct_grain hK ok' (by omega) hM6 (by omega) (by omega) fun r7 σ7 hr7 mo7 hM7 => ?_)
 k_lt w
 try rw [show (1 : Int) + (r7 : Nat) = ((r7 + 1 : Nat) : Int) by omega]
 generalize hsw : r7 + 1 = sw
 have hsw1 : 1 ≤ sw := by omega
 have hsw3 : sw ≤ 3 := by omega
 -- the mill is not asked any more
 have hmv7 := hmv.mono mo7
 have hma7 := mo7 _ _ hma6
 have hv7 := hv6.mono mo7
 have ht7 := mo7 _ _ ht6
 have leZ : Le (σ.del ml) (σ7.del ml) := mo6.trans mo7
 refine CALL.lose (τ := σ7.del ml) Le.ofDel ?_
 generalize σ7.del ml = σ7 at hmv7 hma7 hv7 ht7 leZ ⊢
 k_lt w
 refine R_one ok' fun r8 hr8 => ?_
 have l8 : Le σ7 (σ7.set r8 (.rng 0 sw)) := Yc hr8
 have hr8' : (σ7.set r8 (.rng 0 sw)) r8 = some (.rng 0 sw) := Ya
 generalize σ7.set r8 (.rng 0 sw) = σ8 at l8 hr8' ⊢
 refine ⟨.rng 0 sw, spanZ 0 sw, fun j ys τ => τ = σ8 ∧ ys = spares j, Yr hr8' (by omega), Yk (by rw [Yf]; omega), ⟨rfl, rfl⟩, ⟨?_, ?_⟩, ?_⟩
 · rintro j ys τ _; rfl
 · rintro c3 j u zs τ ok3 gl3 k1 k2 hx ⟨rfl, rfl⟩
   obtain ⟨hj, rfl⟩ := Yn hx
   refine Yt ?_
   k_lt w
   exact ⟨rfl, by simp [spares, List.range_succ]⟩
 rintro sl ys τ ⟨rfl, rfl⟩ hsl
 rw [Yf]
 have l9 := Yc (o := .list (spares sw)) hsl
 have hs9 : (τ.set sl (.list (spares sw))) sl = some (.list (spares sw)) := Ya
 generalize τ.set sl (.list (spares sw)) = σ9 at l9 hs9 ⊢
 k_lt S
 k_lt w
 refine fun t0 h0 => ?_
 have l10 : Le σ9 (σ9.set t0 (.tup [.none, .ref x])) := Yc h0
 have ht0 : (σ9.set t0 (.tup [.none, .ref x])) t0 = some (.tup [.none, .ref x]) := Ya
 generalize σ9.set t0 (.tup [.none, .ref x]) = σ10 at l10 ht0 ⊢
 k_lt w
 refine fun t1 h1' => ?_
 have l11 : Le σ10 (σ10.set t1 (.tup [.none, .ref mx])) := Yc h1'
 have ht1 : (σ10.set t1 (.tup [.none, .ref mx])) t1 = some (.tup [.none, .ref mx]) := Ya
 generalize σ10.set t1 (.tup [.none, .ref mx]) = σ11 at l11 ht1 ⊢
 k_lt w
 have hs11 := (by k_lt le : Le σ9 σ11) _ _ hs9
 k_lt w
 refine Yb (ct_integer hK ok' (by omega) (sk := .list sl) ⟨rfl, hs11⟩ (by rw [spares_len]; omega) fun sx d12 l12 hl12 fr12 => ?_)
 obtain ⟨le12, hsv⟩ := Yh (k := "integer") (a := .none) hl12 fr12
 generalize Yj K (σ11.set l12 (.list (spares sw))) sx d12 (.str "integer") (.ref l12) .none = σ12 at le12 hsv ⊢
 k_lt w
 refine fun t2 h2 => ?_
 have l13 : Le σ12 (σ12.set t2 (.tup [.str "value", .ref sx])) := Yc h2
 have ht2' : (σ12.set t2 (.tup [.str "value", .ref sx])) t2 = some (.tup [.str "value", .ref sx]) := Ya
 generalize σ12.set t2 (.tup [.str "value", .ref sx]) = σ13 at l13 ht2' ⊢
 k_lt w
 refine fun al hal => ?_
 have l14 : Le σ13 (σ13.set al (.list [.ref t0, .ref t1, .ref t2])) := Yc hal
 have hal' : (σ13.set al (.list [.ref t0, .ref t1, .ref t2])) al = some (.list [.ref t0, .ref t1, .ref t2]) := Ya
 generalize σ13.set al (.list [.ref t0, .ref t1, .ref t2]) = σ14 at l14 hal' ⊢
 k_lt w
 have hmat : Mat K σ14 mx tl ts f.marks.length f.cols.length := ⟨⟨ma, dx, l, hmv7.mono (by k_lt le), (by k_lt le : Le σ7 σ14) _ _ hma7, by rw [hhigh, hwide]; exact hv7.mono (by k_lt le)⟩⟩
 k_lt w
 refine Yb (ct_bset_flags hK ok' (by omega) (hI.mono (by k_lt le)) (hF.mono (by k_lt le)) hL.ok hmat (by rw [hhigh, hwide, hts, hpr]) (hsv.mono (by k_lt le)) (by intro e; have := congrArg List.length e; rw [spares_len] at this; simp at this; omega) (by rw [spares_len]; omega) (spares_small hsw3) (by rw [hhigh, hwide]; omega) hal' ((by k_lt le : Le σ10 σ14) _ _ ht0) ((by k_lt le : Le σ11 σ14) _ _ ht1) ((by k_lt le : Le σ13 σ14) _ _ ht2') fun y σ15 l15 hy => ?_)
 k_lt w
 try rw [hhigh] at hy
 have hts15 := (by k_lt le : Le σ7 σ15) _ _ ht7
 have hs15 := (by k_lt le : Le σ9 σ15) _ _ hs9
 have leF : Le (σ.del ml) σ15 := by k_lt le
 k_lt w
 have hF15 := hF.mono leF
 obtain ⟨lx, ax, nx, nlx, cx, clx, rx, rlx, vs, hF0⟩ := hF15
 obtain ⟨ly, ay, ny, nly, cy, cly, ry, rly, vy, hG0⟩ := hy
 have hs0 := hF0.self
 have hg0 := hG0.self
 have hvs := hF0.cs.len
 have hvy := hG0.cs.len
 rw [setCols_len] at hvy
 have htl2 : (Yp ts).length ≤ 100000 := by rw [flagsL_len]; omega
 have hsl2 : (spares sw).length ≤ 100000 := by rw [spares_len]; omega
 refine S_for ok' ?_ (hs := fun _ => rfl)
 k_lt w
 refine R_one ok' fun r16 hr16 => ?_
 have l16 : Le σ15 (σ15.set r16 (.rng 0 wide)) := Yc hr16
 have hr16' : (σ15.set r16 (.rng 0 wide)) r16 = some (.rng 0 wide) := Ya
 generalize σ15.set r16 (.rng 0 wide) = σ16 at l16 hr16' ⊢
 refine ⟨.rng 0 wide, spanZ 0 wide, fun i ρ' σ' => ∃ o1 o2 o3 o4 o5, ρ' = ([("interp", some (.ref ip)), ("mill", some (.ref ml)), ("df", some (.ref x)), ("high", some (.int high)), ("wide", some (.int wide)), ("truths", some (.ref tl)), ("matrix_now", some (.ref mx)), ("spare", some (.ref sl)), ("made", some (.ref y)), ("used", some (.int (usedAt ts high i))), ("column", o1), ("old", o2), ("due", o3), ("row", o4), ("fresh", o5)] : List (Str × Option V)) ∧ Le σ16 σ',
  Yr hr16' (by omega), jv5 _ _ _ _ _ rfl Le.refl, ⟨?_, ?_, ?_⟩⟩
 · rintro i ρ' σ' _; rfl
 · intro c2 i u ρ' σ' S2 ok2 hx; apply iv5; intro o1 o2 o3 o4 o5 le
   obtain ⟨hi, rfl⟩ := Yn hx
   have gl2 := S2.gl.trans gl'
   have leC : Le σ15 σ' := by k_lt le
   have hs2 := hs0.mono leC
   have hgv : vs[i]? = some vs[i] := List.getElem?_eq_getElem (by omega)
   refine (ex4 fun z lz k xs => an3 fun hz hq hvz => ?_) ((hF0.cs.mono leC).get hgv)
   have hgz : vs[((i : Nat) : Int).toNat]? = some (.ref z) := by rw [← hz]; exact hgv
   have hxl : xs.length = high := by rw [hcl _ (List.mem_of_getElem? hq)]
   have hkn := hL.ok.kn _ (List.mem_of_getElem? hq)
   have hxs := hL.ok.sc _ (List.mem_of_getElem? hq)
   have hfc : (Ys ts high i).length = high := flagCol_len (wide := wide) (by rw [hts, hpr]) hi
   refine G_name ok2 (by k_lt sv) ?_
   k_lt w
   refine SB_list hs2.list (by omega) (by omega) hgz ?_
   k_lt w
   refine N_list ok2 (k := .list _) ⟨rfl, hvz.list⟩ (by omega) fun dd hdd => ?_
   have l17 : Le σ' (σ'.set dd (.list xs)) := Yc hdd
   have hd17 : (σ'.set dd (.list xs)) dd = some (.list xs) := Ya
   generalize hσ17 : σ'.set dd (.list xs) = σ17 at l17 hd17 ⊢
   k_lt w
   generalize hzz : conv k (spares sw) (usedAt ts high i) (trues (Ys ts high i)).length = zs
   refine S_for ok2 ?_ (hs := fun _ => rfl)
   k_lt w
   refine R_one ok2 fun r18 hr18 => ?_
   have hd18 := (Yc (o := .rng 0 high) hr18) _ _ hd17
   have hr18' : (σ17.set r18 (.rng 0 high)) r18 = some (.rng 0 high) := Ya
   have l18 : Le σ' (σ17.set r18 (.rng 0 high)) := l17.trans (Yc hr18)
   generalize σ17.set r18 (.rng 0 high) = σ18 at hd18 hr18' l18 ⊢
   refine ⟨.rng 0 high, spanZ 0 high, fun r ρ' τ => ∃ o4 o5, ρ' = ([("interp", some (.ref ip)), ("mill", some (.ref ml)), ("df", some (.ref x)), ("high", some (.int high)), ("wide", some (.int wide)), ("truths", some (.ref tl)), ("matrix_now", some (.ref mx)), ("spare", some (.ref sl)), ("made", some (.ref y)), ("used", some (.int ((usedAt ts high i + cnt (Ys ts high i) r : Nat)))), ("column", some (.int i)), ("old", some (.ref z)), ("due", some (.ref dd)), ("row", o4), ("fresh", o5)] : List (Str × Option V)) ∧ Le σ' τ ∧ τ dd = some (.list (putN xs (trues (Ys ts high i)) zs (cnt (Ys ts high i) r))),
    Yr hr18' (by omega), ⟨_, _, by rw [show cnt (Ys ts high i) 0 = 0 from rfl, Nat.add_zero], l18, hd18⟩, ⟨?_, ?_, ?_⟩⟩
   · rintro r ρ' τ _; rfl
   · intro c3 r u ρ' τ S3 ok3 hx2; apply iv2; intro o4 o5; rintro ⟨lt, hdt⟩
     obtain ⟨hr, rfl⟩ := Yn hx2
     have gl3 := S3.gl.trans gl2
     have htt := (by k_lt le : Le σ15 τ) _ _ hts15
     have hst := (by k_lt le : Le σ15 τ) _ _ hs15
     have hvt := hvz.mono lt
     have hidx : i * high + r < ts.length := by
      rw [hts, ← hpr, Nat.mul_comm high wide]
      have : (i + 1) * high ≤ wide * high := Nat.mul_le_mul_right high hi
      rw [Nat.add_mul, Nat.one_mul] at this
      omega
     have hih : i * high ≤ 100 := by
      have : i * high ≤ 3 * 4 := Nat.mul_le_mul (by omega) h4
      omega
     refine G_name ok3 (by k_lt sv) ?_
     k_lt w
     refine B_mul (mulN (by omega)) ?_
     k_lt w
     try rw [show ((i : Nat) : Int) * (high : Nat) + (r : Nat) = ((i * high + r : Nat) : Int) by push_cast; rfl]
     have hfg := flagCol_getD (ts := ts) (c := i) hr
     k_lt w
     refine SB_list htt (by omega) (by omega) (v := .int (if (Ys ts high i).getD r false then 1 else 0)) (by rw [hfg, show ((i * high + r : Nat) : Int).toNat = i * high + r from Int.toNat_natCast _]; simp [Yp, List.getD, hidx]) ?_
     cases hfb : (Ys ts high i).getD r false with
     | false =>
      simp only [Bool.false_eq_true, if_false]
      k_lt w
      try rw [cnt_succ, hfb]
      exact jv2 _ _ rfl ⟨lt, hdt⟩
     | true =>
      simp only [if_true]
      k_lt w
      refine B_mod (by rw [spares_len]; omega) ?_
      k_lt w
      try rw [spares_len, fmodN]
      refine (ex1 fun a => an3 fun ha hma hconv => ?_) (conv_at (k := k) (u := usedAt ts high i) (trues_at (by rw [hfc]; exact hr) hfb).2 hsw1 hkn)
      rw [hma]
      rw [hzz] at hconv
      k_lt w
      refine SB_list hst (by omega) (by omega) (v := .int (70 + (a : Nat))) (by simp [spares, ha]) ?_
      have hstep := putN_step (xs := xs) (zs := zs) (fl := Ys ts high i) (r := r) (by rw [hfc]; exact hr) hfb
      rw [hconv] at hstep
      have hcs : cnt (Ys ts high i) (r + 1) = cnt (Ys ts high i) r + 1 := by rw [cnt_succ, hfb]; rfl
      rcases hkn with e | e
      all_goals
       dsimp only at e
       subst e
       k_lt w
       try refine S_str (by omega) ?_
       k_lt w
       refine I_set hdt (by omega) (by omega) (by rw [putN_len]; omega) ?_
       first | rw [if_pos rfl] at hstep | rw [if_neg (by decide +kernel)] at hstep
       rw [show ((r : Nat) : Int).toNat = r from Int.toNat_natCast _, hstep]
       k_lt w
       try rw [show ((usedAt ts high i + cnt (Ys ts high i) r : Nat) : Int) + 1 = ((usedAt ts high i + cnt (Ys ts high i) (r + 1) : Nat) : Int) by rw [hcs]; push_cast; omega]
       exact jv2 _ _ rfl ⟨lt.setD hdd, Ya⟩
   · intro ρ' τ; apply iv2; intro o4 o5; rintro ⟨lt, hdt⟩
     rw [Yf] at hdt ⊢
     have hca : cnt (Ys ts high i) high = (trues (Ys ts high i)).length := by rw [← cnt_all, hfc]
     rw [hca] at hdt ⊢
     have hgt := hg0.mono (by k_lt le : Le σ15 τ)
     have hst := hs2.mono lt
     have hgy : vy[i]? = some vy[i] := List.getElem?_eq_getElem (by omega)
     refine (ex4 fun z2 lz2 k2 xs2 => an3 fun hz2 hq2 hvz2 => ?_) ((hG0.cs.mono (by k_lt le : Le σ15 τ)).get hgy)
     have hgz2 : vy[((i : Nat) : Int).toNat]? = some (.ref z2) := by rw [← hz2]; exact hgy
     dsimp only at hq2
     rw [setCols_get hq] at hq2
     obtain ⟨rfl, rfl⟩ : k = k2 ∧ setItems k xs (spares sw) (Ys ts high i) (usedAt ts high i) = xs2 := by
      have := Option.some.inj hq2
      unfold setCol at this
      simpa using this
     rw [setItems_conv, hzz] at hvz2
     have hsc : ∀ v ∈ putN xs (trues (Ys ts high i)) zs (trues (Ys ts high i)).length, scal v = true := by
      refine putN_mem hxs (by rw [← hzz]; exact conv_scal hsw1 hsw3 hkn) ?_ _ (Nat.le_refl _)
      by_cases he : trues (Ys ts high i) = []
      · exact .inr he
      · refine .inl ?_
        intro e
        have := congrArg List.length e
        rw [← hzz, conv_len] at this
        exact he (List.length_eq_zero_iff.mp this)
     have hvzt := hvz.mono lt
     k_lt w
     refine SB_list hgt.list (by omega) (by omega) hgz2 ?_
     k_lt w
     refine C_neL ok2 hvz2.list hdt hsc ?_
     have ek : decide (k ≠ k) = false := by simp
     k_lt w
     refine SB_list hgt.list (by omega) (by omega) hgz2 ?_
     k_lt w
     try rw [show ((usedAt ts high i + (trues (Ys ts high i)).length : Nat) : Int) = ((usedAt ts high (i + 1) : Nat) : Int) from rfl]
     exact jv5 _ _ _ _ _ rfl (by k_lt le)
 · intro ρ' σ'; apply iv5; intro o1 o2 o3 o4 o5 le
   have leD : Le σ15 σ' := by k_lt le
   k_lt N
   k_lt C
   k_lt st
   refine X_cmp ?_ (by with_unfolding_all rfl)
   k_lt w
   refine R_ex <| X_sliceT ok' ?_
   k_lt w
   refine Yb (ct_law_plain hK ok' (by omega) (f := ⟨setCols ts high (spares sw) f.cols, f.ss, f.kd, f.marks⟩) ⟨_, _, _, _, _, _, _, _, _, hG0.mono leD⟩ fun p1 σ17 l17 hP1 => ?_)
   obtain ⟨c1, q1, n1, us1, b1, b2, b3, b4, b5⟩ := hP1
   k_lt w
   refine ⟨p1, _, 1, rfl, rfl, by omega, by simp, b1, by simp, fun s1 hs1 => ?_⟩
   have l18 : Le σ17 (σ17.set s1 (.tup [.str f.kd, .ref q1, .ref n1])) := Yc hs1
   have hs1' : (σ17.set s1 (.tup [.str f.kd, .ref q1, .ref n1])) s1 = some (.tup [.str f.kd, .ref q1, .ref n1]) := Ya
   show RUN _ _ _ _ _ (σ17.set s1 (.tup [.str f.kd, .ref q1, .ref n1]))
   generalize σ17.set s1 (.tup [.str f.kd, .ref q1, .ref n1]) = σ18 at l18 hs1' ⊢
   k_lt w
   refine R_ex <| X_sliceT ok' ?_
   k_lt w
   refine Yb (ct_law_plain hK ok' (by omega) (hF.mono (by k_lt le)) fun p2 σ19 l19 hP2 => ?_)
   obtain ⟨c2', q2, n2, us2, d1, d2, d3, d4, d5⟩ := hP2
   k_lt w
   refine ⟨p2, _, 1, rfl, rfl, by omega, by simp, d1, by simp, fun s2 hs2 => ?_⟩
   have l20 : Le σ19 (σ19.set s2 (.tup [.str f.kd, .ref q2, .ref n2])) := Yc hs2
   have hs2' : (σ19.set s2 (.tup [.str f.kd, .ref q2, .ref n2])) s2 = some (.tup [.str f.kd, .ref q2, .ref n2]) := Ya
   show CMP _ _ _ _ (σ19.set s2 (.tup [.str f.kd, .ref q2, .ref n2])) _ _ _ _
   generalize σ19.set s2 (.tup [.str f.kd, .ref q2, .ref n2]) = σ20 at l20 hs2' ⊢
   have hlay : (PyData.tuple [.str f.kd, .list (f.marks.map Dv), .list ((txs f.ss).map Dv)]).canLay0 = true := by
    simp only [PyData.canLay0, PyData.canLayAll0, Yl hpk.m, Yl hpk.n, hpk.k, Bool.and_self]
   have hrd : ∀ {s q nn : Addr}, σ20 s = some (.tup [.str f.kd, .ref q, .ref nn]) → σ20 q = some (.list f.marks) → σ20 nn = some (.list (txs f.ss)) → RD σ20 (.ref s) (.tuple [.str f.kd, .list (f.marks.map Dv), .list ((txs f.ss).map Dv)]) := fun a1 a2 a3 =>
    .tup a1 (.cons (.sc (x := .str _) hpk.k) (.cons (Yo a2 hpk.m) (.cons (Yo a3 hpk.n) .nil)))
   k_lt w
   refine C_eqD ok' (hrd ((by k_lt le : Le σ18 σ20) _ _ hs1') ((by k_lt le : Le σ17 σ20) _ _ b4) ((by k_lt le : Le σ17 σ20) _ _ b5)) (hrd hs2' ((by k_lt le : Le σ19 σ20) _ _ d4) ((by k_lt le : Le σ19 σ20) _ _ d5)) hlay hlay (by simp only [PyData.depth, PyData.depthAll, depthAll_Dv]; omega) ?_
   k_lt w
   try rw [PySem.SeqAt.eqv_refl _ hlay]
   k_lt w
   exact h σ20 (by k_lt le)
end
section
variable {n : Nat} {c : Cx} {ρ : Loc} {σ : Sig}
theorem ct_items_right (hK : KOk K) (ok : c.Ok prog w K n) (hn : 12 ≤ n) {x : Addr} {f : FD} {iv : V} {Q : V → Sig → Prop} (hF : FrmE K σ x f) (hL : LF f)
 (h : Q (.bool true) σ) : CODE prog w c ρ σ (.ref (gv K "_law_items_right")) [iv, .ref x, .int f.marks.length, .int f.cols.length] [] Q := by
 have h4 := hL.h4; have w3 := hL.w3
 have hcl := hL.cl
 have hss := hL.sl
 generalize hhigh : f.marks.length = high at *
 generalize hwide : f.cols.length = wide at *
 have hFE := hF
 obtain ⟨l, a, nx, nl, cx, cl, rx, rl, vs, hF⟩ := hF
 have g1 := hF.self; have g2 := hF.at'; have g3 := hF.nm
 have hvs := hF.cs.len
 refine CODE.drop (en_law_items_right hK ok (by omega) fun c' ok' sc' gl' => ?_)
 k_lt w
 refine S_for ok' ?_ (hs := fun _ => rfl)
 k_lt w
 refine R_one ok' fun r1 hr1 => ?_
 have l1 : Le σ (σ.set r1 (.rng 0 wide)) := Yc hr1
 have hr1' : (σ.set r1 (.rng 0 wide)) r1 = some (.rng 0 wide) := Ya
 generalize σ.set r1 (.rng 0 wide) = σ1 at l1 hr1' ⊢
 refine ⟨.rng 0 wide, spanZ 0 wide, fun i ρ' σ' => ∃ o1 o2 o3, ρ' = ([("interp", some iv), ("df", some (.ref x)), ("high", some (.int high)), ("wide", some (.int wide)), ("names", some (.ref nl)), ("column", o1), ("row", o2), ("args", o3)] : List (Str × Option V)) ∧ Le σ σ', Yr hr1' (by omega), jv3 _ _ _ rfl l1, ⟨?_, ?_, ?_⟩⟩
 · rintro i ρ' σ' _; rfl
 · intro c2 i u ρ' σ2 S2 ok2 hx; apply iv3; intro o1 o2 o3 le
   obtain ⟨hi, rfl⟩ := Yn hx
   have gl2 := S2.gl.trans gl'
   have hsi : f.ss[i]? = some f.ss[i] := List.getElem?_eq_getElem (by omega)
   generalize f.ss[i] = s at hsi
   have hgv : vs[i]? = some vs[i] := List.getElem?_eq_getElem (by omega)
   refine (ex4 fun z lz k xs => an3 fun hz hq hvz => ?_) (hF.cs.get hgv)
   have hgz0 : vs[i]? = some (.ref z) := hgv.trans (congrArg some hz)
   have hgz : vs[((i : Nat) : Int).toNat]? = some (.ref z) := hgz0
   have hxl : xs.length = high := by rw [hcl _ (List.mem_of_getElem? hq)]
   have hxs : ∀ v ∈ xs, scal v = true := hL.ok.sc _ (List.mem_of_getElem? hq)
   refine G_name ok2 (by k_lt sv) ?_
   k_lt w
   refine fun t0 ht00 => ?_
   have lt0 : Le σ2 (σ2.set t0 (.tup [.none, .ref x])) := Yc ht00
   have ht0 : (σ2.set t0 (.tup [.none, .ref x])) t0 = some (.tup [.none, .ref x]) := Ya
   generalize σ2.set t0 (.tup [.none, .ref x]) = σ3 at lt0 ht0 ⊢
   k_lt w
   have gn3 := (g3.mono (by k_lt le : Le σ σ3)).list
   k_lt w
   refine SB_list gn3 (by omega) (by omega) (v := .str s) (by rw [show ((i : Nat) : Int).toNat = i from Int.toNat_natCast _]; simp [txs, hsi]) ?_
   k_lt w
   refine fun m1 hm10 => ?_
   have lm1 : Le σ3 (σ3.set m1 (.list [.str s])) := Yc hm10
   have hm1 : (σ3.set m1 (.list [.str s])) m1 = some (.list [.str s]) := Ya
   generalize σ3.set m1 (.list [.str s]) = σ4 at lm1 hm1 ⊢
   k_lt w
   refine Yb (ct_character hK ok2 (by omega) (sk := .list m1) ⟨rfl, hm1⟩ (by simp) fun cv dcv qcv hqcv frcv => ?_)
   obtain ⟨lcv, hcv⟩ := Yh (k := "character") (a := .none) hqcv frcv
   generalize Yj K (σ4.set qcv (.list [.str s])) cv dcv (.str "character") (.ref qcv) .none = σ5 at lcv hcv ⊢
   k_lt w
   refine fun t1 ht10 => ?_
   have lt1 : Le σ5 (σ5.set t1 (.tup [.none, .ref cv])) := Yc ht10
   have ht1 : (σ5.set t1 (.tup [.none, .ref cv])) t1 = some (.tup [.none, .ref cv]) := Ya
   generalize σ5.set t1 (.tup [.none, .ref cv]) = σ6 at lt1 ht1 ⊢
   k_lt w
   refine fun al hal0 => ?_
   have lal : Le σ6 (σ6.set al (.list [.ref t0, .ref t1])) := Yc hal0
   have hal : (σ6.set al (.list [.ref t0, .ref t1])) al = some (.list [.ref t0, .ref t1]) := Ya
   generalize σ6.set al (.list [.ref t0, .ref t1]) = σ7 at lal hal ⊢
   k_lt w
   have hF7 := hF.mono (by k_lt le : Le σ σ7)
   have hs7 := hF7.self
   have hvz7 := hvz.mono (by k_lt le : Le σ σ7)
   k_lt w
   refine Yb (ct_belem_one hK ok2 (by omega) hF7 hL.ok.sd hL.ok.ne (.name (hcv.mono (by k_lt le)) hsi) hgz0 hal ((by k_lt le : Le σ3 σ7) _ _ ht0) ((by k_lt le : Le σ6 σ7) _ _ ht1) ?_)
   k_lt w
   refine SB_list hs7.list (by omega) (by omega) hgz ?_
   k_lt w
   refine C_neL ok2 hvz7.list hvz7.list hxs ?_
   k_lt w
   refine S_for ok2 ?_ (hs := fun _ => rfl)
   k_lt w
   refine R_one ok2 fun r2 hr2 => ?_
   have l8 : Le σ7 (σ7.set r2 (.rng 0 high)) := Yc hr2
   have hr2' : (σ7.set r2 (.rng 0 high)) r2 = some (.rng 0 high) := Ya
   generalize σ7.set r2 (.rng 0 high) = σ8 at l8 hr2' ⊢
   have le8 : Le σ σ8 := by k_lt le
   refine ⟨.rng 0 high, spanZ 0 high, fun r ρ' σ' => ∃ o2 o3, ρ' = ([("interp", some iv), ("df", some (.ref x)), ("high", some (.int high)), ("wide", some (.int wide)), ("names", some (.ref nl)), ("column", some (.int i)), ("row", o2), ("args", o3)] : List (Str × Option V)) ∧ Le σ σ', Yr hr2' (by omega), jv2 _ _ rfl le8, ⟨?_, ?_, ?_⟩⟩
   · rintro r ρ' σ' _; rfl
   · intro c3 r u ρ' σ9 S3 ok3 hx2; apply iv2; intro o2 o3 le9
     obtain ⟨hr, rfl⟩ := Yn hx2
     have gl3 := S3.gl.trans gl2
     refine G_name ok3 (by k_lt sv) ?_
     k_lt w
     refine fun u0 hu00 => ?_
     have lu0 : Le σ9 (σ9.set u0 (.tup [.none, .ref x])) := Yc hu00
     have hu0 : (σ9.set u0 (.tup [.none, .ref x])) u0 = some (.tup [.none, .ref x]) := Ya
     generalize σ9.set u0 (.tup [.none, .ref x]) = σ10 at lu0 hu0 ⊢
     k_lt w
     refine fun m2 hm20 => ?_
     have lm2 : Le σ10 (σ10.set m2 (.list [.int ((r : Nat) + 1)])) := Yc hm20
     have hm2 : (σ10.set m2 (.list [.int ((r : Nat) + 1)])) m2 = some (.list [.int ((r : Nat) + 1)]) := Ya
     generalize σ10.set m2 (.list [.int ((r : Nat) + 1)]) = σ11 at lm2 hm2 ⊢
     k_lt w
     refine Yb (ct_integer hK ok3 (by omega) (sk := .list m2) ⟨rfl, hm2⟩ (by simp) fun rv drv qrv hqrv frrv => ?_)
     obtain ⟨lrv, hrv⟩ := Yh (k := "integer") (a := .none) hqrv frrv
     generalize Yj K (σ11.set qrv (.list [.int ((r : Nat) + 1)])) rv drv (.str "integer") (.ref qrv) .none = σ12 at lrv hrv ⊢
     k_lt w
     refine fun u1 hu10 => ?_
     have lu1 : Le σ12 (σ12.set u1 (.tup [.none, .ref rv])) := Yc hu10
     have hu1 : (σ12.set u1 (.tup [.none, .ref rv])) u1 = some (.tup [.none, .ref rv]) := Ya
     generalize σ12.set u1 (.tup [.none, .ref rv]) = σ13 at lu1 hu1 ⊢
     k_lt w
     refine fun m3 hm30 => ?_
     have lm3 : Le σ13 (σ13.set m3 (.list [.int ((i : Nat) + 1)])) := Yc hm30
     have hm3 : (σ13.set m3 (.list [.int ((i : Nat) + 1)])) m3 = some (.list [.int ((i : Nat) + 1)]) := Ya
     generalize σ13.set m3 (.list [.int ((i : Nat) + 1)]) = σ14 at lm3 hm3 ⊢
     k_lt w
     refine Yb (ct_integer hK ok3 (by omega) (sk := .list m3) ⟨rfl, hm3⟩ (by simp) fun jv djv qjv hqjv frjv => ?_)
     obtain ⟨ljv, hjv⟩ := Yh (k := "integer") (a := .none) hqjv frjv
     generalize Yj K (σ14.set qjv (.list [.int ((i : Nat) + 1)])) jv djv (.str "integer") (.ref qjv) .none = σ15 at ljv hjv ⊢
     k_lt w
     refine fun u2 hu20 => ?_
     have lu2 : Le σ15 (σ15.set u2 (.tup [.none, .ref jv])) := Yc hu20
     have hu2 : (σ15.set u2 (.tup [.none, .ref jv])) u2 = some (.tup [.none, .ref jv]) := Ya
     generalize σ15.set u2 (.tup [.none, .ref jv]) = σ16 at lu2 hu2 ⊢
     k_lt w
     refine fun bl hbl0 => ?_
     have lbl : Le σ16 (σ16.set bl (.list [.ref u0, .ref u1, .ref u2])) := Yc hbl0
     have hbl : (σ16.set bl (.list [.ref u0, .ref u1, .ref u2])) bl = some (.list [.ref u0, .ref u1, .ref u2]) := Ya
     generalize σ16.set bl (.list [.ref u0, .ref u1, .ref u2]) = σ17 at lbl hbl ⊢
     k_lt w
     refine Yb (ct_belem_two hK ok3 (by omega) (hFE.mono (by k_lt le : Le σ σ17)) hL.ok (hrv.mono (by k_lt le)) (hjv.mono (by k_lt le)) hq (by omega) hbl ((by k_lt le : Le σ10 σ17) _ _ hu0) ((by k_lt le : Le σ13 σ17) _ _ hu1) ((by k_lt le : Le σ16 σ17) _ _ hu2) fun y ly σ18 l18 hy => ?_)
     have hF18 := hF.mono (by k_lt le : Le σ σ18)
     have hs18 := hF18.self
     have hvz18 := hvz.mono (by k_lt le : Le σ σ18)
     k_lt w
     refine SB_list hs18.list (by omega) (by omega) hgz ?_
     k_lt w
     refine SB_list hvz18.list (by omega) (by omega) (getD_get (by omega)) ?_
     k_lt w
     refine fun e he => ?_
     have hsc : ∀ v ∈ [xs.getD r .none], scal v = true := by
      intro v hv
      rcases List.mem_singleton.mp hv with rfl
      rw [List.getD_eq_getElem?_getD, List.getElem?_eq_getElem (by omega)]
      exact hxs _ (List.getElem_mem (by omega))
     have l19 : Le σ18 (σ18.set e (.list [xs.getD r .none])) := Yc he
     k_lt w
     refine C_neL ok3 (l19 _ _ hy.list) Ya hsc ?_
     generalize σ18.set e (.list [xs.getD r .none]) = σ19 at l19 ⊢
     k_lt w
     exact jv2 _ _ rfl (by k_lt le)
   · intro ρ' σ'; apply iv2; intro o2 o3 le9
     k_lt w
     exact jv3 _ _ _ rfl le9
 · intro ρ' σ'; apply iv3; intro o1 o2 o3 le
   k_lt w
   exact ⟨σ, le, h⟩
end
section
variable {n : Nat} {c : Cx} {ρ : Loc} {σ : Sig}
theorem XS_cons' {e : PySem.Expr} {es : List PySem.Expr} {P : List V → Sig → Prop} (he : nonstar e = true) (h : EX prog w c ρ σ e fun x σ' => EXS prog w c ρ σ' es fun xs σ'' => P (x :: xs) σ'') : EXS prog w c ρ σ (e :: es) P := XS_cons h (nonstar_each he)
theorem init_ok (hK : KOk K) {m : Nat} (hm : 1 ≤ m) {msg : Str} : InitOk prog w K m (gv K "Refusal") (mt K "Refusal" "__init__") msg := by
 intro c ρ σ e oe vs Q ok he hc hd hn k
 refine en_Refusal_init hK ok hm fun c' ok' sc' gl' => ?_
 k_lt w
 intro a u hav huv s F
 obtain rfl := E_ref hav
 refine E_set (ok'.base.inK.keeps F.keep) hK.x F ok' he hc hd hn huv fun s' d F' hd' => ⟨_, F', ?_⟩
 k_lt w
 exact k d hd'
noncomputable abbrev dupMsg : Str := "duplicate 'row.names' are not allowed"
theorem xt_rows_dup (hK : KOk K) (ok : c.Ok prog w K n) (hn : 6 ≤ n) (fr : FRS c σ) {x v vl : Addr} {f : FD} {h : Nat} {t : Str} (hF : FrmE K σ x f) (hv : Vec K σ v "character" vl (txs (List.replicate h t)) .none) (hl : h = f.marks.length) (h2 : 2 ≤ h) :
 XCODE prog w (gv K "Refusal") dupMsg c ρ σ (.ref (gv K "frame_with_rows")) [.ref x, .ref v] := by
 refine XFN ["df", "value"] 0 ["rows", "labels", "seen", "item"] (gl_frame_with_rows K) ok (by omega) fr (hK.f (187, "frame_with_rows", []) (List.mem_of_getElem? (i := 89) rfl)) (by decide +kernel) rfl (by decide) (by decide) (show scopeOk (fnScope (topStmt 187)) ["df", "value", "rows", "labels", "seen", "item"] ["frame_rows", "new_frame", "column_names", "plain_rows", "as_kind", "character", "label_texts", "len", "Refusal", "Vector"] = true by decide +kernel) (gvs_frame_with_rows hK).all fun c' σp ok' sc' gl' frp lep => ?_
 unfold gl_frame_with_rows at gl'
 have hFp := hF.mono lep
 have hvp := hv.mono lep
 clear hF hv
 have hhi := hFp.high
 obtain ⟨l, a, nx, nl, cx, cl, rx, rl, vs, hF⟩ := hFp
 have hs := hF.self
 have htl : (txs (List.replicate h t)).length ≤ 100000 := by rw [Ym, List.length_replicate]; omega
 show BS prog w c' [("df", some (.ref x)), ("value", some (.ref v)), ("rows", none), ("labels", none), ("seen", none), ("item", none)] σp (fnBody (topStmt 187)) _ _
 refine BS_cons (ST.run ?_)
 k_lt w
 refine Yb (ct_frame_rows hK ok' (by omega) hF ?_)
 k_lt w
 refine ⟨rfl, BS_cons (ST.run ?_)⟩
 k_lt w
 refine ⟨rfl, BS_cons (ST.run ?_)⟩
 k_lt w
 refine Yb (ct_label_texts hK ok' (by omega) hvp labOk_txs (by rw [Ym, List.length_replicate]; omega) fun m hm => ?_)
 k_lt w
 try rw [map_lab_char]
 k_lt w
 refine Yb (ct_character hK ok' (by omega) (sk := .list m) ⟨rfl, Ya⟩ htl fun u d l5 hl5 fr5 => ?_)
 obtain ⟨le5, hu⟩ := Yh (k := "character") (a := .none) hl5 fr5
 have le6 := (Yc hm).trans le5
 generalize Yj K ((σp.set m (.list (txs (List.replicate h t)))).set l5 (.list (txs (List.replicate h t)))) u d (V.str "character") (V.ref l5) V.none = σ6 at le6 hu ⊢
 have hul := hu.list
 have e1 : decide (((txs (List.replicate h t)).length : Int) ≠ (f.marks.length : Nat)) = false := by rw [Ym, List.length_replicate, hl]; simp
 k_lt w
 refine ⟨rfl, BS_cons (ST.run ?_)⟩
 k_lt w
 refine ⟨rfl, BS_cons (ST.run ?_)⟩
 k_lt w
 refine R_ex <| X_dict0 ok' (.dicS []) (.inl rfl) fun sn hsn => ?_
 have le7 := le6.trans (Yc (o := .dicS []) hsn)
 have hu7 := hu.mono (Yc (o := .dicS []) hsn)
 have hs7 : (σ6.set sn (.dicS [])) sn = some (.dicS []) := Ya
 have le67 : Le σ6 (σ6.set sn (.dicS [])) := Yc hsn
 generalize σ6.set sn (.dicS []) = σ7 at le7 hu7 hs7 le67 ⊢
 refine ⟨_, by k_lt sv, rfl, BS_raise ?_⟩
 refine BX_for ok' frp ?_ (hs := fun _ => rfl)
 k_lt w
 refine ⟨.list l5, txs (List.replicate h t), fun i ρ' σ' => ∃ o g, ρ' = ([("df", some (.ref x)), ("value", some (.ref v)), ("rows", some (.int f.marks.length)), ("labels", some (.ref u)), ("seen", some (.ref sn)), ("item", o)] : List (Str × Option V)) ∧ Le σ6 σ' ∧ σ' sn = some (.dicS g) ∧ g.length ≤ i ∧ i ≤ 1 ∧ (dlook g t).isSome = decide (i = 1), ⟨rfl, hu7.list⟩, jv2 _ _ rfl ⟨le67, hs7, by simp, by omega, by simp [dlook]⟩, ⟨?_, ?_, ?_⟩⟩
 · refine fun i ρ' σ' => ex2 fun o g => an3 fun _ le _ => ?_; exact le _ _ hul
 · intro c2 i y ρ' σ' S2 ok2 hx; apply iv2; refine fun o g => an5 fun le e hg hi hk => ?_
   obtain ⟨p, hp1, rfl⟩ := txs_get hx
   obtain rfl : p = t := by
    have := List.mem_of_getElem? hp1
    exact (List.mem_replicate.mp this).2
   have gl2 := S2.gl.trans gl'
   refine G_name ok2 (by k_lt sv) (BS_cons (ST.run ?_))
   k_lt w
   refine ⟨rfl, ?_⟩
   rcases (by omega : i = 0 ∨ i = 1) with rfl | rfl
   · refine BS_cons (ST.run ?_)
     k_lt w
     refine C_inS ok2 e ?_
     k_lt w
     try rw [hk]
     k_lt w
     refine ⟨rfl, BS_cons (ST.run ?_)⟩
     k_lt w
     refine I_dicS e (by omega) ?_
     k_lt w
     refine ⟨rfl, BS_nil ⟨rfl, _, _, rfl, le.setD hsn, Ya, Nat.le_trans (dput_len _ _ _) (by omega), by omega, ?_⟩⟩
     rw [dlook_put, if_pos rfl]; rfl
   · refine BS_raise (BX_if ?_)
     k_lt w
     refine C_inS ok2 e ?_
     k_lt w
     try rw [hk]
     k_lt w
     obtain ⟨m2, hm2⟩ : ∃ m, n - 1 = m + 1 := ⟨n - 2, by omega⟩
     rw [hm2] at ok2
     exact BS_raise (BX_raise ok2 hK.x (init_ok hK (by omega)) gl2 (by k_lt hg) (le6.trans le))
 · intro ρ' σ'; apply iv2; refine fun o g => an5 fun le e hg hi hk => ?_
   rw [Ym, List.length_replicate] at hi
   omega
theorem xt_bset_dup (hK : KOk K) (ok : c.Ok prog w K n) (hn : 7 ≤ n) (fr : FRS c σ) {x v vl al t0 t1 : Addr} {f : FD} {h : Nat} {t : Str} {iv ev : V} (hF : FrmE K σ x f) (hv : Vec K σ v "character" vl (txs (List.replicate h t)) .none) (hl : h = f.marks.length) (h2 : 2 ≤ h)
 (ha : σ al = some (.list [.ref t0, .ref t1])) (h0 : σ t0 = some (.tup [.none, .ref x])) (h1 : σ t1 = some (.tup [.str "value", .ref v])) :
 XCODE prog w (gv K "Refusal") dupMsg c ρ σ (.ref (gv K "b_set_rownames")) [iv, .ref al, ev] := by
 refine XFN ["interp", "args", "env"] 0 ["v", "value"] (gl_b_set_rownames K) ok (by omega) fr (hK.f (191, "b_set_rownames", []) (List.mem_of_getElem? (i := 92) rfl)) (by decide +kernel) rfl (by decide) (by decide) (show scopeOk (fnScope (topStmt 191)) ["interp", "args", "env", "v", "value"] ["both_arguments", "is_frame", "frame_with_rows", "array_with_names"] = true by decide +kernel) (gvs_b_set_rownames hK).all fun c' σp ok' sc' gl' frp lep => ?_
 unfold gl_b_set_rownames at gl'
 show BS prog w c' [("interp", some iv), ("args", some (.ref al)), ("env", some ev), ("v", none), ("value", none)] σp (fnBody (topStmt 191)) _ _
 have hF := hF.mono lep
 have hv := hv.mono lep
 have ha := lep _ _ ha
 have h0 := lep _ _ h0
 have h1 := lep _ _ h1
 refine BS_cons (ST.run ?_)
 k_lt w
 refine Yb (ct_both_arguments hK ok' (by omega) (.inr ⟨vl, _, hv⟩) ha h0 h1 fun t σ1 le1 ht => ?_)
 refine G_tuple ok' (.tup t) ⟨rfl, ht⟩ (fun _ _ e => by cases e) rfl ?_
 k_lt w
 refine ⟨rfl, ?_⟩
 have hF1 := hF.mono le1
 obtain ⟨l, a, nx, nl, cx, cl, rx, rl, vs, hF0⟩ := hF1
 refine BS_raise (BX_if ?_)
 k_lt w
 refine Yb (ct_is_frame hK ok' (by omega) hF0 ?_)
 k_lt w
 refine BS_raise (BX_ret fun s F => XE_call ok' gl' (by k_lt hg) (σ₀ := σp) ?_ F)
 k_lt w
 exact ⟨xt_rows_dup hK ok' (by omega) (frp.mono le1) (hF.mono le1) (hv.mono le1) hl h2, le1⟩
end
section
variable {n : Nat} {c : Cx} {ρ : Loc} {σ : Sig}
noncomputable def newT (a : Nat) : Str := Str.ofString "new" ++ Str.ofString (toString ((a : Nat) : Int))
noncomputable def headT (a : Nat) : Str := Str.ofString "h" ++ Str.ofString (toString ((a : Nat) : Int))
theorem newT_ok (a : Nat) (h : a < 4) : (Str.ofString "new").length + (Str.ofString (toString ((a : Nat) : Int))).length ≤ 100000 := by
 have e1 : a = 0 ∨ a = 1 ∨ a = 2 ∨ a = 3 := by omega
 rcases e1 with rfl | rfl | rfl | rfl <;> decide +kernel
theorem headT_ok (a : Nat) (h : a < 4) : (Str.ofString "h").length + (Str.ofString (toString ((a : Nat) : Int))).length ≤ 100000 := by
 have e1 : a = 0 ∨ a = 1 ∨ a = 2 ∨ a = 3 := by omega
 rcases e1 with rfl | rfl | rfl | rfl <;> decide +kernel
theorem new_facts (high : Nat) (h4 : high ≤ 4) : ((List.range high).map newT).Nodup ∧ ∀ s ∈ (List.range high).map newT, PyData.strOk s = true := by
 have e : high = 0 ∨ high = 1 ∨ high = 2 ∨ high = 3 ∨ high = 4 := by omega
 rcases e with rfl | rfl | rfl | rfl | rfl <;> exact ⟨by decide +kernel, by decide +kernel⟩
theorem head_facts (wide : Nat) (h4 : wide ≤ 4) : ∀ s ∈ (List.range wide).map headT, PyData.strOk s = true := by
 have e : wide = 0 ∨ wide = 1 ∨ wide = 2 ∨ wide = 3 ∨ wide = 4 := by omega
 rcases e with rfl | rfl | rfl | rfl | rfl <;> decide +kernel
theorem num_facts (high : Nat) (h4 : high ≤ 4) : ∀ s ∈ (List.range high).map numT, PyData.strOk s = true := by
 have e : high = 0 ∨ high = 1 ∨ high = 2 ∨ high = 3 ∨ high = 4 := by omega
 rcases e with rfl | rfl | rfl | rfl | rfl <;> decide +kernel
theorem labOk_upr {high : Nat} (h4 : high ≤ 4) : ∀ v ∈ ups (List.range high), LabOk "integer" v := by
 intro v hv
 obtain ⟨p, hp, rfl⟩ := List.mem_map.mp hv
 have := List.mem_range.mp hp
 exact .inr ⟨rfl, _, rfl, by omega⟩
theorem scal_txs {ss : List Str} (h : ∀ s ∈ ss, PyData.strOk s = true) : ∀ v ∈ txs ss, scal v = true := by
 intro v hv
 obtain ⟨s, hs, rfl⟩ := List.mem_map.mp hv
 exact h s hs
theorem C_neCells (ok : c.Ok prog w K n) {a b : Addr} {us ws : List V} {cs : List (Str × List V)} {Q : V → Sig → Prop} (ha : σ a = some (.list us)) (hb : σ b = some (.list ws)) (h1 : Cells σ us cs) (h2 : Cells σ ws cs)
 (hc : ∀ p ∈ cs, PyData.strOk p.1 = true ∧ ∀ v ∈ p.2, scal v = true) (h : Q (.bool false) σ) : CMP prog w c ρ σ .NotEq (.ref a) (.ref b) Q := by
 have hl : (PyData.list (colsD cs)).canLay0 = true := by rw [PyData.canLay0]; exact colsD_lay hc
 k_lt w
 refine C_neD ok (.list ha (h1.rd hc)) (.list hb (h2.rd hc)) hl hl (by rw [PyData.depth]; have := colsD_depth (cs := cs); omega) ?_
 k_lt w
 try rw [PySem.SeqAt.eqv_refl _ hl]; exact h
theorem ct_law_names_right (hK : KOk K) (ok : c.Ok prog w K n) (hn : 14 ≤ n) (fr : FRS c σ) {x : Addr} {f : FD} {Q : V → Sig → Prop} (hF : FrmE K σ x f) (hL : LF f) (h : Q (.bool true) σ) :
 CODE prog w c ρ σ (.ref (gv K "_law_names_right")) [.ref x, .int f.marks.length, .int f.cols.length] [] Q := by
 have h1 := hL.h1; have h4 := hL.h4; have w1 := hL.w1; have w3 := hL.w3
 have hcok := hL.pok.c
 have hsl := hL.sl
 refine YFN ["df", "high", "wide"] 0 ["rows", "heads", "made", "counted_anew", "refusal"] (gl_law_names_right K) ok (by omega) fr (hK.f (217, "_law_names_right", []) (List.mem_of_getElem? (i := 7) rfl)) (by decide +kernel) rfl (by decide) (by decide) (show scopeOk (fnScope (topStmt 217)) ["df", "high", "wide", "rows", "heads", "made", "counted_anew", "refusal"] ["character", "range", "b_set_colnames", "b_set_rownames", "b_rownames", "b_colnames", "_law_plain", "b_dim_frame", "null", "Refusal"] = true by decide +kernel) (gvs_law_names_right hK).all fun c' σ0 ok' sc' gl' fr0 le0 => ?_
 unfold gl_law_names_right at gl'
 have hF0 := hF.mono le0
 clear hF
 generalize hhigh : f.marks.length = high at *
 generalize hwide : f.cols.length = wide at *
 show STS prog w c' [("df", some (.ref x)), ("high", some (.int high)), ("wide", some (.int wide)), ("rows", none), ("heads", none), ("made", none), ("counted_anew", none), ("refusal", none)] σ0 (fnBody (topStmt 217)) _
 k_lt w
 refine R_ex <| X_comp ok' [] [("str", .ty "str")] (compAt (by k_lt co) (by k_lt cp) (by k_lt gs)) ?_ (hs := fun _ => rfl)
 k_lt w
 refine R_one ok' fun r1 hr10 => ?_
 have lr1 : Le σ0 (σ0.set r1 (.rng 0 high)) := Yc hr10
 have hr1 : (σ0.set r1 (.rng 0 high)) r1 = some (.rng 0 high) := Ya
 generalize σ0.set r1 (.rng 0 high) = σ1 at lr1 hr1 ⊢
 refine ⟨.rng 0 high, spanZ 0 high, fun j zs τ => τ = σ1 ∧ zs = txs ((List.range j).map newT), Yr hr1 (by omega), Yk (by rw [Yf]; omega), ⟨rfl, rfl⟩, ⟨?_, ?_⟩, ?_⟩
 · rintro j zs τ _; rfl
 · rintro c3 j u zs τ ok3 gl3 k1 k2 hx ⟨rfl, rfl⟩
   obtain ⟨hj, rfl⟩ := Yn hx
   refine Yt ?_
   k_lt w
   refine S_str (by omega) ?_
   k_lt w
   refine B_cats (newT_ok j (by omega)) ?_
   k_lt w
   exact ⟨rfl, by simp [txs, List.range_succ, newT]⟩
 rintro D1 zs τ ⟨rfl, rfl⟩ hD10
 rw [Yf]
 have lD1 : Le τ (τ.set D1 (.list (txs ((List.range high).map newT)))) := Yc hD10
 have hD1 : (τ.set D1 (.list (txs ((List.range high).map newT)))) D1 = some (.list (txs ((List.range high).map newT))) := Ya
 generalize τ.set D1 (.list (txs ((List.range high).map newT))) = σ2 at lD1 hD1 ⊢
 k_lt w
 refine Yb (ct_character hK ok' (by omega) (sk := .list D1) ⟨rfl, hD1⟩ (by rw [Ym, List.length_map, List.length_range]; omega) fun rv drv qrv hqrv frrv => ?_)
 obtain ⟨lrv, hrv⟩ := Yh (k := "character") (a := .none) hqrv frrv
 generalize Yj K (σ2.set qrv (.list (txs ((List.range high).map newT)))) rv drv (.str "character") (.ref qrv) .none = σ3 at lrv hrv ⊢
 k_lt w
 refine R_ex <| X_comp ok' [] [("str", .ty "str")] (compAt (by k_lt co) (by k_lt cp) (by k_lt gs)) ?_ (hs := fun _ => rfl)
 k_lt w
 refine R_one ok' fun r2 hr20 => ?_
 have lr2 : Le σ3 (σ3.set r2 (.rng 0 wide)) := Yc hr20
 have hr2 : (σ3.set r2 (.rng 0 wide)) r2 = some (.rng 0 wide) := Ya
 generalize σ3.set r2 (.rng 0 wide) = σ4 at lr2 hr2 ⊢
 refine ⟨.rng 0 wide, spanZ 0 wide, fun j zs τ => τ = σ4 ∧ zs = txs ((List.range j).map headT), Yr hr2 (by omega), Yk (by rw [Yf]; omega), ⟨rfl, rfl⟩, ⟨?_, ?_⟩, ?_⟩
 · rintro j zs τ _; rfl
 · rintro c3 j u zs τ ok3 gl3 k1 k2 hx ⟨rfl, rfl⟩
   obtain ⟨hj, rfl⟩ := Yn hx
   refine Yt ?_
   k_lt w
   refine S_str (by omega) ?_
   k_lt w
   refine B_cats (headT_ok j (by omega)) ?_
   k_lt w
   exact ⟨rfl, by simp [txs, List.range_succ, headT]⟩
 rintro D2 zs τ ⟨rfl, rfl⟩ hD20
 rw [Yf]
 have lD2 : Le τ (τ.set D2 (.list (txs ((List.range wide).map headT)))) := Yc hD20
 have hD2 : (τ.set D2 (.list (txs ((List.range wide).map headT)))) D2 = some (.list (txs ((List.range wide).map headT))) := Ya
 generalize τ.set D2 (.list (txs ((List.range wide).map headT))) = σ5 at lD2 hD2 ⊢
 k_lt w
 refine Yb (ct_character hK ok' (by omega) (sk := .list D2) ⟨rfl, hD2⟩ (by rw [Ym, List.length_map, List.length_range]; omega) fun hv dhv qhv hqhv frhv => ?_)
 obtain ⟨lhv, hhv⟩ := Yh (k := "character") (a := .none) hqhv frhv
 generalize Yj K (σ5.set qhv (.list (txs ((List.range wide).map headT)))) hv dhv (.str "character") (.ref qhv) .none = σ6 at lhv hhv ⊢
 k_lt w
 refine fun t0 ht00 => ?_
 have lt0 : Le σ6 (σ6.set t0 (.tup [.none, .ref x])) := Yc ht00
 have ht0 : (σ6.set t0 (.tup [.none, .ref x])) t0 = some (.tup [.none, .ref x]) := Ya
 generalize σ6.set t0 (.tup [.none, .ref x]) = σ7 at lt0 ht0 ⊢
 k_lt w
 refine fun t1 ht10 => ?_
 have lt1 : Le σ7 (σ7.set t1 (.tup [.str "value", .ref rv])) := Yc ht10
 have ht1 : (σ7.set t1 (.tup [.str "value", .ref rv])) t1 = some (.tup [.str "value", .ref rv]) := Ya
 generalize σ7.set t1 (.tup [.str "value", .ref rv]) = σ8 at lt1 ht1 ⊢
 k_lt w
 refine fun al hal0 => ?_
 have lal : Le σ8 (σ8.set al (.list [.ref t0, .ref t1])) := Yc hal0
 have hal : (σ8.set al (.list [.ref t0, .ref t1])) al = some (.list [.ref t0, .ref t1]) := Ya
 generalize σ8.set al (.list [.ref t0, .ref t1]) = σ9 at lal hal ⊢
 k_lt w
 obtain ⟨nd1, ns1⟩ := new_facts high h4
 k_lt w
 refine Yb (ct_bset_rows_texts hK ok' (by omega) (hF0.mono (by k_lt le : Le σ0 σ9)) (hrv.mono (by k_lt le)) (by simp [hhigh]) nd1 hal ((by k_lt le : Le σ7 σ9) _ _ ht0) ((by k_lt le : Le σ8 σ9) _ _ ht1) fun y σ10 l10 hy => ?_)
 k_lt w
 refine fun t2 ht20 => ?_
 have lt2 : Le σ10 (σ10.set t2 (.tup [.none, .ref y])) := Yc ht20
 have ht2 : (σ10.set t2 (.tup [.none, .ref y])) t2 = some (.tup [.none, .ref y]) := Ya
 generalize σ10.set t2 (.tup [.none, .ref y]) = σ11 at lt2 ht2 ⊢
 k_lt w
 refine fun t3 ht30 => ?_
 have lt3 : Le σ11 (σ11.set t3 (.tup [.str "value", .ref hv])) := Yc ht30
 have ht3 : (σ11.set t3 (.tup [.str "value", .ref hv])) t3 = some (.tup [.str "value", .ref hv]) := Ya
 generalize σ11.set t3 (.tup [.str "value", .ref hv]) = σ12 at lt3 ht3 ⊢
 k_lt w
 refine fun al2 hal20 => ?_
 have lal2 : Le σ12 (σ12.set al2 (.list [.ref t2, .ref t3])) := Yc hal20
 have hal2 : (σ12.set al2 (.list [.ref t2, .ref t3])) al2 = some (.list [.ref t2, .ref t3]) := Ya
 generalize σ12.set al2 (.list [.ref t2, .ref t3]) = σ13 at lal2 hal2 ⊢
 k_lt w
 refine Yb (ct_bset_cols hK ok' (by omega) (hy.mono (by k_lt le : Le σ10 σ13)) (hhv.mono (by k_lt le)) (by simp [hwide]) hal2 ((by k_lt le : Le σ11 σ13) _ _ ht2) ((by k_lt le : Le σ12 σ13) _ _ ht3) fun z σ14 l14 hz => ?_)
 dsimp only at hz
 k_lt w
 refine fun t4 ht40 => ?_
 have lt4 : Le σ14 (σ14.set t4 (.tup [.none, .ref z])) := Yc ht40
 have ht4 : (σ14.set t4 (.tup [.none, .ref z])) t4 = some (.tup [.none, .ref z]) := Ya
 generalize σ14.set t4 (.tup [.none, .ref z]) = σ15 at lt4 ht4 ⊢
 k_lt w
 refine fun al3 hal30 => ?_
 have lal3 : Le σ15 (σ15.set al3 (.list [.ref t4])) := Yc hal30
 have hal3 : (σ15.set al3 (.list [.ref t4])) al3 = some (.list [.ref t4]) := Ya
 generalize σ15.set al3 (.list [.ref t4]) = σ16 at lal3 hal3 ⊢
 k_lt w
 refine Yb (ct_b_rownames hK ok' (by omega) (hz.mono (by k_lt le : Le σ14 σ16)) labOk_txs (by intro q; have := congrArg List.length q; simp [txs] at this; omega) hal3 ((by k_lt le : Le σ15 σ16) _ _ ht4) fun y4 ly4 σ17 l17 hy4 => ?_)
 have e4 : rowTexts ⟨f.cols, (List.range wide).map headT, "character", txs ((List.range high).map newT)⟩ = txs ((List.range high).map newT) := map_lab_char
 rw [e4] at hy4
 k_lt w
 refine C_neL ok' hy4.list ((hrv.mono (by k_lt le : Le σ3 σ17)).list) (scal_txs ns1) ?_
 k_lt w
 refine fun t5 ht50 => ?_
 have lt5 : Le σ17 (σ17.set t5 (.tup [.none, .ref z])) := Yc ht50
 have ht5 : (σ17.set t5 (.tup [.none, .ref z])) t5 = some (.tup [.none, .ref z]) := Ya
 generalize σ17.set t5 (.tup [.none, .ref z]) = σ18 at lt5 ht5 ⊢
 k_lt w
 refine fun al4 hal40 => ?_
 have lal4 : Le σ18 (σ18.set al4 (.list [.ref t5])) := Yc hal40
 have hal4 : (σ18.set al4 (.list [.ref t5])) al4 = some (.list [.ref t5]) := Ya
 generalize σ18.set al4 (.list [.ref t5]) = σ19 at lal4 hal4 ⊢
 k_lt w
 refine Yb (ct_b_colnames hK ok' (by omega) (hz.mono (by k_lt le : Le σ14 σ19)) hal4 ((by k_lt le : Le σ18 σ19) _ _ ht5) fun y5 ly5 σ20 l20 hy5 => ?_)
 dsimp only at hy5
 k_lt w
 refine C_neL ok' hy5.list ((hhv.mono (by k_lt le : Le σ6 σ20)).list) (scal_txs (head_facts wide (by omega))) ?_
 k_lt w
 refine Yb (ct_law_plain hK ok' (by omega) (hz.mono (by k_lt le : Le σ14 σ20)) fun p6 σ21 l21 hp6 => ?_)
 obtain ⟨c6, r6, n6, us6, hp6a, hp6b, hp6c, _, _⟩ := hp6
 k_lt w
 refine Yb (ct_law_plain hK ok' (by omega) (hF0.mono (by k_lt le : Le σ0 σ21)) fun p7 σ22 l22 hp7 => ?_)
 obtain ⟨c7, r7, n7, us7, hp7a, hp7b, hp7c, _, _⟩ := hp7
 k_lt w
 refine C_neCells ok' (l22 _ _ hp6b) hp7b (hp6c.mono l22) hp7c hcok ?_
 k_lt w
 refine fun t8 ht80 => ?_
 have lt8 : Le σ22 (σ22.set t8 (.tup [.none, .ref z])) := Yc ht80
 have ht8 : (σ22.set t8 (.tup [.none, .ref z])) t8 = some (.tup [.none, .ref z]) := Ya
 generalize σ22.set t8 (.tup [.none, .ref z]) = σ23 at lt8 ht8 ⊢
 k_lt w
 refine fun al5 hal50 => ?_
 have lal5 : Le σ23 (σ23.set al5 (.list [.ref t8])) := Yc hal50
 have hal5 : (σ23.set al5 (.list [.ref t8])) al5 = some (.list [.ref t8]) := Ya
 generalize σ23.set al5 (.list [.ref t8]) = σ24 at lal5 hal5 ⊢
 k_lt w
 refine Yb (ct_b_dim_frame hK ok' (by omega) (hz.mono (by k_lt le : Le σ14 σ24)) hal5 ((by k_lt le : Le σ23 σ24) _ _ ht8) fun y8 ly8 σ25 l25 hy8 => ?_)
 have e8 : ([V.int ((txs ((List.range high).map newT)).length : Nat), .int (f.cols.length : Nat)] : List V) = [.int high, .int wide] := by rw [Ym, List.length_map, List.length_range, hwide]
 dsimp only at hy8
 rw [e8] at hy8
 k_lt w
 refine fun hw hhw0 => ?_
 have lhw : Le σ25 (σ25.set hw (.list [.int high, .int wide])) := Yc hhw0
 have hhw : (σ25.set hw (.list [.int high, .int wide])) hw = some (.list [.int high, .int wide]) := Ya
 generalize σ25.set hw (.list [.int high, .int wide]) = σ26 at lhw hhw ⊢
 k_lt w
 refine C_neL ok' ((hy8.mono (by k_lt le : Le σ25 σ26)).list) hhw (by simp [sci]) ?_
 k_lt w
 refine fun t9 ht90 => ?_
 have lt9 : Le σ26 (σ26.set t9 (.tup [.none, .ref z])) := Yc ht90
 have ht9 : (σ26.set t9 (.tup [.none, .ref z])) t9 = some (.tup [.none, .ref z]) := Ya
 generalize σ26.set t9 (.tup [.none, .ref z]) = σ27 at lt9 ht9 ⊢
 k_lt w
 refine Yb (ct_null hK ok' (by omega) fun nu σ28 l28 hnu => ?_)
 k_lt w
 refine fun t10 ht100 => ?_
 have lt10 : Le σ28 (σ28.set t10 (.tup [.str "value", .ref nu])) := Yc ht100
 have ht10 : (σ28.set t10 (.tup [.str "value", .ref nu])) t10 = some (.tup [.str "value", .ref nu]) := Ya
 generalize σ28.set t10 (.tup [.str "value", .ref nu]) = σ29 at lt10 ht10 ⊢
 k_lt w
 refine fun al6 hal60 => ?_
 have lal6 : Le σ29 (σ29.set al6 (.list [.ref t9, .ref t10])) := Yc hal60
 have hal6 : (σ29.set al6 (.list [.ref t9, .ref t10])) al6 = some (.list [.ref t9, .ref t10]) := Ya
 generalize σ29.set al6 (.list [.ref t9, .ref t10]) = σ30 at lal6 hal6 ⊢
 k_lt w
 refine Yb (ct_bset_rows_null hK ok' (by omega) (hz.mono (by k_lt le : Le σ14 σ30)) (Obj0.mono hnu (by k_lt le : Le σ28 σ30)) hal6 ((by k_lt le : Le σ27 σ30) _ _ ht9) ((by k_lt le : Le σ29 σ30) _ _ ht10) fun ca σ31 l31 hca => ?_)
 dsimp only at hca
 rw [Ym, List.length_map, List.length_range] at hca
 k_lt w
 refine fun t11 ht110 => ?_
 have lt11 : Le σ31 (σ31.set t11 (.tup [.none, .ref ca])) := Yc ht110
 have ht11 : (σ31.set t11 (.tup [.none, .ref ca])) t11 = some (.tup [.none, .ref ca]) := Ya
 generalize σ31.set t11 (.tup [.none, .ref ca]) = σ32 at lt11 ht11 ⊢
 k_lt w
 refine fun al7 hal70 => ?_
 have lal7 : Le σ32 (σ32.set al7 (.list [.ref t11])) := Yc hal70
 have hal7 : (σ32.set al7 (.list [.ref t11])) al7 = some (.list [.ref t11]) := Ya
 generalize σ32.set al7 (.list [.ref t11]) = σ33 at lal7 hal7 ⊢
 k_lt w
 refine Yb (ct_b_rownames hK ok' (by omega) (hca.mono (by k_lt le : Le σ31 σ33)) (labOk_upr h4) (by intro q; have := congrArg List.length q; simp [ups] at this; omega) hal7 ((by k_lt le : Le σ32 σ33) _ _ ht11) fun y9 ly9 σ34 l34 hy9 => ?_)
 have e9 : rowTexts ⟨f.cols, (List.range wide).map headT, "integer", ups (List.range high)⟩ = txs ((List.range high).map numT) := by simp [rowTexts, ups, txs, lab, numT, List.map_map, Function.comp_def]
 rw [e9] at hy9
 k_lt w
 refine R_ex <| X_comp ok' [] [("str", .ty "str")] (compAt (by k_lt co) (by k_lt cp) (by k_lt gs)) ?_ (hs := fun _ => rfl)
 k_lt w
 refine R_one ok' fun r3 hr30 => ?_
 have lr3 : Le σ34 (σ34.set r3 (.rng 0 high)) := Yc hr30
 have hr3 : (σ34.set r3 (.rng 0 high)) r3 = some (.rng 0 high) := Ya
 generalize σ34.set r3 (.rng 0 high) = σ35 at lr3 hr3 ⊢
 refine ⟨.rng 0 high, spanZ 0 high, fun j zs τ => τ = σ35 ∧ zs = txs ((List.range j).map numT), Yr hr3 (by omega), Yk (by rw [Yf]; omega), ⟨rfl, rfl⟩, ⟨?_, ?_⟩, ?_⟩
 · rintro j zs τ _; rfl
 · rintro c3 j u zs τ ok3 gl3 k1 k2 hx ⟨rfl, rfl⟩
   obtain ⟨hj, rfl⟩ := Yn hx
   refine Yt ?_
   k_lt w
   refine S_str (by omega) ?_
   k_lt w
   exact ⟨rfl, by simp [txs, List.range_succ, numT]⟩
 rintro D3 zs τ ⟨rfl, rfl⟩ hD30
 rw [Yf]
 have lD3 : Le τ (τ.set D3 (.list (txs ((List.range high).map numT)))) := Yc hD30
 have hD3 : (τ.set D3 (.list (txs ((List.range high).map numT)))) D3 = some (.list (txs ((List.range high).map numT))) := Ya
 generalize τ.set D3 (.list (txs ((List.range high).map numT))) = σ36 at lD3 hD3 ⊢
 k_lt w
 refine C_neL ok' ((hy9.mono (by k_lt le : Le σ34 σ36)).list) hD3 (scal_txs (num_facts high h4)) ?_
 k_lt w
 refine R_D (fun hq1 => ?_) fun hq1 => ?_
 · k_lt w
   exact ⟨by k_lt le, h⟩
 k_lt w
 have hw2 : 2 ≤ high := by omega
 have fr36 : FRS c' σ36 := fr0.mono (by k_lt le : Le σ0 σ36)
 refine S_try (msg := dupMsg) ok' hK.x fr36 ?_ gl' (by k_lt hg) (by simp) (by show c'.env.scope.names.lookup _ = _; rw [sc']; decide +kernel) ?_
 · refine BS_raise (BX_expr (hi := notInter ok') (hs := rfl) fun s F => XE_call ok' gl' (by k_lt hg) ?_ F)
   k_lt w
   refine fun t12 ht120 => ?_
   have lt12 : Le σ36 (σ36.set t12 (.tup [.none, .ref x])) := Yc ht120
   have ht12 : (σ36.set t12 (.tup [.none, .ref x])) t12 = some (.tup [.none, .ref x]) := Ya
   generalize σ36.set t12 (.tup [.none, .ref x]) = σ37 at lt12 ht12 ⊢
   k_lt w
   refine fun m9 hm90 => ?_
   have lm9 : Le σ37 (σ37.set m9 (.list [.str "same"])) := Yc hm90
   have hm9 : (σ37.set m9 (.list [.str "same"])) m9 = some (.list [.str "same"]) := Ya
   generalize σ37.set m9 (.list [.str "same"]) = σ38 at lm9 hm9 ⊢
   k_lt w
   refine B_rep ok' hm9 (by omega) (by omega) fun m10 hm100 => ?_
   have e10 : List.replicate (Int.toNat (high : Int)) (V.str "same") = txs (List.replicate high "same") := by rw [Int.toNat_natCast]; simp [txs]
   rw [e10]
   have lm10 : Le σ38 (σ38.set m10 (.list (txs (List.replicate high "same")))) := Yc hm100
   have hm10 : (σ38.set m10 (.list (txs (List.replicate high "same")))) m10 = some (.list (txs (List.replicate high "same"))) := Ya
   generalize σ38.set m10 (.list (txs (List.replicate high "same"))) = σ39 at lm10 hm10 ⊢
   k_lt w
   refine Yb (ct_character hK ok' (by omega) (sk := .list m10) ⟨rfl, hm10⟩ (by rw [Ym, List.length_replicate]; omega) fun sv dsv qsv hqsv frsv => ?_)
   obtain ⟨lsv, hsv⟩ := Yh (k := "character") (a := .none) hqsv frsv
   generalize Yj K (σ39.set qsv (.list (txs (List.replicate high "same")))) sv dsv (.str "character") (.ref qsv) .none = σ40 at lsv hsv ⊢
   k_lt w
   refine fun t13 ht130 => ?_
   have lt13 : Le σ40 (σ40.set t13 (.tup [.str "value", .ref sv])) := Yc ht130
   have ht13 : (σ40.set t13 (.tup [.str "value", .ref sv])) t13 = some (.tup [.str "value", .ref sv]) := Ya
   generalize σ40.set t13 (.tup [.str "value", .ref sv]) = σ41 at lt13 ht13 ⊢
   k_lt w
   refine fun al8 hal80 => ?_
   have lal8 : Le σ41 (σ41.set al8 (.list [.ref t12, .ref t13])) := Yc hal80
   have hal8 : (σ41.set al8 (.list [.ref t12, .ref t13])) al8 = some (.list [.ref t12, .ref t13]) := Ya
   generalize σ41.set al8 (.list [.ref t12, .ref t13]) = σ42 at lal8 hal8 ⊢
   k_lt w
   exact ⟨xt_bset_dup hK ok' (by omega) (fr36.mono (by k_lt le)) (hF0.mono (by k_lt le : Le σ0 σ42)) (hsv.mono (by k_lt le)) hhigh.symm hw2 hal8 ((by k_lt le : Le σ37 σ42) _ _ ht12) ((by k_lt le : Le σ41 σ42) _ _ ht13), by k_lt le⟩
 · intro e d ρ1 σ1 A hx hv1
   refine S_cons (S_ret (X_cmp (X_attr (X_locA ok' hv1 (A_msg ok' hK.x hx (X_str (C_eqs ?_)))))))
   intro ρ3
   exact ⟨(by k_lt le : Le σ0 σ36).trans hx.le, by rw [show decide (dupMsg = "duplicate 'row.names' are not allowed") = true by decide +kernel]; exact h⟩
end
section
variable {n : Nat} {c : Cx} {ρ : Loc} {σ : Sig}
noncomputable def fS : FD := ⟨[("integer", [.int 1, .int 2, .int 3]), ("integer", [.int 4, .int 5, .int 6])], [("u" : Str), "v"], "integer", [.int 1, .int 2, .int 3]⟩
theorem fS_lab : ∀ p ∈ fS.cols, ∀ v ∈ p.2, LabOk p.1 v ∧ scal v = true := by
 intro p hp v hv
 simp only [fS, List.mem_cons, List.not_mem_nil, or_false] at hp
 rcases hp with rfl | rfl <;> simp only [List.mem_cons, List.not_mem_nil, or_false] at hv <;> rcases hv with rfl | rfl | rfl <;> exact ⟨.inr ⟨rfl, _, rfl, by decide⟩, rfl⟩
theorem fS_ok : fS.Ok := by
 refine ⟨?_, by simp [fS], by decide +kernel, ?_, fun p hp v hv => (fS_lab p hp v hv).1, fun p hp v hv => (fS_lab p hp v hv).2, ?_, ?_, by decide +kernel⟩
 · intro v hv
   simp only [fS, List.mem_cons, List.not_mem_nil, or_false] at hv
   rcases hv with rfl | rfl | rfl <;> exact .inr ⟨rfl, _, rfl, by decide⟩
 · intro p hp
   simp only [fS, List.mem_cons, List.not_mem_nil, or_false] at hp
   rcases hp with rfl | rfl <;> exact .inl rfl
 · intro v hv
   simp only [fS, List.mem_cons, List.not_mem_nil, or_false] at hv
   rcases hv with rfl | rfl | rfl <;> rfl
 · intro v hv
   obtain ⟨s, hs, rfl⟩ := List.mem_map.mp hv
   simp only [fS, List.mem_cons, List.not_mem_nil, or_false] at hs
   rcases hs with rfl | rfl <;> decide +kernel
theorem fS_picks : Picks fS [1] (List.range 2) := ⟨by simp [fS], by simp [fS], by simp, List.nodup_range, by simp, by simp⟩
theorem fS_part : (fS.part [1] (List.range 2)).cols = ([("integer", [.int 2]), ("integer", [.int 5])] : List (Str × List V)) := rfl
theorem slTake (zs : List Int) : SlR none (some 40) (intsL (zs ++ [0])) (intsL ((zs ++ [0]).take 40)) := by
 have e : intsL ((zs ++ [0]).take 40) = (intsL (zs ++ [0])).take 40 := by simp [intsL, List.map_take]
 rw [e]; exact (SlR.upto 40 _ : SlR none (some ((40:Nat):Int)) _ _)
theorem B_cat0 (ok : c.Ok prog w K n) {l b : Addr} {xs ys : List V} {Q : V → Sig → Prop} (hl : ∃ us m, c.h₀.get? l = some { cls := .type "list", data := .seq us m } ∧ us.toList.map E = xs) (hb : σ b = some (.list ys)) (hlen : xs.length + ys.length ≤ 100000) (h : ∀ a, σ a = none → Q (.ref a) (σ.set a (.list (xs ++ ys)))) : BIN prog w c ρ σ .Add (.ref l) (.ref b) Q := by
 intro u v hu hv s F
 obtain rfl := E_ref hu; obtain rfl := E_ref hv
 revert hl; refine ex2 fun us m => ?_; rintro ⟨e1, e2⟩
 have e1 := F.keep _ _ e1
 refine (ex2 fun vs m2 => ?_) (F.own b _ hb); rintro ⟨e3, e4⟩
 obtain ⟨F₂, hn⟩ := F.alloc (o := { cls := .type "list", data := .seq (us ++ vs) }) (o' := .list (xs ++ ys)) (t := s.toks) ok rfl ⟨_, _, Heap.get?_push_size _ rfl, by simp [e2, e4]⟩
 refine PySem.P.add_list e1 e3 ⟨_, F₂, h _ hn⟩ (Yk ?_)
 rw [← e2, ← e4] at hlen
 simpa using hlen
theorem law_body (hK : KOk K) (ok' : c'.Ok prog w K n) (hn : 15 ≤ n) (sc' : c'.env.scope = fnScope (topStmt 219)) (gl' : c'.gl = ([("Evaluator", .ref (gv K "Evaluator")), ("new_frame", .ref (gv K "new_frame")), ("integer", .ref (gv K "integer")), ("b_subset_frame", .ref (gv K "b_subset_frame")), ("missing", .ref (gv K "missing")), ("_law_frame", .ref (gv K "_law_frame")), ("b_rownames", .ref (gv K "b_rownames")), ("_law_index", .ref (gv K "_law_index")), ("_law_parts_right", .ref (gv K "_law_parts_right")), ("_law_flags_right", .ref (gv K "_law_flags_right")), ("_law_names_right", .ref (gv K "_law_names_right")), ("_law_items_right", .ref (gv K "_law_items_right"))] : List (Str × V)))
 (fr : ∀ τ, FRS c' τ) {sc : Addr} {zs : List Int} {Q : V → Sig → Prop} (hs : ∃ us m, c'.h₀.get? sc = some { cls := .type "list", data := .seq us m } ∧ us.toList.map E = intsL zs) (hzl : zs.length ≤ 63) (h : ∀ σ', Q (.bool true) σ') :
 STS prog w c' [("script", some (.ref sc)), ("mill", none), ("interp", none), ("sample", none), ("second", none), ("df", none), ("high", none), ("wide", none), ("words", none), ("ix", none), ("rows", none), ("jx", none), ("columns", none)] σ (fnBody (topStmt 219)) (QE Q) := by
 k_lt w
 refine fun z0 hz00 => ?_
 have lz0 : Le σ (σ.set z0 (.list [.int 0])) := Yc hz00
 have hz0 : (σ.set z0 (.list [.int 0])) z0 = some (.list [.int 0]) := Ya
 generalize σ.set z0 (.list [.int 0]) = σ1 at lz0 hz0 ⊢
 k_lt w
 refine B_cat0 ok' hs hz0 (by simp [intsL]; omega) fun s2 hs20 => ?_
 have ls2 : Le σ1 (σ1.set s2 (.list (intsL (zs ++ [0])))) := Yc hs20
 have e2 : intsL zs ++ [V.int 0] = intsL (zs ++ [0]) := by simp [intsL]
 rw [e2]
 have hs2 : (σ1.set s2 (.list (intsL (zs ++ [0])))) s2 = some (.list (intsL (zs ++ [0]))) := Ya
 generalize σ1.set s2 (.list (intsL (zs ++ [0]))) = σ2 at ls2 hs2 ⊢
 k_lt w
 refine ⟨s2, _, intsL ((zs ++ [0]).take 40), rfl, hs2, by simp [intsL]; omega, slTake zs, fun s3 hs30 => ?_⟩
 generalize hzz : (zs ++ [0]).take 40 = zz
 have hz1 : zz ≠ [] := by rw [← hzz]; cases zs <;> simp
 have hz2 : zz.length ≤ 64 := by rw [← hzz, List.length_take]; omega
 have ls3 : Le σ2 (σ2.set s3 (.list (intsL zz))) := Yc hs30
 have hs3 : (σ2.set s3 (.list (intsL zz))) s3 = some (.list (intsL zz)) := Ya
 generalize σ2.set s3 (.list (intsL zz)) = σ3 at ls3 hs3 ⊢
 k_lt w
 refine fun ml hml0 => ?_
 have hM : Mill (σ3.set ml (.list [.int 0, .int 0, .ref s3])) ml s3 0 := ⟨0, 0, zz, Ya, Nat.le_refl _, Yc hml0 _ _ hs3, hz1, hz2⟩
 generalize σ3.set ml (.list [.int 0, .int 0, .ref s3]) = σ4 at hM ⊢
 k_lt w
 obtain ⟨oo, hoo⟩ := Option.ne_none_iff_exists'.mp hM.nn
 refine CALL.offM (Q' := fun v τ => Le (σ4.del ml) τ ∧ ∃ x, v = .ref x ∧ Itp K τ x) ok' hoo (fun c10 S10 ok10 => mk_Evaluator hK ok10 (by omega) fun x τ le hx => ⟨le, x, rfl, hx⟩) ?_
 refine fun v τ => an2 fun le => ex1 fun ip => ?_; rintro ⟨rfl, hI⟩; intro hτ
 obtain ⟨hM5, mo5⟩ := hM.refit hoo le hτ
 have hI5 : Itp K ((τ.set ml oo).del ml) ip := by rw [Mine.refit hτ]; exact hI
 generalize τ.set ml oo = σ5 at hM5 hI5 ⊢
 k_lt w
 refine fun a1 ha10 => ?_
 have la1 : Le σ5 (σ5.set a1 (.list [.int 1, .int 2, .int 3])) := Yc ha10
 have ha1 : (σ5.set a1 (.list [.int 1, .int 2, .int 3])) a1 = some (.list [.int 1, .int 2, .int 3]) := Ya
 generalize σ5.set a1 (.list [.int 1, .int 2, .int 3]) = σ6 at la1 ha1 ⊢
 k_lt w
 refine Yb (ct_integer hK ok' (by omega) (sk := .list a1) ⟨rfl, ha1⟩ (by simp) fun c1 dc1 qc1 hqc1 frc1 => ?_)
 obtain ⟨lc1, hc1⟩ := Yh (k := "integer") (a := .none) hqc1 frc1
 generalize Yj K (σ6.set qc1 (.list [.int 1, .int 2, .int 3])) c1 dc1 (.str "integer") (.ref qc1) .none = σ7 at lc1 hc1 ⊢
 k_lt w
 refine fun a2 ha20 => ?_
 have la2 : Le σ7 (σ7.set a2 (.list [.int 4, .int 5, .int 6])) := Yc ha20
 have ha2 : (σ7.set a2 (.list [.int 4, .int 5, .int 6])) a2 = some (.list [.int 4, .int 5, .int 6]) := Ya
 generalize σ7.set a2 (.list [.int 4, .int 5, .int 6]) = σ8 at la2 ha2 ⊢
 k_lt w
 refine Yb (ct_integer hK ok' (by omega) (sk := .list a2) ⟨rfl, ha2⟩ (by simp) fun c2 dc2 qc2 hqc2 frc2 => ?_)
 obtain ⟨lc2, hc2⟩ := Yh (k := "integer") (a := .none) hqc2 frc2
 generalize Yj K (σ8.set qc2 (.list [.int 4, .int 5, .int 6])) c2 dc2 (.str "integer") (.ref qc2) .none = σ9 at lc2 hc2 ⊢
 k_lt w
 refine fun cs hcs0 => ?_
 have lcs : Le σ9 (σ9.set cs (.list [.ref c1, .ref c2])) := Yc hcs0
 have hcs : (σ9.set cs (.list [.ref c1, .ref c2])) cs = some (.list [.ref c1, .ref c2]) := Ya
 generalize σ9.set cs (.list [.ref c1, .ref c2]) = σ10 at lcs hcs ⊢
 k_lt w
 refine fun ns hns0 => ?_
 have lns : Le σ10 (σ10.set ns (.list (txs [("u" : Str), "v"]))) := Yc hns0
 have hns : (σ10.set ns (.list (txs [("u" : Str), "v"]))) ns = some (.list (txs [("u" : Str), "v"])) := Ya
 show RUN _ _ _ _ _ (σ10.set ns (.list (txs [("u" : Str), "v"])))
 generalize σ10.set ns (.list (txs [("u" : Str), "v"])) = σ11 at lns hns ⊢
 k_lt w
 refine fun a3 ha30 => ?_
 have la3 : Le σ11 (σ11.set a3 (.list [.int 1, .int 2, .int 3])) := Yc ha30
 have ha3 : (σ11.set a3 (.list [.int 1, .int 2, .int 3])) a3 = some (.list [.int 1, .int 2, .int 3]) := Ya
 generalize σ11.set a3 (.list [.int 1, .int 2, .int 3]) = σ12 at la3 ha3 ⊢
 k_lt w
 refine Yb (ct_integer hK ok' (by omega) (sk := .list a3) ⟨rfl, ha3⟩ (by simp) fun rm drm qrm hqrm frrm => ?_)
 obtain ⟨lrm, hrm⟩ := Yh (k := "integer") (a := .none) hqrm frrm
 generalize Yj K (σ12.set qrm (.list [.int 1, .int 2, .int 3])) rm drm (.str "integer") (.ref qrm) .none = σ13 at lrm hrm ⊢
 k_lt w
 refine Yb (ct_new_frame hK ok' (by omega) (skc := .list cs) (skn := .list ns) (cols := fS.cols) ⟨rfl, (by k_lt le : Le σ10 σ13) _ _ hcs⟩ (.cons (hc1.mono (by k_lt le)) (.cons (hc2.mono (by k_lt le)) .nil)) ⟨rfl, (by k_lt le : Le σ11 σ13) _ _ hns⟩ hrm (by simp) (by simp) rfl (by simp [fS]) fun sx slx sax snx snl scx scl σ14 l14 hSF => ?_)
 have hS : FrmE K σ14 sx fS := ⟨_, _, _, _, _, _, _, _, _, hSF⟩
 k_lt w
 refine fun t0 ht00 => ?_
 have lt0 : Le σ14 (σ14.set t0 (.tup [.none, .ref sx])) := Yc ht00
 have ht0 : (σ14.set t0 (.tup [.none, .ref sx])) t0 = some (.tup [.none, .ref sx]) := Ya
 generalize σ14.set t0 (.tup [.none, .ref sx]) = σ15 at lt0 ht0 ⊢
 k_lt w
 refine fun a4 ha40 => ?_
 have la4 : Le σ15 (σ15.set a4 (.list [.int 2])) := Yc ha40
 have ha4 : (σ15.set a4 (.list [.int 2])) a4 = some (.list [.int 2]) := Ya
 generalize σ15.set a4 (.list [.int 2]) = σ16 at la4 ha4 ⊢
 k_lt w
 refine Yb (ct_integer hK ok' (by omega) (sk := .list a4) ⟨rfl, ha4⟩ (by simp) fun iv div qiv hqiv friv => ?_)
 obtain ⟨liv, hiv⟩ := Yh (k := "integer") (a := .none) hqiv friv
 generalize Yj K (σ16.set qiv (.list [.int 2])) iv div (.str "integer") (.ref qiv) .none = σ17 at liv hiv ⊢
 k_lt w
 refine fun t1 ht10 => ?_
 have lt1 : Le σ17 (σ17.set t1 (.tup [.none, .ref iv])) := Yc ht10
 have ht1 : (σ17.set t1 (.tup [.none, .ref iv])) t1 = some (.tup [.none, .ref iv]) := Ya
 generalize σ17.set t1 (.tup [.none, .ref iv]) = σ18 at lt1 ht1 ⊢
 k_lt w
 refine Yb (ct_missing hK ok' (by omega) fun mv σ19 l19 hmv => ?_)
 k_lt w
 refine fun t2 ht20 => ?_
 have lt2 : Le σ19 (σ19.set t2 (.tup [.none, .ref mv])) := Yc ht20
 have ht2 : (σ19.set t2 (.tup [.none, .ref mv])) t2 = some (.tup [.none, .ref mv]) := Ya
 generalize σ19.set t2 (.tup [.none, .ref mv]) = σ20 at lt2 ht2 ⊢
 k_lt w
 refine fun al hal0 => ?_
 have lal : Le σ20 (σ20.set al (.list [.ref t0, .ref t1, .ref t2])) := Yc hal0
 have hal : (σ20.set al (.list [.ref t0, .ref t1, .ref t2])) al = some (.list [.ref t0, .ref t1, .ref t2]) := Ya
 generalize σ20.set al (.list [.ref t0, .ref t1, .ref t2]) = σ21 at lal hal ⊢
 k_lt w
 have hiv21 : Vec K σ21 iv "integer" qiv (ups [1]) .none := hiv.mono (by k_lt le)
 k_lt w
 refine Yb (ct_bsub_two hK ok' (by omega) (hS.mono (by k_lt le)) fS_ok fS_picks (.vec hiv21 (.inl rfl) fun b => posOk_up hK hiv21 (by simp)) (.miss (hmv.mono (by k_lt le)) rfl) (by simp) hal ((by k_lt le : Le σ15 σ21) _ _ ht0) ((by k_lt le : Le σ18 σ21) _ _ ht1) ((by k_lt le : Le σ20 σ21) _ _ ht2) fun sy σ22 l22 hsy => ?_)
 obtain ⟨yl, ya, ynx, ynl, ycx, ycl, yrx, yrl, yvs, hYF⟩ := hsy
 have hys := hYF.self
 have hyc := hYF.cs
 rw [fS_part] at hyc
 have hM22 := hM5.mono (by k_lt le : Le σ5 σ22)
 have hI22 := hI5.mono (Le.del (ml := ml) (by k_lt le : Le σ5 σ22))
 cases hyc with
 | @cons u1 ul1 _ _ _ _ hu1 hyc2 => cases hyc2 with
 | @cons u2 ul2 _ _ _ _ hu2 hyc3 =>
 cases hyc3
 k_lt v
 refine R_ifF (τ := σ22) ?_ fun σ30 l30 => ?_
 · k_lt w
   refine R_ex <| X_comp ok' [] [] (compAt (by k_lt co) (by k_lt cp) (by k_lt gs)) ?_ (hs := fun _ => rfl)
   k_lt w
   refine ⟨.list yl, [.ref u1, .ref u2], fun i ys τ => ys = ([V.ref ul1, V.ref ul2]).take i ∧ τ = σ22, ⟨rfl, hys.list⟩, Yk (by simp), ⟨rfl, rfl⟩, ⟨?_, ?_⟩, ?_⟩
   · rintro i ys τ ⟨_, rfl⟩; exact hys.list
   · rintro c3 i v ys τ ok3 gl3 k1 k2 hx ⟨rfl, rfl⟩
     refine Yt ?_
     match i, hx with
     | 0, hx =>
      cases hx
      k_lt w
      exact ⟨rfl, rfl⟩
     | 1, hx =>
      cases hx
      k_lt w
      exact ⟨rfl, rfl⟩
   rintro D ys τ ⟨rfl, rfl⟩ hD
   have lD : Le τ (τ.set D (.list [.ref ul1, .ref ul2])) := Yc hD
   have hDD : (τ.set D (.list [.ref ul1, .ref ul2])) D = some (.list [.ref ul1, .ref ul2]) := Ya
   show RUN _ _ _ _ _ (τ.set D (.list [.ref ul1, .ref ul2]))
   generalize τ.set D (.list [.ref ul1, .ref ul2]) = σ23 at lD hDD ⊢
   k_lt w
   refine fun w1 hw10 => ?_
   have lw1 : Le σ23 (σ23.set w1 (.list [.int 2])) := Yc hw10
   have hw1 : (σ23.set w1 (.list [.int 2])) w1 = some (.list [.int 2]) := Ya
   generalize σ23.set w1 (.list [.int 2]) = σ24 at lw1 hw1 ⊢
   k_lt w
   refine fun w2 hw20 => ?_
   have lw2 : Le σ24 (σ24.set w2 (.list [.int 5])) := Yc hw20
   have hw2 : (σ24.set w2 (.list [.int 5])) w2 = some (.list [.int 5]) := Ya
   generalize σ24.set w2 (.list [.int 5]) = σ25 at lw2 hw2 ⊢
   k_lt w
   refine fun w3 hw30 => ?_
   have lw3 : Le σ25 (σ25.set w3 (.list [.ref w1, .ref w2])) := Yc hw30
   have hw3 : (σ25.set w3 (.list [.ref w1, .ref w2])) w3 = some (.list [.ref w1, .ref w2]) := Ya
   generalize σ25.set w3 (.list [.ref w1, .ref w2]) = σ26 at lw3 hw3 ⊢
   have sc2 : ∀ v ∈ [V.int 2], scal v = true := by simp [sci]
   have sc5 : ∀ v ∈ [V.int 5], scal v = true := by simp [sci]
   have hlay : (PyData.list [.list ([V.int 2].map Dv), .list ([V.int 5].map Dv)]).canLay0 = true := by
    simp only [PyData.canLay0, PyData.canLayAll0, Yl sc2, Yl sc5, Bool.and_self]
   have hrd : ∀ {q a b : Addr}, σ26 q = some (.list [.ref a, .ref b]) → σ26 a = some (.list [.int 2]) → σ26 b = some (.list [.int 5]) → RD σ26 (.ref q) (.list [.list ([V.int 2].map Dv), .list ([V.int 5].map Dv)]) := fun a1 a2 a3 =>
    .list a1 (.cons (Yo a2 sc2) (.cons (Yo a3 sc5) .nil))
   k_lt w
   refine C_neD ok' (hrd ((by k_lt le : Le σ23 σ26) _ _ hDD) ((by k_lt le : Le τ σ26) _ _ hu1.list) ((by k_lt le : Le τ σ26) _ _ hu2.list)) (hrd hw3 ((by k_lt le : Le σ24 σ26) _ _ hw1) ((by k_lt le : Le σ25 σ26) _ _ hw2)) hlay hlay (by simp only [PyData.depth, PyData.depthAll, depthAll_Dv]; omega) ?_
   k_lt w
   try rw [PySem.SeqAt.eqv_refl _ hlay]
   k_lt w
   exact ⟨rfl, by k_lt le⟩
 have hM30 := hM22.mono l30
 have hI30 := hI22.mono (Le.del (ml := ml) l30)
 k_lt w
 refine Yb (ct_law_frame hK ok' (by omega) hM30 (by omega) fun ft x f σ31 mo31 hM31 hft hF31 hL => ?_)
 have hI31 := hI30.mono mo31
 refine G_tuple ok' (.tup ft) ⟨rfl, hft⟩ (fun _ _ e => by cases e) rfl ?_
 k_lt w
 refine fun t5 ht50 => ?_
 have lt5 : Le σ31 (σ31.set t5 (.tup [.none, .ref x])) := Yc ht50
 have ht5 : (σ31.set t5 (.tup [.none, .ref x])) t5 = some (.tup [.none, .ref x]) := Ya
 generalize σ31.set t5 (.tup [.none, .ref x]) = σ32 at lt5 ht5 ⊢
 k_lt w
 refine fun bl hbl0 => ?_
 have lbl : Le σ32 (σ32.set bl (.list [.ref t5])) := Yc hbl0
 have hbl : (σ32.set bl (.list [.ref t5])) bl = some (.list [.ref t5]) := Ya
 generalize σ32.set bl (.list [.ref t5]) = σ33 at lbl hbl ⊢
 k_lt w
 have l31 : Le σ31 σ33 := by k_lt le
 have hM33 := hM31.mono l31
 have hI33 := hI31.mono (Le.del (ml := ml) l31)
 have hF33 := hF31.mono (Le.del (ml := ml) l31)
 have ht5' := (by k_lt le : Le σ32 σ33) _ _ ht5
 have nt5 : t5 ≠ ml := by
  rintro rfl
  obtain ⟨a, m, z, q1, _⟩ := hM33
  rw [ht5'] at q1; cases q1
 have nbl : bl ≠ ml := by
  rintro rfl
  obtain ⟨a, m, z, q1, _⟩ := hM33
  rw [hbl] at q1; cases q1
 obtain ⟨o2, ho2⟩ := Option.ne_none_iff_exists'.mp hM33.nn
 refine CALL.offM (Q' := fun v τ => Le (σ33.del ml) τ ∧ ∃ y ly, v = .ref y ∧ Vec K τ y "character" ly (rowTexts f) .none) ok' ho2 (fun c10 S10 ok10 => Yb (ct_b_rownames hK ok10 (by omega) hF33 hL.ok.lab hL.ok.m0 (by rw [Ye nbl]; exact hbl) (by rw [Ye nt5]; exact ht5') fun y ly τ le hy => ⟨le, y, ly, rfl, hy⟩)) ?_
 refine fun v τ => an2 fun le => ex2 fun wv wl => ?_; rintro ⟨rfl, hw⟩; intro hτ
 obtain ⟨hM34, mo34⟩ := hM33.refit ho2 le hτ
 have hw34 : Vec K ((τ.set ml o2).del ml) wv "character" wl (rowTexts f) .none := by rw [Mine.refit hτ]; exact hw
 have hI34 := hI33.mono mo34
 have hF34 := hF33.mono mo34
 generalize τ.set ml o2 = σ34 at hM34 mo34 hw34 hI34 hF34 ⊢
 have hw34' := hw34.mono Le.ofDel
 k_lt w
 refine (ex1 fun rs => an5 fun hrs hrl hrn hre _ => ?_) hL.rt
 have h1 := hL.h1; have h4 := hL.h4; have w1 := hL.w1; have w3 := hL.w3
 have hss := hL.sl
 k_lt w
 refine Yb (ct_law_index hK ok' (by omega) (rs := rs) hM34 (by omega) (by rw [← hrs]; exact hw34.list) hrl h1 h4 hrn hre fun it ix rl is ai σ35 mo35 hM35 hit hrl35 hix hin hil hi4 => ?_)
 k_lt w
 try rw [← hrs] at hix
 refine G_tuple ok' (.tup it) ⟨rfl, hit⟩ (fun _ _ e => by cases e) rfl ?_
 have hI35 := hI34.mono mo35
 have hF35 := hF34.mono mo35
 obtain ⟨xl, xa, xnx, xnl, xcx, xcl, xrx, xrl, xvs, hXF⟩ := hF35
 have hXF' := hXF.mono Le.ofDel
 have x1 := hXF'.self; have x2 := hXF'.at'; have x3 := hXF'.nm
 k_lt w
 refine Yb (ct_law_index hK ok' (by omega) (m := f.cols.length) (rs := f.ss) hM35 (by omega) hXF.nm.list hss w1 (by omega) hL.ok.sd hL.ok.ne fun jt jx jl js aj σ36 mo36 hM36 hjt hjl36 hjx hjn hjl hj4 => ?_)
 refine G_tuple ok' (.tup jt) ⟨rfl, hjt⟩ (fun _ _ e => by cases e) rfl ?_
 have hI36 := hI35.mono mo36
 have hF36 : FrmE K (σ36.del ml) x f := FrmE.mono ⟨_, _, _, _, _, _, _, _, _, hXF⟩ mo36
 have hix36 := hix.mono mo36
 have hrl36 := mo36 _ _ hrl35
 rw [← hss] at hjx hjl
 have od : Le (σ36.del ml) σ36 := Le.ofDel
 k_lt w
 refine Yb (ct_parts_right hK ok' (by omega) (hI36.mono od) (hF36.mono od) hL (hix36.mono od) (hjx.mono od) (od _ _ hrl36) (od _ _ hjl36) ⟨hil, hjl, hin, hjn, by omega, by omega⟩ ?_)
 k_lt w
 refine Yb (ct_flags_right hK ok' (by omega) hM36 (by omega) hI36 hF36 hL fun σ37 l37 => ?_)
 have hF37 := hF36.mono l37
 have hI37 := hI36.mono l37
 k_lt w
 refine Yb (ct_law_names_right hK ok' (by omega) (fr _) hF37 hL ?_)
 k_lt w
 refine Yb (ct_items_right hK ok' (by omega) hF37 hL ?_)
 k_lt w
 obtain ⟨e1, e2, e3, e4, wl2, e6, e7, hob, hwl⟩ := hI37
 unfold evFs at hob
 k_lt w
 refine fun q hq => ?_
 have lq : Le σ37 (σ37.set q (.list [])) := Yc hq
 k_lt w
 refine C_eqD ok' (Yo (lq _ _ hwl) (by simp)) (Yo Ya (by simp)) rfl rfl (by simp [PyData.depth, PyData.depthAll]) ?_
 k_lt w
 try rw [PySem.SeqAt.eqv_refl _ rfl]
 k_lt w
 exact h _
end
section
variable {n : Nat} {c : Cx} {ρ : Loc} {σ : Sig}
theorem law_top (hK : KOk K) {s : Shared} (hB : Base prog w K s.heap) (hg : s.gens = #[]) {sc : Addr} {us : Array Value} {m : Nat} {zs : List Int} (hsc : s.heap.get? sc = some { cls := .type "list", data := .seq us m }) (hus : us.toList.map E = intsL zs) (hz : zs.length ≤ 63)
 {R : Result → Shared → Prop} (hR : ∀ s', (∀ b o, s.heap.get? b = some o → s'.heap.get? b = some o) → s'.os = s.os → s'.gens = #[] → R (.ok (.ret (.bool true))) s') :
 codeAny (model prog w) callerA (.call (.ref (gv K "law")) ⟨[.ref sc], []⟩) R s := by
 refine HENTER (n := 15) (xs := [.ref sc]) (Q := fun v => v = .bool true) ["script"] ["mill", "interp", "sample", "second", "df", "high", "wide", "words", "ix", "rows", "jx", "columns"] (gl_law K) hB hg rfl rfl (by decide) (by decide) (hK.f (219, "law", []) (List.mem_of_getElem? (i := 9) rfl)) (by decide +kernel) rfl rfl
  (show scopeOk (fnScope (topStmt 219)) ["script", "mill", "interp", "sample", "second", "df", "high", "wide", "words", "ix", "rows", "jx", "columns"] ["Evaluator", "new_frame", "integer", "b_subset_frame", "missing", "_law_frame", "b_rownames", "_law_index", "_law_parts_right", "_law_flags_right", "_law_names_right", "_law_items_right"] = true by decide +kernel) (gvs_law hK).all
  (fun c' ok' h1 h2 fr h0 => ?_) fun v s' hv k1 k2 k3 => ?_
 · exact law_body (Q := fun v _ => v = .bool true) hK ok' (by omega) h1 h2 fr ⟨us, m, by rw [h0]; exact hsc, hus⟩ hz fun _ => rfl
 · obtain rfl := E_bool hv
   exact hR s' k1 k2 k3
theorem law_all {w₀ : World} {K₀ : Frag} (hK : KOk K₀) : LawAt w₀ K₀ := law_ever (fun hK _ hB hg _ _ _ _ hsc hus hz _ hR => law_top hK hB hg hsc hus hz hR) w₀ K₀ hK
end
theorem intsOf {vs : List Value} {zs : List Int} (h : IntsAre vs zs) : vs.map E = intsL zs := by
 induction h with
 | nil => rfl
 | cons n t _ ih => rw [List.map_cons, ih]; rfl
theorem wellList {P : Params} {h : Heap} {a : Addr} {vs : List Value} {xs : List PyData} (w : Well P h (.ref a) (ofPy (.list xs))) (hL : h.IsList a vs.toArray) : h.get? a = some { cls := .type "list", data := .seq vs.toArray } := by
 have w' : Well P h (.ref a) (.list (ofPys xs)) := w
 generalize ofPys xs = ys at w'
 cases w' with
 | list he _ =>
  revert hL; refine ex1 fun o => an3 fun ho _ => ?_; rintro ⟨n, hd⟩
  rw [he] at ho
  cases ho
  cases hd
  exact he
theorem law_walk {q : Program} {loose : List Str} {XP : (Str → Option Value) → Heap → Prop} {K : Params → Frag} (hK : ∀ P, KOk (K P)) (hsm : ∀ P, ∃ o, (K P).lookup sysModules = some o) (hlaw : ∀ P, nsIn (K P) mainGlobals "law" = some (some (.ref (gv (K P) "law")))) {d : DefRec} {kwd : List (Str × Expr)} (hd : d.name = "law") :
 WalkO q loose XP (fun w h => (K w.params).In h) rw_pq1385_01.row.toRowW d kwd (fun f vs => PySem.call f vs) := by
 intro w s₀ s₁ mg mb G Y fa o pm cd doc dV kV ho hod hcd hD hmg hg args vals as hpre hlay hrd hwl hlo
 obtain rfl : fa = gv (K w.params) "law" := by
  have e := mg_of Y G.T.g (hlaw w.params)
  rw [hd] at hmg
  rw [hmg] at e
  cases e; rfl
 have hB : Base rw_pq1385_01.row.toRowW.prog w (K w.params) s₁.heap := ⟨Y, ⟨mg, G.T.g⟩, ⟨mb, G.T.b, G.T.builtins⟩, G.T.nolimit, G.T.nodigits, by obtain ⟨o, e⟩ := hsm w.params; exact ⟨o, Y _ _ e⟩⟩
 clear hmg hD hod ho hcd
 wrow_args hpre hlay hrd hwl hlo
 rename IntsAre _ _ => hI
 rename Heap.IsList _ _ _ => hL
 rename Well _ _ _ _ => w1
 rename ¬ _ => hlen
 have he := wellList w1 hL
 have hus := intsOf hI
 have hz := Int.ofNat_le.mp (Int.not_lt.mp hlen)
 refine enter_call (codeAny_mono ?_ (fun _ _ g => GoodW.toG g))
 refine law_all (hK _) hB hg he (by simpa using hus) hz fun s' k1 k2 k3 => ⟨.inl ⟨.bool true, .bool true, [], rfl, fun _ => rfl, ReadsW.bool true, ?_, fun _ => ⟨List.nodup_nil, fun a ha => by cases ha⟩⟩, k1, k2, k3⟩
 generalize [ofPy (PyData.list (List.map PyData.int _))] = aa
 first
  | kernel_rfl
  | with_unfolding_all rfl
  | (simp [RowW.claim, OpenRow.toRowW, OpenLaw.row, rw_pq1385_01]; done)
theorem wit : rw_pq1385_01.row.toRowW.promised := by w_witness2
theorem law_holds (said : rw_pq1385_01.wellSaid = true) (tabs : pw_pq1385_01.tablesWhole = true) : rw_pq1385_01.Holds := by
 refine holds_law said fun k1 => ?_
 have hq : ∃ d kwd, defOf q0 rw_pq1385_01.row.name = some (d, kwd) ∧ pw_pq1385_01.theDef rw_pq1385_01.row.name = some (d.params, d.body, d.scope) ∧ kwWritten? d.params.kwonlyargs d.params.kw_defaults = some kwd ∧ d.name = "law" :=
  ⟨((defOf q0 "law").get (by kernel_rfl)).1, ((defOf q0 "law").get (by kernel_rfl)).2, by kernel_rfl, by kernel_rfl, by kernel_rfl, by kernel_rfl⟩
 obtain ⟨d, kwd, e1, e2, e3, e4⟩ := hq
 exact holds_open (r := rw_pq1385_01.row) (q := q0) (loose := lo) (Xt := fun _ => true) (XP := fun _ _ => True) (YP := fun w h => (KF w.params).In h) (d := d) (kwd := kwd) (N := 20000) top_left
  (fun w s e => Frag.in_of (k_keys w.params) e) (fun w h h' x k => Frag.In.keeps x k) (fun _ _ => trivial) (fun _ _ _ _ _ => trivial) e1 e2 e3 (fun _ _ => recFacts_nil rfl) (by kernel_rfl) k1 (by kernel_rfl) ⟨rfl, rfl, rfl, rfl, rfl, tabs⟩ wit
  (law_walk (fun P => (kok P).1) (fun P => Option.isSome_iff_exists.mp (Bool.and_eq_true_iff.mp (kok P).2).2) (fun P => of_decide_eq_true (Bool.and_eq_true_iff.mp (kok P).2).1) e4)
end Mine
theorem PySem.Challenge.cw_pq1385_01_holds : PySem.Challenge.rw_pq1385_01.Holds :=
  Mine.law_holds Mine.said Mine.tabs
