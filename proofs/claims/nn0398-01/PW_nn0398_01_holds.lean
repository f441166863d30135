import PyProof.Rows.All
import Wide.All
import OpenK.AllK
import Wide.FinOn
import Lean
import PySem.Challenge.RW_nn0398_01
set_option Elab.async false
set_option maxRecDepth 100000
set_option compiler.extract_closed false
set_option bootstrap.genMatcherCode false
set_option genSizeOf false
set_option genInjectivity false
set_option linter.all false
section
open PySem PySem.W PyProof.Rows
namespace Mine
def Aa:=@Nat.le_trans
def Ab:=@wpAny_bind
def Ac:=@Nat.le_refl
def Ad:=@wpAny_pure
def Ae:=@List.length_append.{0}
def Af:=@wpAny_mono
def Ag:=@Nat.zero_le
def Ah:=@Nat.succ_le_succ
def Ai:=@List.append_assoc.{0}
def Aj:=@Nat.le_of_eq
def Ak:=@Nat.le_of_lt
def Al:=@wpS_pure
def An:=@Nat.eq_of_beq_eq_true
def Ao:=@Nat.le_add_right
def Ap:=@Nat.lt_of_lt_of_le
def Aq:=@Bool.and_eq_true_iff
def Ar:=@Nat.succ_pos
def As:=@Nat.lt_of_le_of_lt
def Au:=@Nat.add_le_add_left
def Av:=@List.all_eq_true.{0}
def Aw:=@List.length_map.{0,0}
def Ax:=@Nat.lt_succ_self
def Ay:=@Nat.add_le_add_right
def Az:=@Nat.le_succ_of_le
def A4:=@List.contains_iff_mem.{0}
def A5:=@Bool.false_ne_true
def A6:=@List.append_nil.{0}
def A7:=@Nat.add_assoc
def A8:=@decide_eq_true
def A9:=@Nat.le_succ
def Ba:=@of_decide_eq_true
def Bb:=@Nat.le_add_left
def Bc:=@Nat.zero_add
def Be:=@Nat.add_le_add
def Bf:=@List.mem_cons.{0}
def Bg:=@Nat.add_comm
def Bj:=@Nat.add_right_comm
def Bk:=@List.size_toArray.{0}
def Bl:=@Nat.le_of_succ_le
def Bm:=@List.getElem?_eq_some_iff.{0}
def Bn:=@Bool.eq_false_iff
def Bo:=@List.mem_singleton.{0}
def Bp:=@List.getElem?_append_left.{0}
def Bq:=@List.takeWhile_cons.{0}
def Br:=@List.contains_cons.{0}
def Bs:=@Nat.sub_lt_sub_left
def Bv:=@List.length_reverse.{0}
def Bw:=@Nat.le_of_lt_succ
def Bx:=@Array.getElem?_toList.{0}
def By:=@Int.natCast_nonneg
def Bz:=@Nat.lt_succ_of_le
def B1:=@Nat.lt_succ_of_lt
def B3:=@List.mem_range
def B4:=@List.getElem?_eq_getElem.{0}
def B5:=@Nat.lt_add_of_pos_right
def B6:=@Nat.mul_le_mul_left
def B7:=@Int.ofNat_le
def B8:=@Nat.ne_of_lt
def B9:=@Nat.not_le_of_lt
def Ca:=@Nat.le_of_not_lt
def Cb:=@List.mem_append_right.{0}
def Cc:=@List.mem_reverse.{0}
def Cd:=@List.mem_append.{0}
def Ce:=@Bool.or_false
def Cf:=@Array.toList_append.{0}
def Cg:=@Bool.not_eq_true'
def Ci:=@Nat.min_eq_left
def Cj:=@Bool.and_false
def Ck:=@List.pairwise_append.{0}
def Cn:=@List.not_mem_nil.{0}
def Co:=@List.length_take.{0}
def Cp:=@List.map_append.{0,0}
def Cq:=@List.length_set.{0}
def Cr:=@Nat.succ_add_eq_add_succ
def Cs:=@Nat.not_succ_le_self
def Ct:=@List.reverse_reverse.{0}
def Cu:=@List.reverse_append.{0}
def Cv:=@Nat.add_sub_cancel_left
def Cw:=@Nat.sub_add_cancel
def Cy:=@List.mem_append_left.{0}
def Cz:=@Nat.sub_eq_zero_iff_le
def C0:=@List.take_append_drop.{0}
def C1:=@List.mem_of_getElem?.{0}
theorem nbl{a b:Nat}(h:Nat.ble a b=true):a<=b:=Nat.le_of_ble_eq_true h
set_option genCtorIdx false in
inductive AVal where
 |none
 |bool (b:Bool)
 |int (i:Int)
 |str (s:List Nat)
 |tup (xs:List AVal)
 |lst (xs:List AVal)
 |dict (ks:List (List Nat)) (xs:List AVal)
 |range (lo hi:Int)
 |inst (c:Nat) (ns:List Nat) (xs:List AVal)
inductive Op2 | add | sub | mul | fdiv | mod | pow
inductive Cop | eq | ne | lt | le | gt | ge | is | isnot | isin | notin
inductive Bi | len | ord | chr | int1 | int16 | str | abs | min | max | range1 | range2 | list | tuple | sorted
set_option genCtorIdx false in
inductive Ex where
 |lit (v:AVal)
 |loc (i:Nat)
 |glob (g:Nat)
 |attr (e:Ex) (a:Nat)
 |tup (es:List Ex)
 |flist (es:List Ex)
 |mlist (es:List Ex)
 |dict (ks:List (List Nat)) (es:List Ex)
 |call (f:Nat) (es:List Ex)
 |new (c:Nat) (es:List Ex)
 |meth (e:Ex) (m:Nat) (es:List Ex)
 |bi (b:Bi) (es:List Ex)
 |bin (o:Op2) (a b:Ex)
 |cmp (o:Cop) (a b:Ex)
 |cmp2 (o1 o2:Cop) (a b c:Ex)
 |not (a:Ex)
 |and (es:List Ex)
 |or (es:List Ex)
 |ite (c a b:Ex)
 |neg (a:Ex)
 |sub (e i:Ex)
 |slice (e lo hi:Ex)
 |comp (e it c:Ex)
set_option genCtorIdx false in
inductive Cm where
 |asg (i:Nat) (e:Ex)
 |asgT (is:List Nat) (e:Ex)
 |seta (o:Ex) (a:Nat) (e:Ex)
 |seti (o i e:Ex)
 |ex (e:Ex)
 |ret (e:Ex)
 |ite (c:Ex) (t f:List Cm)
 |whl (c:Ex) (b:List Cm)
 |loop (xs:List Nat) (unpack:Bool) (it:Ex) (b:List Cm)
 |raise (o what at_:Ex)
 |abort
 |cont
 |tryAt (b:List Cm) (x y:Nat)
noncomputable def B9k:List Str:=(["offset", "line", "column", "text", "at", "is_done", "starts", "peek", "take_while", "take", "coded", "join", "escape", "append", "spans", "get", "name", "charset", "key", "left", "right", "told", "body", "low", "high", "reverse", "is_empty", "begins", "trail", "cursor", "definitions", "is_pattern", "depth", "branch", "skip", "is_stop", "looped", "single", "counted", "count", "index", "choice", "sign_class", "quoted", "defined", "code_of", "named", "span", "complement", "member", "is_over", "lower", "pop", "split", "what"]:List String).map Str.ofString
noncomputable def clsNames:List Str:=(["Position", "ToolError", "RegexError", "Cursor", "CharSet", "Node", "Empty", "Never", "Chars", "Pair", "Cat", "Alt", "Loop", "Star", "Plus", "Opt", "Repeat", "Pattern", "RegexReader"]:List String).map Str.ofString
noncomputable def fN(c:Option Nat)(s:String):Option Nat×Str:=(c,s)
noncomputable def B0m:List (Option Nat×Str):=[fN (some 0) "__init__",fN (some 0) "told",fN none "position_of",fN (some 3) "__init__",fN (some 3) "is_done",fN (some 3) "peek",fN (some 3) "starts",fN (some 3) "take",fN (some 3) "skip",fN (some 3) "take_while",fN (some 3) "name",fN (some 3) "coded",fN (some 3) "escape",fN (some 3) "quoted",fN (some 4) "__init__",fN (some 4) "dot",fN (some 4) "of",fN (some 4) "span",fN (some 4) "made",fN (some 4) "is_empty",fN (some 4) "complement",fN (some 4) "key",fN none "named_class",fN (some 5) "told",fN (some 8) "__init__",fN (some 8) "told",fN (some 9) "__init__",fN (some 9) "told",fN (some 12) "__init__",fN (some 12) "told",fN (some 16) "__init__",fN (some 16) "told",fN none "spine",fN none "cat_all",fN none "chars_node",fN (some 17) "__init__",fN (some 17) "told",fN none "line_end",fN none "is_figure",fN (some 18) "__init__",fN (some 18) "is_over",fN (some 18) "is_stop",fN (some 18) "choice",fN (some 18) "branch",fN (some 18) "looped",fN (some 18) "counted",fN (some 18) "count",fN (some 18) "single",fN (some 18) "code_of",fN (some 18) "quoted",fN (some 18) "defined",fN (some 18) "sign_class",fN (some 18) "named",fN (some 18) "span",fN (some 18) "member",fN none "read_regex",fN none "read_pattern",fN none "_law_atoms",fN none "_law_loops",fN none "_law_odd",fN none "_law_tails",fN none "_law_known",fN none "_law_plain",fN none "_law_pen",fN none "_law_draw",fN none "_law_row",fN none "_law_spoilt",fN none "_law_drawn",fN none "_law_named",fN none "_law_chars",fN none "_law_run",fN none "_law_escape",fN none "_law_sign",fN none "_law_class",fN none "_law_cat",fN none "_law_choice",fN none "_law_quote",fN none "_law_counts",fN none "_law_brace",fN none "_law_atom",fN none "_law_read",fN none "_law_told",fN none "law"]
noncomputable def B7t:List Str:=(["FIGURES", "NAME_SIGNS", "HEX_SIGNS", "OCTAL_SIGNS", "PLAIN_ESCAPES", "TOP", "CLASS_SPANS", "MOST_REPEAT", "MOST_NESTED", "BLANKS", "STRAY_SIGNS", "NEWLINE", "_law_meta", "_law_hexes", "_law_letters"]:List String).map Str.ofString
noncomputable def codes(s:String):List Nat:=(Str.ofString s).cps.toList
noncomputable def sIdx:Nat->List Str->Str->Option Nat
 |_,[],_=>none
 |k,x::r,n=>if x==n then some k else sIdx (k+1) r n
structure CE where
 names:List Str
 globs:List Str
 cv:Option Str
 ok:List Str
 cells:List Str
noncomputable def CE.var(e:CE)(n:Str):Option Nat:=if e.cv==some n then some e.names.length else if e.ok.contains n then sIdx 0 e.names n else none
noncomputable def B0j(sc:Scope):List Str:=(sc.names.filter λx=>x.2==.globalImplicit).map (·.1)
noncomputable def A2j(sc:Scope)(k:NameKind):List Str:=(sc.names.filter λx=>x.2==k).map (·.1)
noncomputable def CE.inComp(e:CE)(sc:Scope)(x:Str):CE:=⟨e.names,B0j sc,some x,A2j sc .free,[]⟩
noncomputable def A3b:List Str->Bool
 |[]=>true
 |x::r=> !r.contains x&&A3b r
noncomputable def compOK(e:CE)(sc:Scope)(x:Str):Bool:=sc.kind==.function&&sc.names.all (λy=>y.2 !=.cell)&&sc.names.lookup x==some .local&&A3b (sc.names.map (·.1))&& (A2j sc .free).all (λn=>e.cells.contains n)&& !(A2j sc .free).contains x
noncomputable def B6y:NameKind->Bool
 |.local | .cell=>true
 |_=>false
noncomputable def A4k:PySem.Expr->Bool
 |.Call (.Name _ _) [] [] _=>true
 |_=>false
noncomputable def A1t:PySem.Expr->Bool
 |.ListComp .. =>false
 |.SetComp .. =>false
 |.DictComp .. =>false
 |_=>true
noncomputable def A9j:PySem.Expr->Bool
 |.Starred .. =>true
 |_=>false
noncomputable def usable(c:Nat):Bool:=[0,3,4,6,7,8,10,11,13,14,15,16,17,18].contains c
noncomputable def statics:List Nat:=[15,16,17,18,28]
noncomputable def A1c(sc:Scope):List Str:=(sc.names.filter λx=>B6y x.2).map (·.1)
noncomputable def ceOf(sc:Scope):CE:=⟨A1c sc,B0j sc,none,A1c sc,A2j sc .cell⟩
noncomputable def b0:List Cm:=[
  .seta (.loc 0) 0 (.loc 1),
  .seta (.loc 0) 1 (.loc 2),
  .seta (.loc 0) 2 (.loc 3)]
noncomputable def b1:List Cm:=[
  .ret (.tup [.attr (.loc 0) 1,.attr (.loc 0) 2])]
noncomputable def b2:List Cm:=[
  .asg 2 (.bi .min [.bi .max [.loc 1,.lit (.int 0)],.bi .len [.loc 0]]),
  .asg 3 (.lit (.int 1)),
  .asg 4 (.lit (.int 0)),
  .loop [5] false (.bi .range1 [.loc 2]) [
   .ite (.cmp .eq (.sub (.loc 0) (.loc 5)) (.lit (.str [10]))) [
    .asg 3 (.bin .add (.loc 3) (.lit (.int 1))),
    .asg 4 (.bin .add (.loc 5) (.lit (.int 1)))] []],
  .ret (.new 0 [.loc 2,.loc 3,.bin .add (.bin .sub (.loc 2) (.loc 4)) (.lit (.int 1))])]
noncomputable def b3:List Cm:=[
  .seta (.loc 0) 3 (.loc 1),
  .seta (.loc 0) 4 (.loc 2)]
noncomputable def b4:List Cm:=[
  .ret (.cmp .ge (.attr (.loc 0) 4) (.bi .len [.attr (.loc 0) 3]))]
noncomputable def b5:List Cm:=[
  .asg 2 (.bin .add (.attr (.loc 0) 4) (.loc 1)),
  .ite (.cmp .lt (.loc 2) (.bi .len [.attr (.loc 0) 3])) [
   .ret (.sub (.attr (.loc 0) 3) (.loc 2))] [],
  .ret (.lit (.str []))]
noncomputable def b6:List Cm:=[
  .ret (.cmp .eq (.slice (.attr (.loc 0) 3) (.attr (.loc 0) 4) (.bin .add (.attr (.loc 0) 4) (.bi .len [.loc 1]))) (.loc 1))]
noncomputable def b7:List Cm:=[
  .ite (.meth (.loc 0) 5 []) [
   .ret (.lit (.str []))] [],
  .asg 1 (.sub (.attr (.loc 0) 3) (.attr (.loc 0) 4)),
  .seta (.loc 0) 4 (.bin .add (.attr (.loc 0) 4) (.lit (.int 1))),
  .ret (.loc 1)]
noncomputable def b8:List Cm:=[
  .ite (.not (.meth (.loc 0) 6 [.loc 1])) [
   .ret (.lit (.bool false))] [],
  .seta (.loc 0) 4 (.bin .add (.attr (.loc 0) 4) (.bi .len [.loc 1])),
  .ret (.lit (.bool true))]
noncomputable def b9:List Cm:=[
  .asg 2 (.attr (.loc 0) 4),
  .whl (.and [.cmp .lt (.attr (.loc 0) 4) (.bi .len [.attr (.loc 0) 3]),.cmp .isin (.sub (.attr (.loc 0) 3) (.attr (.loc 0) 4)) (.loc 1)]) [
   .seta (.loc 0) 4 (.bin .add (.attr (.loc 0) 4) (.lit (.int 1)))],
  .ret (.slice (.attr (.loc 0) 3) (.loc 2) (.attr (.loc 0) 4))]
noncomputable def b10:List Cm:=[
  .asg 1 (.meth (.loc 0) 7 []),
  .ite (.or [.cmp .eq (.loc 1) (.lit (.str [])),.cmp .notin (.loc 1) (.glob 1),.cmp .isin (.loc 1) (.glob 0)]) [
   .ret (.lit (.str []))] [],
  .ret (.meth (.loc 0) 8 [.glob 1])]
noncomputable def b11:List Cm:=[
  .asg 4 (.lit (.int 0)),
  .asg 5 (.lit (.int 0)),
  .whl (.and [.cmp .lt (.loc 5) (.loc 2),.cmp .ne (.meth (.loc 0) 7 []) (.lit (.str [])),.cmp .isin (.meth (.loc 0) 7 []) (.loc 1)]) [
   .asg 4 (.bin .add (.bin .mul (.loc 4) (.loc 3)) (.bi .int16 [.meth (.loc 0) 9 [],.lit (.int 16)])),
   .asg 5 (.bin .add (.loc 5) (.lit (.int 1)))],
  .ret (.bi .chr [.loc 4])]
noncomputable def b12:List Cm:=[
  .asg 1 (.meth (.loc 0) 7 []),
  .ite (.cmp .eq (.loc 1) (.lit (.str []))) [
   .ret (.lit (.str []))] [],
  .ite (.cmp .isin (.loc 1) (.glob 4)) [
   .ex (.meth (.loc 0) 9 []),
   .ret (.bi .chr [.sub (.glob 4) (.loc 1)])] [],
  .ite (.cmp .isin (.loc 1) (.glob 3)) [
   .ret (.meth (.loc 0) 10 [.glob 3,.lit (.int 3),.lit (.int 8)])] [],
  .ite (.and [.cmp .eq (.loc 1) (.lit (.str [120])),.cmp .ne (.meth (.loc 0) 7 [.lit (.int 1)]) (.lit (.str [])),.cmp .isin (.meth (.loc 0) 7 [.lit (.int 1)]) (.glob 2)]) [
   .ex (.meth (.loc 0) 9 []),
   .ret (.meth (.loc 0) 10 [.glob 2,.lit (.int 2),.lit (.int 16)])] [],
  .ret (.meth (.loc 0) 9 [])]
noncomputable def b13:List Cm:=[
  .asg 2 (.mlist []),
  .whl (.not (.meth (.loc 0) 5 [])) [
   .asg 3 (.meth (.loc 0) 9 []),
   .ite (.cmp .eq (.loc 3) (.loc 1)) [
    .ret (.meth (.lit (.str [])) 11 [.loc 2])] [],
   .ite (.cmp .eq (.loc 3) (.lit (.str [92]))) [
    .asg 3 (.meth (.loc 0) 12 []),
    .ite (.cmp .eq (.loc 3) (.lit (.str []))) [
     .ret (.lit .none)] []] [],
   .ex (.meth (.loc 2) 13 [.loc 3])],
  .ret (.lit .none)]
noncomputable def b14:List Cm:=[
  .seta (.loc 0) 14 (.loc 1)]
noncomputable def b15:List Cm:=[
  .ret (.new 4 [.tup [.tup [.lit (.int 0),.lit (.int 9)],.tup [.lit (.int 11),.glob 5]]])]
noncomputable def b16:List Cm:=[
  .ret (.call 18 [.comp (.tup [.bi .ord [.loc 1],.bi .ord [.loc 1]]) (.loc 0) (.lit (.bool true))])]
noncomputable def b17:List Cm:=[
  .ret (.call 18 [.flist [.tup [.loc 0,.loc 1]]])]
noncomputable def b18:List Cm:=[
  .asg 1 (.mlist []),
  .loop [2,3] true (.loc 0) [
   .asg 4 (.bi .max [.loc 2,.lit (.int 0)]),
   .asg 5 (.bi .min [.loc 3,.glob 5]),
   .ite (.cmp .le (.loc 4) (.loc 5)) [
    .ex (.meth (.loc 1) 13 [.tup [.loc 4,.loc 5]])] []],
  .asg 6 (.mlist []),
  .loop [4,5] true (.bi .sorted [.loc 1]) [
   .ite (.and [.loc 6,.cmp .le (.loc 4) (.bin .add (.sub (.sub (.loc 6) (.neg (.lit (.int 1)))) (.lit (.int 1))) (.lit (.int 1)))]) [
    .ite (.cmp .gt (.loc 5) (.sub (.sub (.loc 6) (.neg (.lit (.int 1)))) (.lit (.int 1)))) [
     .seti (.loc 6) (.neg (.lit (.int 1))) (.tup [.sub (.sub (.loc 6) (.neg (.lit (.int 1)))) (.lit (.int 0)),.loc 5])] []] [
    .ex (.meth (.loc 6) 13 [.tup [.loc 4,.loc 5]])]],
  .ret (.new 4 [.bi .tuple [.loc 6]])]
noncomputable def b19:List Cm:=[
  .ret (.cmp .eq (.bi .len [.attr (.loc 0) 14]) (.lit (.int 0)))]
noncomputable def b20:List Cm:=[
  .asg 1 (.mlist []),
  .asg 2 (.lit (.int 0)),
  .loop [3,4] true (.attr (.loc 0) 14) [
   .ite (.cmp .lt (.loc 2) (.loc 3)) [
    .ex (.meth (.loc 1) 13 [.tup [.loc 2,.bin .sub (.loc 3) (.lit (.int 1))]])] [],
   .asg 2 (.bin .add (.loc 4) (.lit (.int 1)))],
  .ite (.cmp .le (.loc 2) (.glob 5)) [
   .ex (.meth (.loc 1) 13 [.tup [.loc 2,.glob 5]])] [],
  .ret (.new 4 [.bi .tuple [.loc 1]])]
noncomputable def b21:List Cm:=[
  .ret (.attr (.loc 0) 14)]
noncomputable def b22:List Cm:=[
  .asg 1 (.meth (.glob 6) 15 [.loc 0]),
  .ite (.cmp .is (.loc 1) (.lit .none)) [
   .ret (.lit .none)] [],
  .ret (.new 4 [.loc 1])]
noncomputable def b23:List Cm:=[
  .ret (.tup [.attr (.loc 0) 16])]
noncomputable def b24:List Cm:=[
  .seta (.loc 0) 17 (.loc 1)]
noncomputable def b25:List Cm:=[
  .ret (.tup [.attr (.loc 0) 16,.meth (.attr (.loc 0) 17) 18 []])]
noncomputable def b26:List Cm:=[
  .seta (.loc 0) 19 (.loc 1),
  .seta (.loc 0) 20 (.loc 2)]
noncomputable def b27:List Cm:=[
  .asg 1 (.call 32 [.loc 0]),
  .asg 2 (.meth (.sub (.loc 1) (.lit (.int 0))) 21 []),
  .loop [3] false (.slice (.loc 1) (.lit (.int 1)) (.lit .none)) [
   .asg 2 (.tup [.attr (.loc 0) 16,.loc 2,.meth (.loc 3) 21 []])],
  .ret (.loc 2)]
noncomputable def b28:List Cm:=[
  .seta (.loc 0) 22 (.loc 1)]
noncomputable def b29:List Cm:=[
  .ret (.tup [.attr (.loc 0) 16,.meth (.attr (.loc 0) 22) 21 []])]
noncomputable def b30:List Cm:=[
  .ex (.call 28 [.loc 0,.loc 1]),
  .ite (.or [.cmp .lt (.loc 2) (.lit (.int 0)),.cmp .gt (.loc 2) (.glob 7)]) [
   .abort] [],
  .ite (.and [.cmp .isnot (.loc 3) (.lit .none),.or [.cmp .lt (.loc 3) (.loc 2),.cmp .gt (.loc 3) (.glob 7)]]) [
   .abort] [],
  .seta (.loc 0) 23 (.loc 2),
  .seta (.loc 0) 24 (.loc 3)]
noncomputable def b31:List Cm:=[
  .ret (.tup [.attr (.loc 0) 16,.meth (.attr (.loc 0) 22) 21 [],.attr (.loc 0) 23,.attr (.loc 0) 24])]
noncomputable def b32:List Cm:=[
  .asg 1 (.mlist []),
  .asg 2 (.loc 0),
  .whl (.and [.cmp .eq (.attr (.loc 2) 16) (.attr (.loc 0) 16),.or [.cmp .eq (.attr (.loc 2) 16) (.lit (.str [99,97,116])),.cmp .eq (.attr (.loc 2) 16) (.lit (.str [97,108,116]))]]) [
   .ex (.meth (.loc 1) 13 [.attr (.loc 2) 20]),
   .asg 2 (.attr (.loc 2) 19)],
  .ex (.meth (.loc 1) 13 [.loc 2]),
  .ex (.meth (.loc 1) 25 []),
  .ret (.loc 1)]
noncomputable def b33:List Cm:=[
  .ite (.cmp .eq (.bi .len [.loc 0]) (.lit (.int 0))) [
   .ret (.new 6 [])] [],
  .asg 1 (.sub (.loc 0) (.lit (.int 0))),
  .loop [2] false (.slice (.loc 0) (.lit (.int 1)) (.lit .none)) [
   .asg 1 (.new 10 [.loc 1,.loc 2])],
  .ret (.loc 1)]
noncomputable def b34:List Cm:=[
  .ite (.meth (.loc 0) 26 []) [
   .ret (.new 7 [])] [],
  .ret (.new 8 [.loc 0])]
noncomputable def b35:List Cm:=[
  .seta (.loc 0) 22 (.loc 1),
  .seta (.loc 0) 27 (.loc 2),
  .seta (.loc 0) 28 (.loc 3)]
noncomputable def b36:List Cm:=[
  .asg 1 (.lit .none),
  .ite (.cmp .isnot (.attr (.loc 0) 28) (.lit .none)) [
   .asg 1 (.meth (.attr (.loc 0) 28) 21 [])] [],
  .ret (.tup [.attr (.loc 0) 27,.meth (.attr (.loc 0) 22) 21 [],.loc 1])]
noncomputable def b37:List Cm:=[
  .ret (.new 8 [.call 16 [.glob 11]])]
noncomputable def b38:List Cm:=[
  .ret (.and [.cmp .ne (.loc 0) (.lit (.str [])),.cmp .isin (.loc 0) (.glob 0)])]
noncomputable def b39:List Cm:=[
  .seta (.loc 0) 29 (.new 3 [.loc 1,.loc 2]),
  .seta (.loc 0) 30 (.loc 3),
  .seta (.loc 0) 31 (.loc 4),
  .seta (.loc 0) 32 (.lit (.int 0))]
noncomputable def b40:List Cm:=[
  .asg 1 (.meth (.attr (.loc 0) 29) 7 []),
  .ret (.or [.cmp .eq (.loc 1) (.lit (.str [])),.cmp .isin (.loc 1) (.glob 9)])]
noncomputable def b41:List Cm:=[
  .asg 1 (.meth (.attr (.loc 0) 29) 7 []),
  .ite (.or [.cmp .eq (.loc 1) (.lit (.str [])),.cmp .eq (.loc 1) (.lit (.str [124])),.cmp .eq (.loc 1) (.lit (.str [41]))]) [
   .ret (.lit (.bool true))] [],
  .ite (.not (.attr (.loc 0) 31)) [
   .ret (.lit (.bool false))] [],
  .ite (.cmp .isin (.loc 1) (.glob 9)) [
   .ret (.lit (.bool true))] [],
  .ret (.and [.cmp .eq (.attr (.loc 0) 32) (.lit (.int 0)),.or [.cmp .eq (.loc 1) (.lit (.str [47])),.cmp .eq (.loc 1) (.lit (.str [36]))]])]
noncomputable def b42:List Cm:=[
  .asg 1 (.meth (.loc 0) 33 []),
  .whl (.meth (.attr (.loc 0) 29) 34 [.lit (.str [124])]) [
   .asg 1 (.new 11 [.loc 1,.meth (.loc 0) 33 []])],
  .ret (.loc 1)]
noncomputable def b43:List Cm:=[
  .asg 1 (.mlist []),
  .whl (.not (.meth (.loc 0) 35 [])) [
   .ex (.meth (.loc 1) 13 [.meth (.loc 0) 36 [.meth (.loc 0) 37 []]])],
  .ret (.call 33 [.loc 1])]
noncomputable def b44:List Cm:=[
  .asg 2 (.loc 1),
  .loop [3] false (.bi .range1 [.bin .add (.glob 8) (.lit (.int 1))]) [
   .asg 4 (.attr (.attr (.loc 0) 29) 4),
   .ite (.meth (.attr (.loc 0) 29) 34 [.lit (.str [42])]) [
    .asg 2 (.new 13 [.loc 2])] [
    .ite (.meth (.attr (.loc 0) 29) 34 [.lit (.str [43])]) [
     .asg 2 (.new 14 [.loc 2])] [
     .ite (.meth (.attr (.loc 0) 29) 34 [.lit (.str [63])]) [
      .asg 2 (.new 15 [.loc 2])] [
      .ite (.and [.cmp .eq (.meth (.attr (.loc 0) 29) 7 []) (.lit (.str [123])),.call 38 [.meth (.attr (.loc 0) 29) 7 [.lit (.int 1)]]]) [
       .asg 2 (.meth (.loc 0) 38 [.loc 2])] [
       .ret (.loc 2)]]]]],
  .raise (.loc 0) (.lit (.str [116,111,111,32,109,97,110,121,32,108,111,111,112,115,32,98,101,104,105,110,100,32,111,110,101,32,112,97,114,116])) (.loc 4)]
noncomputable def b45:List Cm:=[
  .asg 2 (.attr (.attr (.loc 0) 29) 4),
  .ex (.meth (.attr (.loc 0) 29) 9 []),
  .asg 3 (.meth (.loc 0) 39 []),
  .asg 4 (.loc 3),
  .ite (.meth (.attr (.loc 0) 29) 34 [.lit (.str [44])]) [
   .asg 4 (.lit .none),
   .ite (.call 38 [.meth (.attr (.loc 0) 29) 7 []]) [
    .asg 4 (.meth (.loc 0) 39 [])] []] [],
  .ite (.meth (.attr (.loc 0) 29) 5 []) [
   .raise (.loc 0) (.lit (.str [123,32,119,105,116,104,111,117,116,32,105,116,115,32,125])) (.loc 2)] [],
  .ite (.not (.meth (.attr (.loc 0) 29) 34 [.lit (.str [125])])) [
   .raise (.loc 0) (.lit (.str [116,104,101,32,110,117,109,98,101,114,115,32,111,102,32,97,32,114,101,112,101,97,116,32,101,110,100,32,119,105,116,104,32,125])) (.attr (.attr (.loc 0) 29) 4)] [],
  .ite (.and [.cmp .isnot (.loc 4) (.lit .none),.cmp .lt (.loc 4) (.loc 3)]) [
   .raise (.loc 0) (.lit (.str [97,32,114,101,112,101,97,116,32,119,104,111,115,101,32,115,101,99,111,110,100,32,110,117,109,98,101,114,32,105,115,32,98,101,108,111,119,32,105,116,115,32,102,105,114,115,116])) (.loc 2)] [],
  .ret (.new 16 [.loc 1,.loc 3,.loc 4])]
noncomputable def b46:List Cm:=[
  .asg 1 (.attr (.attr (.loc 0) 29) 4),
  .asg 2 (.lit (.int 0)),
  .loop [3] false (.meth (.attr (.loc 0) 29) 8 [.glob 0]) [
   .asg 2 (.bi .min [.bin .add (.bin .mul (.lit (.int 10)) (.loc 2)) (.meth (.glob 0) 40 [.loc 3]),.bin .add (.glob 7) (.lit (.int 1))])],
  .ite (.cmp .gt (.loc 2) (.glob 7)) [
   .raise (.loc 0) (.bin .add (.lit (.str [97,32,114,101,112,101,97,116,32,110,117,109,98,101,114,32,97,98,111,118,101,32])) (.bi .str [.glob 7])) (.loc 1)] [],
  .ret (.loc 2)]
noncomputable def b47:List Cm:=[
  .asg 1 (.attr (.attr (.loc 0) 29) 4),
  .asg 2 (.meth (.attr (.loc 0) 29) 9 []),
  .ite (.cmp .eq (.loc 2) (.lit (.str [40]))) [
   .ite (.cmp .eq (.attr (.loc 0) 32) (.glob 8)) [
    .raise (.loc 0) (.lit (.str [98,114,97,99,107,101,116,115,32,110,101,115,116,101,100,32,116,111,111,32,100,101,101,112])) (.loc 1)] [],
   .seta (.loc 0) 32 (.bin .add (.attr (.loc 0) 32) (.lit (.int 1))),
   .asg 3 (.meth (.loc 0) 41 []),
   .ite (.not (.meth (.attr (.loc 0) 29) 34 [.lit (.str [41])])) [
    .raise (.loc 0) (.lit (.str [40,32,119,105,116,104,111,117,116,32,105,116,115,32,41])) (.loc 1)] [],
   .seta (.loc 0) 32 (.bin .sub (.attr (.loc 0) 32) (.lit (.int 1))),
   .ret (.loc 3)] [],
  .ite (.cmp .eq (.loc 2) (.lit (.str [91]))) [
   .ret (.meth (.loc 0) 42 [.loc 1])] [],
  .ite (.cmp .eq (.loc 2) (.lit (.str [34]))) [
   .ret (.meth (.loc 0) 43 [.loc 1])] [],
  .ite (.cmp .eq (.loc 2) (.lit (.str [123]))) [
   .ret (.meth (.loc 0) 44 [.loc 1])] [],
  .ite (.cmp .eq (.loc 2) (.lit (.str [46]))) [
   .ret (.new 8 [.call 15 []])] [],
  .ite (.cmp .isin (.loc 2) (.glob 10)) [
   .raise (.loc 0) (.bin .add (.bin .add (.lit (.str [116,104,101,32,115,105,103,110,32,39])) (.loc 2)) (.lit (.str [39,32,99,97,110,110,111,116,32,115,116,97,110,100,32,104,101,114,101]))) (.loc 1)] [],
  .asg 4 (.meth (.loc 0) 45 [.loc 2,.loc 1]),
  .ret (.new 8 [.call 17 [.loc 4,.loc 4]])]
noncomputable def b48:List Cm:=[
  .asg 3 (.loc 1),
  .ite (.cmp .eq (.loc 1) (.lit (.str [92]))) [
   .ite (.cmp .eq (.meth (.attr (.loc 0) 29) 7 []) (.glob 11)) [
    .raise (.loc 0) (.lit (.str [97,32,110,101,119,108,105,110,101,32,105,115,32,119,114,105,116,116,101,110,32,92,110])) (.loc 2)] [],
   .asg 3 (.meth (.attr (.loc 0) 29) 12 []),
   .ite (.cmp .eq (.loc 3) (.lit (.str []))) [
    .raise (.loc 0) (.lit (.str [97,32,98,97,99,107,115,108,97,115,104,32,97,116,32,116,104,101,32,101,110,100])) (.loc 2)] []] [],
  .asg 4 (.bi .ord [.loc 3]),
  .ite (.cmp .gt (.loc 4) (.glob 5)) [
   .raise (.loc 0) (.bin .add (.lit (.str [97,32,115,105,103,110,32,98,101,121,111,110,100,32,99,111,100,101,32])) (.bi .str [.glob 5])) (.loc 2)] [],
  .ret (.loc 4)]
noncomputable def b49:List Cm:=[
  .asg 2 (.meth (.attr (.loc 0) 29) 43 [.lit (.str [34])]),
  .ite (.cmp .is (.loc 2) (.lit .none)) [
   .raise (.loc 0) (.lit (.str [97,32,113,117,111,116,101,32,119,105,116,104,111,117,116,32,105,116,115,32,112,97,114,116,110,101,114])) (.loc 1)] [],
  .asg 3 (.slice (.attr (.attr (.loc 0) 29) 3) (.loc 1) (.attr (.attr (.loc 0) 29) 4)),
  .ite (.cmp .isin (.glob 11) (.loc 3)) [
   .raise (.loc 0) (.lit (.str [97,32,110,101,119,108,105,110,101,32,119,105,116,104,105,110,32,113,117,111,116,101,115,32,105,115,32,119,114,105,116,116,101,110,32,92,110])) (.bin .add (.loc 1) (.meth (.loc 3) 40 [.glob 11]))] [],
  .loop [4] false (.loc 2) [
   .ite (.cmp .gt (.bi .ord [.loc 4]) (.glob 5)) [
    .raise (.loc 0) (.bin .add (.lit (.str [97,32,115,105,103,110,32,98,101,121,111,110,100,32,99,111,100,101,32])) (.bi .str [.glob 5])) (.loc 1)] []],
  .ret (.call 33 [.comp (.new 8 [.call 16 [.loc 5]]) (.loc 2) (.lit (.bool true))])]
noncomputable def b50:List Cm:=[
  .asg 2 (.meth (.attr (.loc 0) 29) 16 []),
  .ite (.or [.not (.meth (.attr (.loc 0) 29) 34 [.lit (.str [125])]),.cmp .is (.attr (.loc 0) 30) (.lit .none),.cmp .notin (.loc 2) (.attr (.loc 0) 30)]) [
   .raise (.loc 0) (.lit (.str [110,111,32,100,101,102,105,110,105,116,105,111,110,32,115,116,97,110,100,115,32,105,110,32,116,104,101,115,101,32,98,114,97,99,101,115,44,32,97,110,100,32,110,111,116,104,105,110,103,32,97,104,101,97,100,32,111,102,32,116,104,101,109,32,116,111,32,114,101,112,101,97,116])) (.loc 1)] [],
  .ret (.sub (.attr (.loc 0) 30) (.loc 2))]
noncomputable def b51:List Cm:=[
  .asg 2 (.meth (.attr (.loc 0) 29) 34 [.lit (.str [94])]),
  .asg 3 (.mlist []),
  .asg 4 (.lit (.bool true)),
  .whl (.or [.loc 4,.cmp .ne (.meth (.attr (.loc 0) 29) 7 []) (.lit (.str [93]))]) [
   .asg 4 (.lit (.bool false)),
   .ite (.meth (.attr (.loc 0) 29) 5 []) [
    .raise (.loc 0) (.lit (.str [91,32,119,105,116,104,111,117,116,32,105,116,115,32,93])) (.loc 1)] [],
   .ite (.meth (.attr (.loc 0) 29) 6 [.lit (.str [91,58])]) [
    .loop [5] false (.meth (.meth (.loc 0) 46 []) 18 []) [
     .ex (.meth (.loc 3) 13 [.loc 5])]] [
    .ex (.meth (.loc 3) 13 [.meth (.loc 0) 47 []])]],
  .ex (.meth (.attr (.loc 0) 29) 9 []),
  .asg 6 (.call 18 [.loc 3]),
  .ite (.loc 2) [
   .asg 6 (.meth (.loc 6) 48 [])] [],
  .ret (.call 34 [.loc 6])]
noncomputable def b52:List Cm:=[
  .asg 1 (.attr (.attr (.loc 0) 29) 4),
  .ex (.meth (.attr (.loc 0) 29) 34 [.lit (.str [91,58])]),
  .asg 2 (.call 22 [.meth (.attr (.loc 0) 29) 16 []]),
  .ite (.or [.cmp .is (.loc 2) (.lit .none),.not (.meth (.attr (.loc 0) 29) 34 [.lit (.str [58,93])])]) [
   .raise (.loc 0) (.lit (.str [91,58,32,119,105,116,104,111,117,116,32,116,104,101,32,110,97,109,101,32,111,102,32,97,32,99,108,97,115,115,32,97,110,100,32,58,93])) (.loc 1)] [],
  .ret (.loc 2)]
noncomputable def b53:List Cm:=[
  .asg 1 (.attr (.attr (.loc 0) 29) 4),
  .asg 2 (.meth (.loc 0) 49 []),
  .ite (.or [.cmp .ne (.meth (.attr (.loc 0) 29) 7 []) (.lit (.str [45])),.cmp .eq (.meth (.attr (.loc 0) 29) 7 [.lit (.int 1)]) (.lit (.str [93])),.cmp .eq (.meth (.attr (.loc 0) 29) 7 [.lit (.int 1)]) (.lit (.str []))]) [
   .ret (.tup [.loc 2,.loc 2])] [],
  .ex (.meth (.attr (.loc 0) 29) 9 []),
  .ite (.meth (.attr (.loc 0) 29) 6 [.lit (.str [91,58])]) [
   .raise (.loc 0) (.lit (.str [97,32,115,112,97,110,32,99,97,110,110,111,116,32,101,110,100,32,119,105,116,104,32,97,32,110,97,109,101,100,32,99,108,97,115,115])) (.attr (.attr (.loc 0) 29) 4)] [],
  .asg 3 (.meth (.loc 0) 49 []),
  .ite (.cmp .lt (.loc 3) (.loc 2)) [
   .raise (.loc 0) (.lit (.str [97,32,115,112,97,110,32,116,104,97,116,32,103,111,101,115,32,100,111,119,110])) (.loc 1)] [],
  .ret (.tup [.loc 2,.loc 3])]
noncomputable def b54:List Cm:=[
  .asg 1 (.attr (.attr (.loc 0) 29) 4),
  .asg 2 (.meth (.attr (.loc 0) 29) 9 []),
  .ite (.cmp .eq (.loc 2) (.glob 11)) [
   .raise (.loc 0) (.lit (.str [97,32,110,101,119,108,105,110,101,32,119,105,116,104,105,110,32,97,32,99,108,97,115,115,32,105,115,32,119,114,105,116,116,101,110,32,92,110])) (.loc 1)] [],
  .ret (.meth (.loc 0) 45 [.loc 2,.loc 1])]
noncomputable def b55:List Cm:=[
  .asg 2 (.new 18 [.loc 0,.lit (.int 0),.loc 1,.lit (.bool false)]),
  .asg 3 (.meth (.loc 2) 41 []),
  .ite (.not (.meth (.attr (.loc 2) 29) 5 [])) [
   .raise (.loc 2) (.lit (.str [41,32,119,105,116,104,111,117,116,32,105,116,115,32,40])) (.attr (.attr (.loc 2) 29) 4)] [],
  .ret (.loc 3)]
noncomputable def b56:List Cm:=[
  .asg 3 (.new 18 [.loc 0,.loc 1,.loc 2,.lit (.bool true)]),
  .asg 4 (.attr (.loc 3) 29),
  .asg 5 (.meth (.loc 4) 34 [.lit (.str [94])]),
  .asg 6 (.attr (.loc 4) 4),
  .asg 7 (.meth (.loc 3) 41 []),
  .ite (.cmp .eq (.attr (.loc 4) 4) (.loc 6)) [
   .raise (.loc 3) (.lit (.str [97,32,112,97,116,116,101,114,110,32,119,105,116,104,111,117,116,32,97,32,98,111,100,121])) (.loc 6)] [],
  .asg 8 (.lit .none),
  .asg 9 (.attr (.loc 4) 4),
  .ite (.meth (.loc 4) 34 [.lit (.str [47])]) [
   .asg 8 (.meth (.loc 3) 41 []),
   .ite (.cmp .eq (.attr (.loc 4) 4) (.bin .add (.loc 9) (.lit (.int 1)))) [
    .raise (.loc 3) (.lit (.str [110,111,116,104,105,110,103,32,115,116,97,110,100,115,32,98,101,104,105,110,100,32,47])) (.loc 9)] []] [],
  .asg 10 (.attr (.loc 4) 4),
  .ite (.meth (.loc 4) 34 [.lit (.str [36])]) [
   .ite (.cmp .isnot (.loc 8) (.lit .none)) [
    .raise (.loc 3) (.lit (.str [36,32,98,101,104,105,110,100,32,97,32,116,114,97,105,108,105,110,103,32,99,111,110,116,101,120,116])) (.loc 10)] [],
   .ite (.not (.meth (.loc 3) 50 [])) [
    .raise (.loc 3) (.lit (.str [36,32,116,104,97,116,32,105,115,32,110,111,116,32,116,104,101,32,108,97,115,116,32,115,105,103,110])) (.loc 10)] [],
   .asg 8 (.call 37 [])] [],
  .ite (.not (.meth (.loc 3) 50 [])) [
   .raise (.loc 3) (.bin .add (.bin .add (.lit (.str [116,104,101,32,115,105,103,110,32,39])) (.meth (.loc 4) 7 [])) (.lit (.str [39,32,99,97,110,110,111,116,32,115,116,97,110,100,32,104,101,114,101]))) (.attr (.loc 4) 4)] [],
  .ret (.tup [.new 17 [.loc 7,.loc 5,.loc 8],.attr (.loc 4) 4])]
noncomputable def b57:List Cm:=[
  .ret (.flist [.lit (.str [97]),.lit (.str [98]),.lit (.str [99]),.lit (.str [122]),.lit (.str [46]),.lit (.str [91,97,98,93]),.lit (.str [91,94,97,45,99,93]),.lit (.str [91,93,120,93]),.lit (.str [91,97,45,93]),.lit (.str [91,91,58,100,105,103,105,116,58,93,95,93]),.lit (.str [92,110]),.lit (.str [92,120,52,49]),.lit (.str [92,49,48,49]),.lit (.str [92,42]),.lit (.str [34,97,42,98,34]),.lit (.str [34,34]),.lit (.str [123,68,125]),.lit (.str [123,120,95,49,125]),.lit (.str [91,92,93,45,97,93]),.lit (.str [45]),.lit (.str [60]),.lit (.str [91,94,93,92,120,50,48,45,126,93]),.lit (.str [92,55]),.lit (.str [91,45,97,45,99,45,101,93]),.lit (.str [91,94,92,48,45,92,120,55,102,93]),.lit (.str [91,91,58,117,112,112,101,114,58,93,91,58,98,108,97,110,107,58,93,93])])]
noncomputable def b58:List Cm:=[
  .ret (.flist [.lit (.str [42]),.lit (.str [43]),.lit (.str [63]),.lit (.str [123,50,125]),.lit (.str [123,49,44,125]),.lit (.str [123,48,44,51,125]),.lit (.str [123,49,50,44,52,48,125]),.lit (.str [123,48,125]),.lit (.str [123,48,50,44,48,48,55,125])])]
noncomputable def b59:List Cm:=[
  .ret (.flist [.lit (.str [32]),.lit (.str [94]),.lit (.str [36]),.lit (.str [47,98]),.lit (.str [47]),.lit (.str [233]),.lit (.str [93]),.lit (.str [125]),.lit (.str [123]),.lit (.str [91]),.lit (.str [91,58]),.lit (.str [92]),.lit (.str [34]),.lit (.str [123,52,49,125]),.lit (.str [123,51,44,50,125]),.lit (.str [123,69,125]),.lit (.str [123,125]),.lit (.str [123,49,48,48,125]),.lit (.str [123,49,44,52,49,125]),.lit (.str [97,123,49,44,48,48,52,49,125]),.lit (.str [92,50,48,48]),.lit (.str [92,120,56,48]),.lit (.str [92,51,55,55]),.lit (.str [92,10]),.lit (.str [34,97,10,98,34]),.lit (.str [34,233,34]),.lit (.str [34,92,120,56,48,34]),.lit (.str [91,233,93]),.lit (.str [91,97,10,93]),.lit (.str [91,92,10,93]),.lit (.str [91,97,45,10,93]),.lit (.str [91,97,45,92,120,56,48,93]),.lit (.str [91,65,45,91,58,100,105,103,105,116,58,93,93]),.lit (.str [91,97,45,91,58,100,105,103,105,116,58,93,93]),.lit (.str [91,98,45,97,93]),.lit (.str [91,91,58,108,111,119,58,93,93]),.lit (.str [91,91,58,100,105,103,105,116,93]),.lit (.str [123,68]),.lit (.str [123,50]),.lit (.str [97,123,50,59,125]),.lit (.str [124,42]),.lit (.str [40,43]),.lit (.str [92,95]),.lit (.str [91,92,97,93])])]
noncomputable def b60:List Cm:=[
  .ret (.flist [.lit (.str []),.lit (.str []),.lit (.str []),.lit (.str [97,123,50]),.lit (.str [97,123,50,44]),.lit (.str [40]),.lit (.str [40,97,124]),.lit (.str [91]),.lit (.str [91,97]),.lit (.str [91,97,45]),.lit (.str [91,94,93]),.lit (.str [91,91,58,97,108,112,104,97,58,93]),.lit (.str [34,97]),.lit (.str [34,97,92]),.lit (.str [92]),.lit (.str [123]),.lit (.str [41]),.lit (.str [97,41]),.lit (.str [40,41])])]
noncomputable def b61:List Cm:=[
  .ret (.dict [[68],[120,95,49]] [.tup [.lit (.str [97,108,116]),.tup [.lit (.str [99,104,97,114,115]),.tup [.tup [.lit (.int 97),.lit (.int 97)]]],.tup [.lit (.str [99,104,97,114,115]),.tup [.tup [.lit (.int 98),.lit (.int 98)]]]],.tup [.lit (.str [101,109,112,116,121])]])]
noncomputable def b62:List Cm:=[
  .ret (.dict [[110],[116],[114],[102],[118],[97],[98]] [.lit (.int 10),.lit (.int 9),.lit (.int 13),.lit (.int 12),.lit (.int 11),.lit (.int 7),.lit (.int 8)])]
noncomputable def b63:List Cm:=[
  .ret (.mlist [.comp (.bi .int1 [.loc 1]) (.slice (.loc 0) (.lit .none) (.lit (.int 63))) (.lit (.bool true)),.lit (.int 0),.lit (.int 0)])]
noncomputable def b64:List Cm:=[
  .ite (.cmp .gt (.sub (.loc 0) (.lit (.int 2))) (.lit (.int 0))) [
   .asg 2 (.bin .mod (.bi .int1 [.sub (.loc 0) (.lit (.int 2))]) (.loc 1)),
   .seti (.loc 0) (.lit (.int 2)) (.bin .fdiv (.bi .int1 [.sub (.loc 0) (.lit (.int 2))]) (.loc 1)),
   .ret (.loc 2)] [],
  .asg 3 (.sub (.loc 0) (.lit (.int 1))),
  .seti (.loc 0) (.lit (.int 1)) (.bin .add (.loc 3) (.lit (.int 1))),
  .asg 4 (.lit (.int 0)),
  .ite (.cmp .ne (.sub (.loc 0) (.lit (.int 0))) (.flist [])) [
   .asg 4 (.sub (.sub (.loc 0) (.lit (.int 0))) (.bin .mod (.bi .int1 [.loc 3]) (.bi .len [.sub (.loc 0) (.lit (.int 0))])))] [],
  .ite (.and [.cmp .lt (.loc 3) (.bi .len [.sub (.loc 0) (.lit (.int 0))]),.cmp .ge (.bi .abs [.loc 4]) (.bin .pow (.lit (.int 10)) (.lit (.int 18)))]) [
   .asg 5 (.bin .sub (.bi .abs [.loc 4]) (.bin .pow (.lit (.int 10)) (.lit (.int 18)))),
   .seti (.loc 0) (.lit (.int 2)) (.bin .fdiv (.bi .int1 [.loc 5]) (.loc 1)),
   .ret (.bin .mod (.bi .int1 [.loc 5]) (.loc 1))] [],
  .asg 6 (.bin .mod (.bi .int1 [.bin .pow (.bin .add (.bin .add (.bin .mod (.bi .int1 [.loc 4]) (.lit (.int 2147483587))) (.bin .mul (.lit (.int 20011)) (.loc 3))) (.lit (.int 7001))) (.lit (.int 5))]) (.lit (.int 2147483629))),
  .asg 6 (.bin .mod (.bi .int1 [.bin .pow (.bin .add (.bin .add (.bin .mul (.loc 6) (.bin .add (.bin .mul (.lit (.int 2)) (.loc 3)) (.lit (.int 4021)))) (.bin .mul (.bin .mul (.lit (.int 811)) (.loc 3)) (.loc 3))) (.lit (.int 31))) (.lit (.int 3))]) (.lit (.int 2147483579))),
  .ret (.bin .mod (.bi .int1 [.bin .fdiv (.loc 6) (.lit (.int 32))]) (.loc 1))]
noncomputable def b65:List Cm:=[
  .asg 1 (.lit (.str [])),
  .asg 2 (.lit (.int 0)),
  .loop [3] false (.bi .range1 [.bin .add (.lit (.int 2)) (.call 64 [.loc 0,.lit (.int 6)])]) [
   .asg 4 (.call 64 [.loc 0,.lit (.int 8)]),
   .asg 5 (.and [.cmp .ne (.loc 1) (.lit (.str [])),.cmp .notin (.sub (.loc 1) (.neg (.lit (.int 1)))) (.lit (.str [40,124]))]),
   .ite (.and [.cmp2 .le .le (.lit (.int 4)) (.loc 4) (.lit (.int 5)),.loc 5]) [
    .asg 1 (.bin .add (.loc 1) (.sub (.call 58 []) (.call 64 [.loc 0,.bi .len [.call 58 []]])))] [
    .ite (.and [.cmp .eq (.loc 4) (.lit (.int 6)),.cmp .eq (.call 64 [.loc 0,.lit (.int 2)]) (.lit (.int 0))]) [
     .asg 1 (.bin .add (.loc 1) (.lit (.str [40]))),
     .asg 2 (.bin .add (.loc 2) (.lit (.int 1)))] [
     .ite (.cmp .eq (.loc 4) (.lit (.int 6))) [
      .asg 1 (.bin .add (.loc 1) (.lit (.str [124])))] [
      .ite (.and [.cmp .eq (.loc 4) (.lit (.int 7)),.cmp .gt (.loc 2) (.lit (.int 0))]) [
       .asg 1 (.bin .add (.loc 1) (.lit (.str [41]))),
       .asg 2 (.bin .sub (.loc 2) (.lit (.int 1)))] [
       .asg 1 (.bin .add (.loc 1) (.sub (.call 57 []) (.call 64 [.loc 0,.bi .len [.call 57 []]])))]]]]],
  .ret (.bin .add (.loc 1) (.bin .mul (.lit (.str [41])) (.loc 2)))]
noncomputable def b66:List Cm:=[
  .loop [2] false (.bi .range1 [.sub (.flist [.lit (.int 0),.lit (.int 0),.lit (.int 1),.lit (.int 2)]) (.call 64 [.loc 0,.lit (.int 4)])]) [
   .asg 3 (.call 64 [.loc 0,.bin .add (.bi .len [.loc 1]) (.lit (.int 1))]),
   .asg 4 (.call 64 [.loc 0,.lit (.int 4)]),
   .asg 5 (.sub (.glob 12) (.call 64 [.loc 0,.bi .len [.glob 12]])),
   .ite (.cmp .eq (.loc 4) (.lit (.int 0))) [
    .asg 5 (.sub (.call 59 []) (.call 64 [.loc 0,.bi .len [.call 59 []]]))] [],
   .ite (.cmp .eq (.loc 4) (.lit (.int 3))) [
    .asg 5 (.lit (.str []))] [],
   .asg 1 (.bin .add (.bin .add (.slice (.loc 1) (.lit .none) (.loc 3)) (.loc 5)) (.slice (.loc 1) (.bin .add (.loc 3) (.ite (.cmp .gt (.loc 4) (.lit (.int 1))) (.lit (.int 1)) (.lit (.int 0)))) (.lit .none)))],
  .ret (.loc 1)]
noncomputable def b67:List Cm:=[
  .ite (.cmp .eq (.call 64 [.loc 0,.lit (.int 5)]) (.lit (.int 4))) [
   .ret (.meth (.lit (.str [])) 11 [.comp (.sub (.glob 12) (.call 64 [.loc 0,.bi .len [.glob 12]])) (.bi .range1 [.call 64 [.loc 0,.lit (.int 9)]]) (.lit (.bool true))])] [],
  .ret (.call 66 [.loc 0,.call 65 [.loc 0]])]
noncomputable def b68:List Cm:=[
  .asg 1 (.bi .list [.bi .range2 [.lit (.int 97),.lit (.int 123)]]),
  .asg 2 (.bi .list [.bi .range2 [.lit (.int 65),.lit (.int 91)]]),
  .asg 3 (.bi .list [.bi .range2 [.lit (.int 48),.lit (.int 58)]]),
  .asg 4 (.bin .add (.bin .add (.bin .add (.bi .list [.bi .range2 [.lit (.int 33),.lit (.int 48)]]) (.bi .list [.bi .range2 [.lit (.int 58),.lit (.int 65)]])) (.bi .list [.bi .range2 [.lit (.int 91),.lit (.int 97)]])) (.bi .list [.bi .range2 [.lit (.int 123),.lit (.int 127)]])),
  .ret (.meth (.dict [[108,111,119,101,114],[117,112,112,101,114],[100,105,103,105,116],[97,108,112,104,97],[97,108,110,117,109],[115,112,97,99,101],[98,108,97,110,107],[112,117,110,99,116],[99,110,116,114,108],[120,100,105,103,105,116],[103,114,97,112,104],[112,114,105,110,116]] [.loc 1,.loc 2,.loc 3,.bin .add (.loc 2) (.loc 1),.bin .add (.bin .add (.loc 3) (.loc 2)) (.loc 1),.flist [.lit (.int 9),.lit (.int 10),.lit (.int 11),.lit (.int 12),.lit (.int 13),.lit (.int 32)],.flist [.lit (.int 9),.lit (.int 32)],.loc 4,.bin .add (.bi .list [.bi .range1 [.lit (.int 32)]]) (.flist [.lit (.int 127)]),.bin .add (.bin .add (.loc 3) (.slice (.loc 2) (.lit .none) (.lit (.int 6)))) (.slice (.loc 1) (.lit .none) (.lit (.int 6))),.bi .list [.bi .range2 [.lit (.int 33),.lit (.int 127)]],.bi .list [.bi .range2 [.lit (.int 32),.lit (.int 127)]]]) 15 [.loc 0])]
noncomputable def b69:List Cm:=[
  .asg 1 (.mlist []),
  .loop [2] false (.loc 0) [
   .ite (.and [.cmp .ne (.loc 1) (.flist []),.cmp .eq (.sub (.sub (.loc 1) (.neg (.lit (.int 1)))) (.lit (.int 1))) (.bin .sub (.loc 2) (.lit (.int 1)))]) [
    .seti (.loc 1) (.neg (.lit (.int 1))) (.tup [.sub (.sub (.loc 1) (.neg (.lit (.int 1)))) (.lit (.int 0)),.loc 2])] [
    .ex (.meth (.loc 1) 13 [.tup [.loc 2,.loc 2]])]],
  .ite (.cmp .eq (.loc 1) (.flist [])) [
   .ret (.tup [.lit (.str [110,101,118,101,114])])] [],
  .ret (.tup [.lit (.str [99,104,97,114,115]),.bi .tuple [.loc 1]])]
noncomputable def b70:List Cm:=[
  .asg 4 (.loc 1),
  .whl (.and [.cmp .lt (.loc 4) (.bi .len [.loc 0]),.cmp .lt (.loc 4) (.bin .add (.loc 1) (.loc 3)),.cmp .isin (.sub (.loc 0) (.loc 4)) (.loc 2)]) [
   .asg 4 (.bin .add (.loc 4) (.lit (.int 1)))],
  .ret (.loc 4)]
noncomputable def b71:List Cm:=[
  .asg 2 (.slice (.loc 0) (.loc 1) (.bin .add (.loc 1) (.lit (.int 1)))),
  .ite (.cmp .eq (.loc 2) (.lit (.str []))) [
   .ret (.tup [.neg (.lit (.int 1)),.loc 1])] [],
  .ite (.cmp .isin (.loc 2) (.call 62 [])) [
   .ret (.tup [.sub (.call 62 []) (.loc 2),.bin .add (.loc 1) (.lit (.int 1))])] [],
  .asg 3 (.call 70 [.loc 0,.loc 1,.lit (.str [48,49,50,51,52,53,54,55]),.lit (.int 3)]),
  .ite (.cmp .gt (.loc 3) (.loc 1)) [
   .asg 4 (.lit (.int 0)),
   .loop [5] false (.slice (.loc 0) (.loc 1) (.loc 3)) [
    .asg 4 (.bin .add (.bin .mul (.lit (.int 8)) (.loc 4)) (.meth (.glob 13) 40 [.loc 5]))],
   .ret (.tup [.loc 4,.loc 3])] [],
  .asg 3 (.call 70 [.loc 0,.bin .add (.loc 1) (.lit (.int 1)),.glob 13,.lit (.int 2)]),
  .ite (.and [.cmp .eq (.loc 2) (.lit (.str [120])),.cmp .gt (.loc 3) (.bin .add (.loc 1) (.lit (.int 1)))]) [
   .asg 4 (.lit (.int 0)),
   .loop [5] false (.slice (.loc 0) (.bin .add (.loc 1) (.lit (.int 1))) (.loc 3)) [
    .asg 4 (.bin .add (.bin .mul (.lit (.int 16)) (.loc 4)) (.meth (.glob 13) 40 [.meth (.loc 5) 51 []]))],
   .ret (.tup [.loc 4,.loc 3])] [],
  .ret (.tup [.bi .ord [.loc 2],.bin .add (.loc 1) (.lit (.int 1))])]
noncomputable def b72:List Cm:=[
  .ite (.cmp .ne (.sub (.loc 0) (.loc 1)) (.lit (.str [92]))) [
   .ret (.tup [.ite (.cmp .lt (.bi .ord [.sub (.loc 0) (.loc 1)]) (.lit (.int 128))) (.bi .ord [.sub (.loc 0) (.loc 1)]) (.neg (.lit (.int 1))),.bin .add (.loc 1) (.lit (.int 1))])] [],
  .ite (.cmp .eq (.slice (.loc 0) (.bin .add (.loc 1) (.lit (.int 1))) (.bin .add (.loc 1) (.lit (.int 2)))) (.lit (.str [10]))) [
   .ret (.tup [.neg (.lit (.int 1)),.loc 1])] [],
  .asgT [2,3] (.call 71 [.loc 0,.bin .add (.loc 1) (.lit (.int 1))]),
  .ret (.tup [.ite (.cmp .lt (.loc 2) (.lit (.int 128))) (.loc 2) (.neg (.lit (.int 1))),.loc 3])]
noncomputable def b73:List Cm:=[
  .asg 2 (.bin .add (.loc 1) (.lit (.int 1))),
  .asg 3 (.cmp .eq (.slice (.loc 0) (.loc 2) (.bin .add (.loc 2) (.lit (.int 1)))) (.lit (.str [94]))),
  .ite (.loc 3) [
   .asg 2 (.bin .add (.loc 2) (.lit (.int 1)))] [],
  .asg 4 (.loc 2),
  .asg 5 (.bin .mul (.flist [.lit (.bool false)]) (.lit (.int 128))),
  .whl (.or [.cmp .eq (.loc 2) (.loc 4),.cmp .ne (.slice (.loc 0) (.loc 2) (.bin .add (.loc 2) (.lit (.int 1)))) (.lit (.str [93]))]) [
   .ite (.cmp .ge (.loc 2) (.bi .len [.loc 0])) [
    .ret (.tup [.lit .none,.loc 1])] [],
   .ite (.cmp .eq (.slice (.loc 0) (.loc 2) (.bin .add (.loc 2) (.lit (.int 2)))) (.lit (.str [91,58]))) [
    .asg 6 (.call 70 [.loc 0,.bin .add (.loc 2) (.lit (.int 2)),.glob 14,.lit (.int 99)]),
    .asg 7 (.call 68 [.slice (.loc 0) (.bin .add (.loc 2) (.lit (.int 2))) (.loc 6)]),
    .ite (.or [.cmp .is (.loc 7) (.lit .none),.cmp .ne (.slice (.loc 0) (.loc 6) (.bin .add (.loc 6) (.lit (.int 2)))) (.lit (.str [58,93]))]) [
     .ret (.tup [.lit .none,.loc 2])] [],
    .asg 8 (.bin .add (.loc 6) (.lit (.int 2)))] [
    .asgT [9,8] (.call 72 [.loc 0,.loc 2]),
    .ite (.or [.cmp .lt (.loc 9) (.lit (.int 0)),.cmp .eq (.sub (.loc 0) (.loc 2)) (.lit (.str [10]))]) [
     .ret (.tup [.lit .none,.loc 2])] [],
    .asg 10 (.loc 9),
    .ite (.and [.cmp .eq (.slice (.loc 0) (.loc 8) (.bin .add (.loc 8) (.lit (.int 1)))) (.lit (.str [45])),.cmp .notin (.slice (.loc 0) (.bin .add (.loc 8) (.lit (.int 1))) (.bin .add (.loc 8) (.lit (.int 2)))) (.flist [.lit (.str []),.lit (.str [93])])]) [
     .asg 11 (.bin .add (.loc 8) (.lit (.int 1))),
     .ite (.or [.cmp .eq (.slice (.loc 0) (.loc 11) (.bin .add (.loc 11) (.lit (.int 2)))) (.lit (.str [91,58])),.cmp .eq (.sub (.loc 0) (.loc 11)) (.lit (.str [10]))]) [
      .ret (.tup [.lit .none,.loc 11])] [],
     .asgT [10,8] (.call 72 [.loc 0,.loc 11]),
     .ite (.cmp .lt (.loc 10) (.lit (.int 0))) [
      .ret (.tup [.lit .none,.loc 11])] [],
     .ite (.cmp .lt (.loc 10) (.loc 9)) [
      .ret (.tup [.lit .none,.loc 2])] []] [],
    .asg 7 (.bi .range2 [.loc 9,.bin .add (.loc 10) (.lit (.int 1))])],
   .loop [12] false (.loc 7) [
    .seti (.loc 5) (.loc 12) (.lit (.bool true))],
   .asg 2 (.loc 8)],
  .ret (.tup [.call 69 [.comp (.loc 13) (.bi .range1 [.lit (.int 128)]) (.cmp .ne (.sub (.loc 5) (.loc 13)) (.loc 3))],.bin .add (.loc 2) (.lit (.int 1))])]
noncomputable def b74:List Cm:=[
  .ite (.cmp .eq (.loc 0) (.flist [])) [
   .ret (.tup [.lit (.str [101,109,112,116,121])])] [],
  .asg 1 (.sub (.loc 0) (.lit (.int 0))),
  .loop [2] false (.slice (.loc 0) (.lit (.int 1)) (.lit .none)) [
   .asg 1 (.tup [.lit (.str [99,97,116]),.loc 1,.loc 2])],
  .ret (.loc 1)]
noncomputable def b75:List Cm:=[
  .asg 2 (.lit .none),
  .loop [3] false (.bin .add (.loc 0) (.flist [.call 74 [.loc 1]])) [
   .asg 2 (.ite (.cmp .is (.loc 2) (.lit .none)) (.loc 3) (.tup [.lit (.str [97,108,116]),.loc 2,.loc 3]))],
  .ret (.loc 2)]
noncomputable def b76:List Cm:=[
  .asg 2 (.mlist []),
  .asg 3 (.bin .add (.loc 1) (.lit (.int 1))),
  .whl (.cmp .ne (.slice (.loc 0) (.loc 3) (.bin .add (.loc 3) (.lit (.int 1)))) (.lit (.str [34]))) [
   .ite (.cmp .ge (.loc 3) (.bi .len [.loc 0])) [
    .ret (.tup [.lit .none,.loc 1])] [],
   .asg 4 (.bi .ord [.sub (.loc 0) (.loc 3)]),
   .asg 3 (.bin .add (.loc 3) (.lit (.int 1))),
   .ite (.cmp .eq (.loc 4) (.lit (.int 92))) [
    .asgT [4,3] (.call 71 [.loc 0,.loc 3]),
    .ite (.cmp .lt (.loc 4) (.lit (.int 0))) [
     .ret (.tup [.lit .none,.loc 1])] []] [],
   .ex (.meth (.loc 2) 13 [.loc 4])],
  .ite (.cmp .isin (.lit (.str [10])) (.slice (.loc 0) (.loc 1) (.loc 3))) [
   .ret (.tup [.lit .none,.bin .add (.loc 1) (.meth (.slice (.loc 0) (.loc 1) (.loc 3)) 40 [.lit (.str [10])])])] [],
  .ite (.cmp .ne (.comp (.loc 5) (.loc 2) (.cmp .gt (.loc 5) (.lit (.int 127)))) (.flist [])) [
   .ret (.tup [.lit .none,.loc 1])] [],
  .ret (.tup [.call 74 [.comp (.tup [.lit (.str [99,104,97,114,115]),.tup [.tup [.loc 5,.loc 5]]]) (.loc 2) (.lit (.bool true))],.bin .add (.loc 3) (.lit (.int 1))])]
noncomputable def b77:List Cm:=[
  .asg 3 (.call 70 [.loc 0,.bin .add (.loc 1) (.lit (.int 1)),.lit (.str [48,49,50,51,52,53,54,55,56,57]),.lit (.int 99)]),
  .asg 4 (.bi .int1 [.slice (.loc 0) (.bin .add (.loc 1) (.lit (.int 1))) (.loc 3)]),
  .ite (.cmp .gt (.loc 4) (.lit (.int 40))) [
   .ret (.tup [.lit .none,.bin .add (.loc 1) (.lit (.int 1))])] [],
  .asg 5 (.loc 4),
  .ite (.cmp .eq (.slice (.loc 0) (.loc 3) (.bin .add (.loc 3) (.lit (.int 1)))) (.lit (.str [44]))) [
   .asg 6 (.bin .add (.loc 3) (.lit (.int 1))),
   .asg 3 (.call 70 [.loc 0,.loc 6,.lit (.str [48,49,50,51,52,53,54,55,56,57]),.lit (.int 99)]),
   .asg 5 (.lit .none),
   .ite (.cmp .gt (.loc 3) (.loc 6)) [
    .asg 5 (.bi .int1 [.slice (.loc 0) (.loc 6) (.loc 3)]),
    .ite (.cmp .gt (.loc 5) (.lit (.int 40))) [
     .ret (.tup [.lit .none,.loc 6])] []] []] [],
  .ite (.cmp .ne (.slice (.loc 0) (.loc 3) (.bin .add (.loc 3) (.lit (.int 1)))) (.lit (.str [125]))) [
   .ret (.tup [.lit .none,.ite (.cmp .ge (.loc 3) (.bi .len [.loc 0])) (.loc 1) (.loc 3)])] [],
  .ite (.and [.cmp .isnot (.loc 5) (.lit .none),.cmp .lt (.loc 5) (.loc 4)]) [
   .ret (.tup [.lit .none,.loc 1])] [],
  .ret (.tup [.tup [.lit (.str [114,101,112,101,97,116]),.loc 2,.loc 4,.loc 5],.bin .add (.loc 3) (.lit (.int 1))])]
noncomputable def b78:List Cm:=[
  .ite (.and [.cmp .ne (.slice (.loc 0) (.bin .add (.loc 1) (.lit (.int 1))) (.bin .add (.loc 1) (.lit (.int 2)))) (.lit (.str [])),.cmp .isin (.sub (.loc 0) (.bin .add (.loc 1) (.lit (.int 1)))) (.lit (.str [48,49,50,51,52,53,54,55,56,57]))]) [
   .ite (.cmp .eq (.loc 2) (.flist [])) [
    .ret (.tup [.lit .none,.loc 1])] [],
   .ret (.call 77 [.loc 0,.loc 1,.meth (.loc 2) 52 []])] [],
  .asg 3 (.call 70 [.loc 0,.bin .add (.loc 1) (.lit (.int 1)),.glob 14,.lit (.int 99)]),
  .asg 4 (.slice (.loc 0) (.bin .add (.loc 1) (.lit (.int 1))) (.loc 3)),
  .ite (.or [.cmp .notin (.loc 4) (.call 61 []),.cmp .ne (.slice (.loc 0) (.loc 3) (.bin .add (.loc 3) (.lit (.int 1)))) (.lit (.str [125]))]) [
   .ret (.tup [.lit .none,.loc 1])] [],
  .ret (.tup [.sub (.call 61 []) (.loc 4),.bin .add (.loc 3) (.lit (.int 1))])]
noncomputable def b79:List Cm:=[
  .asg 3 (.sub (.loc 0) (.loc 1)),
  .ite (.cmp .isin (.loc 3) (.lit (.str [42,43,63]))) [
   .ite (.cmp .eq (.loc 2) (.flist [])) [
    .ret (.tup [.lit .none,.loc 1])] [],
   .ret (.tup [.tup [.sub (.dict [[42],[43],[63]] [.lit (.str [115,116,97,114]),.lit (.str [112,108,117,115]),.lit (.str [111,112,116])]) (.loc 3),.meth (.loc 2) 52 []],.bin .add (.loc 1) (.lit (.int 1))])] [],
  .ite (.cmp .eq (.loc 3) (.lit (.str [123]))) [
   .ret (.call 78 [.loc 0,.loc 1,.loc 2])] [],
  .ite (.cmp .eq (.loc 3) (.lit (.str [91]))) [
   .ret (.call 73 [.loc 0,.loc 1])] [],
  .ite (.cmp .eq (.loc 3) (.lit (.str [34]))) [
   .ret (.call 76 [.loc 0,.loc 1])] [],
  .ite (.cmp .eq (.loc 3) (.lit (.str [46]))) [
   .ret (.tup [.tup [.lit (.str [99,104,97,114,115]),.tup [.tup [.lit (.int 0),.lit (.int 9)],.tup [.lit (.int 11),.lit (.int 127)]]],.bin .add (.loc 1) (.lit (.int 1))])] [],
  .ite (.cmp .isin (.loc 3) (.lit (.str [93,125,94,36,47,32,9,10]))) [
   .ret (.tup [.lit .none,.loc 1])] [],
  .asgT [4,5] (.call 72 [.loc 0,.loc 1]),
  .ite (.cmp .lt (.loc 4) (.lit (.int 0))) [
   .ret (.tup [.lit .none,.loc 1])] [],
  .ret (.tup [.tup [.lit (.str [99,104,97,114,115]),.tup [.tup [.loc 4,.loc 4]]],.loc 5])]
noncomputable def b80:List Cm:=[
  .asg 3 (.and [.loc 2,.cmp .eq (.slice (.loc 0) (.loc 1) (.bin .add (.loc 1) (.lit (.int 1)))) (.lit (.str [94]))]),
  .asg 4 (.ite (.loc 3) (.bin .add (.loc 1) (.lit (.int 1))) (.loc 1)),
  .asg 5 (.loc 4),
  .asg 6 (.mlist []),
  .asg 7 (.mlist []),
  .asg 8 (.mlist []),
  .asg 9 (.mlist []),
  .whl (.lit (.bool true)) [
   .asg 10 (.slice (.loc 0) (.loc 5) (.bin .add (.loc 5) (.lit (.int 1)))),
   .asg 11 (.or [.cmp .eq (.loc 10) (.lit (.str [])),.and [.loc 2,.cmp .isin (.loc 10) (.lit (.str [32,9,10]))]]),
   .asg 12 (.and [.cmp .eq (.loc 6) (.flist []),.or [.cmp .eq (.loc 10) (.lit (.str [41])),.and [.loc 2,.or [.cmp .eq (.loc 10) (.lit (.str [47])),.cmp .eq (.loc 10) (.lit (.str [36]))]]]]),
   .ite (.or [.loc 11,.loc 12]) [
    .ite (.cmp .ne (.loc 6) (.flist [])) [
     .ret (.tup [.lit (.str [102,97,117,108,116]),.sub (.sub (.loc 6) (.neg (.lit (.int 1)))) (.lit (.int 2))])] [],
    .ite (.and [.loc 2,.cmp .eq (.loc 5) (.loc 4)]) [
     .ret (.tup [.lit (.str [102,97,117,108,116]),.ite (.cmp .eq (.loc 9) (.flist [])) (.loc 4) (.bin .sub (.loc 4) (.lit (.int 1)))])] [],
    .ite (.and [.loc 11,.not (.loc 2)]) [
     .ret (.tup [.lit (.str [110,111,100,101]),.call 75 [.loc 7,.loc 8]])] [],
    .ite (.or [.cmp .eq (.loc 10) (.lit (.str [41])),.and [.loc 12,.cmp .ne (.loc 9) (.flist [])]]) [
     .ret (.tup [.lit (.str [102,97,117,108,116]),.loc 5])] [],
    .ex (.meth (.loc 9) 13 [.call 75 [.loc 7,.loc 8]]),
    .ite (.cmp .eq (.loc 10) (.lit (.str [47]))) [
     .asg 5 (.bin .add (.loc 5) (.lit (.int 1))),
     .asg 4 (.loc 5),
     .asg 7 (.mlist []),
     .asg 8 (.mlist []),
     .cont] [],
    .ite (.cmp .eq (.loc 10) (.lit (.str [36]))) [
     .asg 5 (.bin .add (.loc 5) (.lit (.int 1))),
     .ex (.meth (.loc 9) 13 [.tup [.lit (.str [99,104,97,114,115]),.tup [.tup [.lit (.int 10),.lit (.int 10)]]]]),
     .ite (.cmp .notin (.slice (.loc 0) (.loc 5) (.bin .add (.loc 5) (.lit (.int 1)))) (.flist [.lit (.str []),.lit (.str [32]),.lit (.str [9]),.lit (.str [10])])) [
      .ret (.tup [.lit (.str [102,97,117,108,116]),.bin .sub (.loc 5) (.lit (.int 1))])] []] [],
    .ret (.tup [.lit (.str [110,111,100,101]),.tup [.loc 3,.sub (.loc 9) (.lit (.int 0)),.ite (.cmp .gt (.bi .len [.loc 9]) (.lit (.int 1))) (.sub (.loc 9) (.lit (.int 1))) (.lit .none)],.loc 5])] [],
   .ite (.cmp .eq (.loc 10) (.lit (.str [124]))) [
    .ex (.meth (.loc 7) 13 [.call 74 [.loc 8]]),
    .asg 8 (.mlist []),
    .asg 5 (.bin .add (.loc 5) (.lit (.int 1)))] [
    .ite (.cmp .eq (.loc 10) (.lit (.str [40]))) [
     .ex (.meth (.loc 6) 13 [.tup [.loc 7,.loc 8,.loc 5]]),
     .asg 7 (.mlist []),
     .asg 8 (.mlist []),
     .asg 5 (.bin .add (.loc 5) (.lit (.int 1)))] [
     .ite (.cmp .eq (.loc 10) (.lit (.str [41]))) [
      .asg 13 (.call 75 [.loc 7,.loc 8]),
      .asgT [7,8,14] (.meth (.loc 6) 52 []),
      .ex (.meth (.loc 8) 13 [.loc 13]),
      .asg 5 (.bin .add (.loc 5) (.lit (.int 1)))] [
      .asgT [13,5] (.call 79 [.loc 0,.loc 5,.loc 8]),
      .ite (.cmp .is (.loc 13) (.lit .none)) [
       .ret (.tup [.lit (.str [102,97,117,108,116]),.loc 5])] [],
      .ex (.meth (.loc 8) 13 [.loc 13])]]]]]
noncomputable def b81:List Cm:=[
  .asg 4 (.lit .none),
  .tryAt [
   .ite (.loc 2) [
    .asgT [5,6] (.call 56 [.loc 0,.loc 1,.loc 3]),
    .asg 7 (.tup [.lit (.str [110,111,100,101]),.meth (.loc 5) 21 [],.loc 6])] [
    .asg 7 (.tup [.lit (.str [110,111,100,101]),.meth (.call 55 [.loc 0,.loc 3]) 21 []])]] 8 4,
  .ite (.cmp .is (.loc 4) (.lit .none)) [
   .ret (.loc 7)] [],
  .asg 9 (.meth (.slice (.loc 0) (.lit .none) (.attr (.loc 4) 0)) 53 [.lit (.str [10])]),
  .ite (.cmp .ne (.meth (.loc 4) 21 []) (.tup [.bi .len [.loc 9],.bin .add (.bi .len [.sub (.loc 9) (.neg (.lit (.int 1)))]) (.lit (.int 1))])) [
   .ret (.tup [.lit (.str [102,97,117,108,116]),.lit (.str [108,105,110,101,32,97,110,100,32,99,111,108,117,109,110])])] [],
  .ret (.tup [.lit (.str [102,97,117,108,116]),.attr (.loc 4) 0])]
noncomputable def b82:List Cm:=[
  .asg 1 (.call 63 [.loc 0]),
  .asg 2 (.dict [[68],[120,95,49]] [.call 55 [.lit (.str [97,124,98])],.call 55 [.lit (.str [])]]),
  .loop [3] false (.bi .range1 [.lit (.int 4)]) [
   .asg 4 (.call 67 [.loc 1]),
   .asg 5 (.lit (.int 0)),
   .ite (.cmp .eq (.bin .mod (.loc 3) (.lit (.int 2))) (.lit (.int 0))) [
    .asg 4 (.bin .add (.loc 4) (.sub (.call 60 []) (.call 64 [.loc 1,.bi .len [.call 60 []]])))] [
    .asg 6 (.sub (.flist [.lit (.str []),.lit (.str [32]),.lit (.str [97,10])]) (.call 64 [.loc 1,.lit (.int 3)])),
    .asg 5 (.bi .len [.loc 6]),
    .asg 4 (.bin .add (.bin .add (.bin .add (.loc 6) (.sub (.flist [.lit (.str []),.lit (.str [94])]) (.call 64 [.loc 1,.lit (.int 2)]))) (.loc 4)) (.sub (.flist [.lit (.str []),.lit (.str [36]),.lit (.str [47,97]),.lit (.str [32,120]),.bin .add (.lit (.str [47])) (.loc 4),.lit (.str [36,32]),.lit (.str [9]),.lit (.str [47]),.lit (.str [47,32]),.lit (.str [36,47,97]),.lit (.str [47,97,36]),.lit (.str [47,97,47,98]),.lit (.str [41]),.lit (.str [47,124]),.lit (.str [124,36]),.lit (.str [40,47,97]),.lit (.str [40,97,32])]) (.call 64 [.loc 1,.lit (.int 17)])))],
   .ite (.cmp .ne (.call 81 [.loc 4,.loc 5,.cmp .eq (.bin .mod (.loc 3) (.lit (.int 2))) (.lit (.int 1)),.loc 2]) (.call 80 [.loc 4,.loc 5,.cmp .eq (.bin .mod (.loc 3) (.lit (.int 2))) (.lit (.int 1))])) [
    .ret (.lit (.bool false))] []],
  .ret (.lit (.bool true))]
noncomputable def bodies:List (List Cm):=[b0,b1,b2,b3,b4,b5,b6,b7,b8,b9,b10,b11,b12,b13,b14,b15,b16,b17,b18,b19,b20,b21,b22,b23,b24,b25,b26,b27,b28,b29,b30,b31,b32,b33,b34,b35,b36,b37,b38,b39,b40,b41,b42,b43,b44,b45,b46,b47,b48,b49,b50,b51,b52,b53,b54,b55,b56,b57,b58,b59,b60,b61,b62,b63,b64,b65,b66,b67,b68,b69,b70,b71,b72,b73,b74,b75,b76,b77,b78,b79,b80,b81,b82]
end Mine
end
section
open PySem PySem.W PySem.Calls PyProof.Rows
namespace Mine
theorem A0a{α:Type}{x:α}{p:Prop}(e:none=some x):p:=nomatch e
noncomputable def lk{α:Type}:List Nat->List α->Nat->Option α
 |[],_,_=>none
 |n::ns,xs,a=>(match xs with | []=>none | x::xs=>(match Nat.beq n a with | true=>some x | false=>lk ns xs a))
noncomputable def putN:List Nat->Nat->List Nat
 |[],a=> [a]
 |n::ns,a=>(match Nat.beq n a with | true=>n::ns | false=>n::putN ns a)
noncomputable def putV{α:Type}:List Nat->List α->Nat->α->List α
 |[],xs,_,v=>xs++[v]
 |n::ns,xs,a,v=>(match xs with | []=> [v] | x::xs=>(match Nat.beq n a with | true=>v::xs | false=>x::putV ns xs a v))
noncomputable def dlk:List (List Nat)->List AVal->List Nat->Option AVal
 |n::ns,x::xs,a=>if n=a then some x else dlk ns xs a
 |_,_,_=>none
noncomputable def dU(s:String):List Nat:=codes s
noncomputable def A4q(p:Int×Int):AVal:=.tup [.int p.1,.int p.2]
noncomputable def B6a(l:List (Int×Int)):AVal:=.tup (l.map A4q)
noncomputable def A0g:List Nat:=[48,49,50,51,52,53,54,55,56,57]
noncomputable def gSMALL:List Nat:=(List.range 26).map (· +97)
noncomputable def gBIG:List Nat:=(List.range 26).map (· +65)
noncomputable def A4y:List Nat:=gSMALL++gBIG++[95]++A0g
noncomputable def gHEX:List Nat:=A0g++[97,98,99,100,101,102,65,66,67,68,69,70]
noncomputable def gOCT:List Nat:=[48,49,50,51,52,53,54,55]
noncomputable def A1u:List (List Nat):=[[110],[116],[114],[102],[118],[97],[98]]
noncomputable def A3c:List AVal:=[.int 10,.int 9,.int 13,.int 12,.int 11,.int 7,.int 8]
noncomputable def A9n:List (List Nat×List (Int×Int)):=[
 ([97,108,112,104,97],[(65,90),(97,122)]),([100,105,103,105,116],[(48,57)]),([97,108,110,117,109],[(48,57),(65,90),(97,122)]),([117,112,112,101,114],[(65,90)]),
 ([108,111,119,101,114],[(97,122)]),([115,112,97,99,101],[(9,13),(32,32)]),([98,108,97,110,107],[(9,9),(32,32)]),([112,117,110,99,116],[(33,47),(58,64),(91,96),(123,126)]),
 ([120,100,105,103,105,116],[(48,57),(65,70),(97,102)]),([99,110,116,114,108],[(0,31),(127,127)]),([112,114,105,110,116],[(32,126)]),([103,114,97,112,104],[(33,126)])]
noncomputable def A1d:List Nat:=[32,9,10]
noncomputable def A6z:List Nat:=[42,43,63,93,125,94,36,47,32,9,10]
noncomputable def B0k:List Nat:=[40,41,91,93,123,125,124,42,43,63,94,36,47,92,34,45,46,44,58,97,98,49,57,10,32,120,52,9]
noncomputable def B4a:List Nat:=A0g++[97,98,99,100,101,102,65,66,67,68,69,70]
noncomputable def B0l:List Nat:=gSMALL++gBIG++[95]++A0g
noncomputable def gval:Nat->AVal
 |0=>.str A0g | 1=>.str A4y | 2=>.str gHEX | 3=>.str gOCT
 |4=>.dict A1u A3c | 5=>.int 127 | 6=>.dict (A9n.map (·.1)) (A9n.map λx=>B6a x.2)
 |7=>.int 40 | 8=>.int 20 | 9=>.str A1d | 10=>.str A6z | 11=>.str [10] | 12=>.str B0k | 13=>.str B4a | 14=>.str B0l
 |_=>.none
noncomputable def A6h:Nat->Option (List Nat)
 |6=>some [101,109,112,116,121] | 7=>some [110,101,118,101,114] | 8=>some [99,104,97,114,115]
 |10=>some [99,97,116] | 11=>some [97,108,116] | 13=>some [115,116,97,114] | 14=>some [112,108,117,115] | 15=>some [111,112,116] | 16=>some [114,101,112,101,97,116]
 |_=>none
noncomputable def A6i(c a:Nat):Option AVal:=if a=16 then(A6h c).map .str else none
noncomputable def mTab:List (List (Nat×Nat)):=[[(21,1)],[],[],[(5,4),(7,5),(6,6),(9,7),(34,8),(8,9),(16,10),(10,11),(12,12),(43,13)],[(26,19),(48,20),(18,21)],[],[(21,23)],[(21,23)],[(21,25)],[],[(21,27)],[(21,27)],[],[(21,29)],[(21,29)],[(21,29)],[(21,31)],[(21,36)],[(50,40),(35,41),(41,42),(33,43),(36,44),(38,45),(39,46),(37,47),(45,48),(43,49),(44,50),(42,51),(46,52),(47,53),(49,54)]]
noncomputable def asc:List (Nat×Nat)->Nat->Option Nat
 |[],_=>none
 |p::r,m=>(match Nat.beq p.1 m with | true=>some p.2 | false=>asc r m)
noncomputable def A5c(c m:Nat):Option Nat:=asc (mTab.getD c []) m
noncomputable def A5e:Nat->Option Nat
 |0=>some 0 | 3=>some 3 | 4=>some 14 | 8=>some 24 | 10=>some 26 | 11=>some 26 | 13=>some 28 | 14=>some 28 | 15=>some 28 | 16=>some 30 | 17=>some 35 | 18=>some 39
 |_=>none
noncomputable def A0r:Nat->List Nat
 |0=> [0,1,2] | 3=> [3,4] | 4=> [14] | 8=> [17] | 10=> [19,20] | 11=> [19,20] | 13=> [22] | 14=> [22] | 15=> [22] | 16=> [22,23,24] | 17=> [22,27,28] | 18=> [29,30,31,32]
 |_=> []
noncomputable def ix(n:Nat)(i:Int):Option Nat:=match i with
 |.ofNat k=>(match Nat.ble (k+1) n with | true=>some k | false=>none)
 |.negSucc j=>(match Nat.ble (j+1) n with | true=>some (n- (j+1)) | false=>none)
noncomputable def big:Nat:=2^20
noncomputable def A3n:AVal->Bool
 |.none | .bool _ | .int _ | .str _=>true
 |.tup xs=>plainVs xs
 |_=>false
where plainVs:List AVal->Bool
 |[]=>true
 |x::xs=>A3n x&&plainVs xs
noncomputable def A3q:AVal->Nat
 |.tup xs=>depthVs xs+1
 |_=>0
where depthVs:List AVal->Nat
 |[]=>0
 |x::xs=>max (A3q x) (depthVs xs)
noncomputable def strs?:List AVal->Option (List (List Nat))
 |[]=>some []
 |.str s::r=>(strs? r).map (s:: ·)
 |_::_=>none
noncomputable def isNone:AVal->Bool
 |.none=>true
 |_=>false
noncomputable def cut{α:Type}(l h:Nat)(xs:List α):List α:=(xs.take h).drop l
noncomputable def numV(s:List Nat):Nat:=s.foldl (λa c=>a*10+(c-48)) 0
noncomputable def A6c(c:Nat):Option Nat:=if 48<=c/\c<=57 then some (c-48) else if 97<=c/\c<=102 then some (c-87) else if 65<=c/\c<=70 then some (c-55) else none
noncomputable def pairs?:List AVal->Option (List (Int×Int))
 |[]=>some []
 |.tup [.int a,.int b]::r=>(pairs? r).map ((a,b):: ·)
 |_::_=>none
noncomputable def A1b(a b:Int×Int):Bool:=a.1<b.1|| (a.1=b.1&&a.2<=b.2)
noncomputable def A6n(l:List (Int×Int)):List (Int×Int):=l.mergeSort A1b
theorem A6w{a b:Int×Int}:A1b a b=true↔a.1<b.1∨(a.1=b.1/\a.2<=b.2):=Bool.or_eq_true_iff.trans (or_congr decide_eq_true_iff (Aq.trans (and_congr decide_eq_true_iff decide_eq_true_iff)))
theorem pl_tr{a b c:Int×Int}(h:A1b a b=true)(g:A1b b c=true):A1b a c=true:=by
 rw[A6w] at h g ⊢
 rcases h with h | h
 ·exact .inl (g.elim (Int.lt_trans h) λg=>g.1▸h)
 ·rcases g with g | g
  ·exact .inl (h.1▸g)
  ·exact .inr ⟨h.1.trans g.1,Int.le_trans h.2 g.2⟩
theorem pl_to{a b:Int×Int}:(A1b a b||A1b b a)=true:=by
 rw[Bool.or_eq_true_iff,A6w,A6w]
 rcases Int.lt_trichotomy a.1 b.1 with h | h | h
 ·exact .inl (.inl h)
 ·exact(Int.le_total a.2 b.2).elim (λg=>.inl (.inr ⟨h,g⟩)) λg=>.inr (.inr ⟨h.symm,g⟩)
 ·exact .inr (.inl h)
noncomputable def A0t(lo hi:Int):List Int:=(List.range (hi-lo).toNat).map λ(k:Nat)=>lo+(k:Int)
noncomputable def B2s(i:Int):List Nat:=(Str.ofString (toString i)).cps.toList
noncomputable def A2b(c:Nat):List Nat->Option Nat
 |[]=>none
 |x::r=>if x=c then some 0 else(A2b c r).map (· +1)
noncomputable def lowC(c:Nat):Nat:=if 65<=c/\c<=90 then c+32 else c
noncomputable def A0n:List Nat->List (List Nat)
 |[]=> [[]]
 |c::r=>if c=10 then []::A0n r else match A0n r with | l::ls=>(c::l)::ls | []=> [[c]]
noncomputable def A1o(t:List Nat):Nat:=1+(t.filter (· =10)).length
noncomputable def B0u(t:List Nat):Nat:=(t.reverse.takeWhile (· ≠10)).length+1
noncomputable def posV(t:List Nat)(at_:Int):AVal:=
 let k:=(min (max at_ 0) t.length).toNat
 .inst 0 [0,1,2] [.int k,.int (A1o (t.take k)),.int (B0u (t.take k))]
noncomputable def isStrV:AVal->Bool
 |.str _=>true
 |_=>false
noncomputable def nlT:List Nat:=[4,1,6,3,1,3,2,2,2,3,2,6,2,4,2,0,1,2,7,1,5,1,2,1,2,1,3,4,2,1,4,1,3,3,1,4,2,0,1,5,2,2,2,2,5,5,4,5,5,5,3,7,3,4,3,4,11,0,0,0,0,0,0,1,7,6,6,1,5,3,5,6,4,13,3,4,5,7,5,6,15,10,7]
noncomputable def npT:List Nat:=[4,1,2,3,1,2,2,1,2,2,1,4,1,2,2,0,1,2,1,1,1,1,1,1,2,1,3,1,2,1,4,1,1,1,1,4,1,0,1,5,1,1,1,1,2,2,1,1,3,2,2,2,1,1,1,2,3,0,0,0,0,0,0,1,2,1,2,1,1,1,4,2,2,2,1,2,2,3,3,3,3,4,1]
noncomputable def dvT(i:Nat):List AVal:=if i=3∨i=5 then [.int 0] else if i=55∨i=56∨i=83 then [.none] else []
set_option genCtorIdx false in
inductive V where
 |p (v:AVal)
 |ref (k:Nat)
 |obj (c k:Nat)
 |tup (xs:List V)
set_option genCtorIdx false in
inductive Cl where
 |lst (xs:List AVal)
 |lstR (xs:List V)
 |dct (ns:List Nat) (xs:List V)
abbrev Ht:=List Cl
abbrev Lo:=List (Option V)
set_option genCtorIdx false in
inductive Rs(α:Type) where
 |ok (a:α) (h:Ht)
 |exc (p:AVal)
 |bad
set_option genCtorIdx false in
inductive Ro where
 |next (ρ:Lo) (h:Ht)
 |cont (ρ:Lo) (h:Ht)
 |ret (v:V) (h:Ht)
 |exc (ρ:Lo) (p:AVal)
 |bad
noncomputable def Rs.bind{α β:Type}(r:Rs α)(f:α->Ht->Rs β):Rs β:=match r with
 |.ok a h=>f a h
 |.exc p=>.exc p
 |.bad=>.bad
set_option genCtorIdx false in
inductive O where
 |v (x:V) (h:Ht)
 |g (b:Bool) (x:V) (h:Ht)
 |on (o:Option Nat) (f:Nat->AVal) (h:Ht)
 |oa (o:Option AVal) (h:Ht)
 |ov (o:Option V) (h:Ht)
 |jn (o:Option (List (List Nat))) (h:Ht)
 |so (o:Option (List (Int×Int))) (h:Ht)
 |bad
noncomputable def jnB(ss:List (List Nat)):Bool:=Nat.ble ss.length big&&Nat.ble ss.flatten.length big
noncomputable def O.run:O->Rs V
 |.v x h=>.ok x h
 |.g b x h=>match b with | true=>.ok x h | false=>.bad
 |.on o f h=>match o with | some n=>.ok (.p (f n)) h | none=>.bad
 |.oa o h=>match o with | some n=>.ok (.p n) h | none=>.bad
 |.ov o h=>match o with | some n=>.ok n h | none=>.bad
 |.jn o h=>match o with | some ss=>(match jnB ss with | true=>.ok (.p (.str ss.flatten)) h | false=>.bad) | none=>.bad
 |.so o h=>match o with | some ps=>.ok (.p (.lst ((A6n ps).map A4q))) h | none=>.bad
 |.bad=>.bad
noncomputable def oP(v:V)(f:AVal->O):O:=match v with | .p a=>f a | .ref _=>.bad | .obj _ _=>.bad | .tup _=>.bad
noncomputable def oI(v:V)(f:Int->O):O:=oP v λa=>match a with | .int i=>f i | _=>.bad
noncomputable def oS(v:V)(f:List Nat->O):O:=oP v λa=>match a with | .str s=>f s | _=>.bad
noncomputable def o1(vs:List V)(f:V->O):O:=match vs with | []=>.bad | v::r=>match r with | []=>f v | _::_=>.bad
noncomputable def o2(vs:List V)(f:V->V->O):O:=match vs with | []=>.bad | v::r=>o1 r λw=>f v w
noncomputable def oC(s:List Nat)(f:Nat->O):O:=match s with | []=>.bad | c::r=>match r with | []=>f c | _::_=>.bad
noncomputable def pvO(a:AVal)(h:Ht):O:=.v (.p a) h
noncomputable def bO(b:Bool)(h:Ht):O:=.v (.p (.bool b)) h
noncomputable def sqV(h:Ht)(v:V):Option (List AVal):=match v with
 |.p a=>(match a with | .lst xs=>some xs | _=>none)
 |.ref k=>(match h[k]? with | some c=>(match c with | .lst xs=>some xs | .lstR _=>none | .dct _ _=>none) | none=>none)
 |.obj _ _=>none
 |.tup _=>none
noncomputable def oL(h:Ht)(v:V)(f:List AVal->O):O:=match sqV h v with | some xs=>f xs | none=>.bad
noncomputable def addO(x y:V)(h:Ht):O:=match x with
 |.p a=>(match a with
  |.int i=>oI y λj=>pvO (.int (i+j)) h
  |.str s=>oS y λt=>.g (Nat.ble (s.length+t.length) big) (.p (.str (s++t))) h
  |.lst xs=>oL h y λys=>.g (Nat.ble (xs.length+ys.length) big) (.p (.lst (xs++ys))) h
  |_=>.bad)
 |.ref k=>oL h (.ref k) λxs=>oL h y λys=>.g (Nat.ble (xs.length+ys.length) big) (.p (.lst (xs++ys))) h
 |.obj _ _=>.bad
 |.tup _=>.bad
noncomputable def mulO(x y:V)(h:Ht):O:=oP x λa=>match a with
 |.int i=>oI y λj=>.g (decide (i.natAbs<2^2000/\j.natAbs<2^2000)) (.p (.int (i*j))) h
 |.str s=>oI y λj=>.g (decide (0<=j/\j<=big/\s.length*j.toNat<=big)) (.p (.str ((List.replicate j.toNat s).flatten))) h
 |.lst xs=>oI y λj=>.g (decide (0<=j/\j<=big/\xs.length*j.toNat<=big)) (.ref h.length) (h++[.lst (List.replicate j.toNat xs).flatten])
 |_=>.bad
noncomputable def binO(o:Op2)(x y:V)(h:Ht):O:=match o with
 |.add=>addO x y h
 |.mul=>mulO x y h
 |.sub=>oI x λi=>oI y λj=>pvO (.int (i-j)) h
 |.fdiv=>oI x λi=>oI y λj=>.g (decide (0<j/\j<2^29)) (.p (.int (i/j))) h
 |.mod=>oI x λi=>oI y λj=>.g (decide (0<j)) (.p (.int (i%j))) h
 |.pow=>oI x λi=>oI y λj=>.g (decide (i.natAbs<2^200/\0<=j/\j<=18)) (.p (.int (i^j.toNat))) h
noncomputable def ltB(i j:Int):Bool:=match i with
 |.ofNat a=>(match j with | .ofNat b=>Nat.ble (a+1) b | .negSucc _=>false)
 |.negSucc a=>(match j with | .ofNat _=>true | .negSucc b=>Nat.ble (b+1) a)
noncomputable def leB(i j:Int):Bool:=match i with
 |.ofNat a=>(match j with | .ofNat b=>Nat.ble a b | .negSucc _=>false)
 |.negSucc a=>(match j with | .ofNat _=>true | .negSucc b=>Nat.ble b a)
noncomputable def eqI(i j:Int):Bool:=match i with
 |.ofNat a=>(match j with | .ofNat b=>Nat.beq a b | .negSucc _=>false)
 |.negSucc a=>(match j with | .ofNat _=>false | .negSucc b=>Nat.beq a b)
noncomputable def eqS:List Nat->List Nat->Bool
 |[],t=>(match t with | []=>true | _::_=>false)
 |a::s,t=>(match t with | []=>false | b::t=>(match eqS s t with | true=>Nat.beq a b | false=>false))
theorem B9i(a b:Nat):Nat.beq a b=decide (a=b):=Bool.eq_iff_iff.mpr ((Iff.of_eq Nat.beq_eq).trans decide_eq_true_iff.symm)
theorem A6j(a b:Nat):Nat.ble a b=decide (a<=b):=Bool.eq_iff_iff.mpr ((Iff.of_eq Nat.ble_eq).trans decide_eq_true_iff.symm)
theorem ltB_eq(i j:Int):ltB i j=decide (i<j):=by
 cases i <;> cases j <;> (unfold ltB;simp only[A6j,Int.ofNat_eq_natCast];first | exact decide_eq_decide.mpr (by omega) | exact(decide_eq_false (by omega)).symm | exact(A8 (by omega)).symm)
theorem B7f(i j:Int):leB i j=decide (i<=j):=by
 cases i <;> cases j <;> (unfold leB;simp only[A6j,Int.ofNat_eq_natCast];first | exact decide_eq_decide.mpr (by omega) | exact(decide_eq_false (by omega)).symm | exact(A8 (by omega)).symm)
theorem eqI_eq(i j:Int):eqI i j=decide (i=j):=by
 cases i <;> cases j <;> (unfold eqI;simp only[B9i,Int.ofNat_eq_natCast];first | exact decide_eq_decide.mpr (by omega) | exact(decide_eq_false (by omega)).symm | exact(A8 (by omega)).symm)
theorem eqS_eq:∀(s t:List Nat),eqS s t=decide (s=t):=by
 intro s
 induction s with
 |nil=>intro t;cases t <;> rfl
 |cons a s ih=>
  intro t
  cases t with
  |nil=>rfl
  |cons b t=>
   show(match eqS s t with | true=>Nat.beq a b | false=>false)=_
   rw[ih]
   by_cases q:s=t
   ·subst q
    simp only[decide_true,List.cons.injEq,and_true]
    exact B9i a b
   ·simp[q]
noncomputable def isE(h:Ht)(v:V):Option Bool:=match v with
 |.p a=>(match a with | .lst xs=>some xs.isEmpty | _=>none)
 |.ref k=>(match h[k]? with | some c=>(match c with | .lst xs=>some xs.isEmpty | .lstR xs=>some xs.isEmpty | .dct _ _=>none) | none=>none)
 |.obj _ _=>none
 |.tup _=>none
noncomputable def xo(ne b:Bool):Bool:=match ne with | true=> !b | false=>b
noncomputable def emO(e:Option Bool)(y:V)(h:Ht)(ne:Bool):O:=match e with
 |some e=>oP y λb=>(match b with | .lst ys=>(match ys with | []=>bO (xo ne e) h | _::_=>.bad) | _=>.bad)
 |none=>.bad
open Classical in
noncomputable def tupB(xs ys:List AVal):Bool:=decide (xs=ys/\A3n (.tup xs)=true/\A3q (.tup xs)<=1000)
open Classical in
theorem B5j{xs ys:List AVal}(h:tupB xs ys=true):xs=ys/\A3n (.tup xs)=true/\A3q (.tup xs)<=1000:=Ba h
open Classical in
theorem B5i{xs ys:List AVal}(h:xs=ys/\A3n (.tup xs)=true/\A3q (.tup xs)<=1000):tupB xs ys=true:=A8 h
noncomputable def eqO(x y:V)(h:Ht)(ne:Bool):O:=match x with
 |.p a=>(match a with
  |.int i=>oI y λj=>bO (xo ne (eqI i j)) h
  |.str s=>oS y λt=>bO (xo ne (eqS s t)) h
  |.bool b=>(match ne with | true=>oP y λc=>(match c with | .bool c=>bO (b !=c) h | _=>.bad) | false=>.bad)
  |.tup xs=>oP y λc=>(match c with | .tup ys=>.g (tupB xs ys) (.p (.bool (xo ne true))) h | _=>.bad)
  |.lst xs=>emO (some xs.isEmpty) y h ne
  |_=>.bad)
 |.ref k=>emO (isE h (.ref k)) y h ne
 |.obj _ _=>.bad
 |.tup _=>.bad
noncomputable def inO(x y:V)(h:Ht)(ne:Bool):O:=oS x λs=>oP y λb=>match b with
 |.str t=>oC s λc=>bO (xo ne (t.contains c)) h
 |.dict ks _=>bO (xo ne (ks.contains s)) h
 |.lst xs=>(match ne with | true=>(match strs? xs with | some ts=>bO (!ts.contains s) h | none=>.bad) | false=>.bad)
 |_=>.bad
noncomputable def isNV(v:V):Bool:=match v with | .p a=>isNone a | .ref _=>false | .obj _ _=>false | .tup _=>false
noncomputable def nnO(y:V)(o:O):O:=oP y λb=>match b with | .none=>o | _=>.bad
noncomputable def cmpO(o:Cop)(x y:V)(h:Ht):O:=match o with
 |.eq=>eqO x y h false
 |.ne=>eqO x y h true
 |.lt=>oI x λi=>oI y λj=>bO (ltB i j) h
 |.le=>oI x λi=>oI y λj=>bO (leB i j) h
 |.gt=>oI x λi=>oI y λj=>bO (ltB j i) h
 |.ge=>oI x λi=>oI y λj=>bO (leB j i) h
 |.is=>nnO y (bO (isNV x) h)
 |.isnot=>nnO y (bO (!isNV x) h)
 |.isin=>inO x y h false
 |.notin=>inO x y h true
noncomputable def atI{α:Type}(xs:List α)(i:Int):Option α:=match i with
 |.ofNat k=>xs[k]?
 |.negSucc k=>(match Nat.ble (k+1) xs.length with | true=>xs[xs.length- (k+1)]? | false=>none)
noncomputable def subO(x y:V)(h:Ht):O:=match x with
 |.p a=>(match a with
  |.str s=>oI y λi=>.on (atI s i) (λc=>.str [c]) h
  |.dict ks xs=>oS y λs=>.oa (dlk ks xs s) h
  |.lst xs=>oI y λi=>.oa (atI xs i) h
  |.tup xs=>oI y λi=>.oa (atI xs i) h
  |_=>.bad)
 |.ref k=>(match h[k]? with
  |some c=>(match c with | .lst xs=>oI y λi=>.oa (atI xs i) h | .lstR xs=>oI y λi=>.ov (atI xs i) h | .dct _ _=>.bad)
  |none=>.bad)
 |.obj _ _=>.bad
 |.tup xs=>oI y λi=>.ov (atI xs i) h
noncomputable def hiN(n:Nat)(v:V):Option Nat:=match v with
 |.p a=>(match a with | .none=>some n | .int i=>(match i with | .ofNat k=>some k | .negSucc _=>none) | _=>none)
 |.ref _=>none | .obj _ _=>none | .tup _=>none
noncomputable def oN(o:Option Nat)(f:Nat->O):O:=match o with | some n=>f n | none=>.bad
noncomputable def B1l(x lo hi:V)(h:Ht):O:=match x with
 |.p a=>(match a with
  |.str s=>oN (hiN 0 lo) λl=>oN (hiN s.length hi) λe=>pvO (.str (cut l e s)) h
  |.lst xs=>oN (hiN 0 lo) λl=>oN (hiN xs.length hi) λe=>pvO (.lst (cut l e xs)) h
  |_=>.bad)
 |.ref k=>oL h (.ref k) λxs=>oN (hiN 0 lo) λl=>oN (hiN xs.length hi) λe=>pvO (.lst (cut l e xs)) h
 |.obj _ _=>.bad
 |.tup _=>.bad
noncomputable def lenO(v:V)(h:Ht):O:=match v with
 |.p a=>(match a with | .str s=>pvO (.int (Int.ofNat s.length)) h | .lst xs=>pvO (.int (Int.ofNat xs.length)) h | .tup xs=>pvO (.int (Int.ofNat xs.length)) h | _=>.bad)
 |.ref k=>oL h (.ref k) λxs=>pvO (.int (Int.ofNat xs.length)) h
 |.obj _ _=>.bad
 |.tup _=>.bad
noncomputable def figs(s:List Nat):Bool:=s.all λc=>Nat.ble 48 c&&Nat.ble c 57
noncomputable def intO(v:V)(h:Ht):O:=oP v λa=>match a with
 |.int i=>pvO (.int i) h
 |.str s=>.g (!s.isEmpty&&Nat.ble s.length 100&&figs s) (.p (.int (Int.ofNat (numV s)))) h
 |_=>.bad
noncomputable def biO(b:Bi)(vs:List V)(h:Ht):O:=match b with
 |.len=>o1 vs λv=>lenO v h
 |.ord=>o1 vs λv=>oS v λs=>oC s λc=>pvO (.int (Int.ofNat c)) h
 |.chr=>o1 vs λv=>oI v λi=>.g (decide (0<=i/\i<1114112)) (.p (.str [i.toNat])) h
 |.int1=>o1 vs λv=>intO v h
 |.int16=>o2 vs λv w=>oS v λs=>oC s λc=>oI w λi=>(match decide (i=16) with | true=>.on (A6c c) (λn=>.int (Int.ofNat n)) h | false=>.bad)
 |.str=>o1 vs λv=>oI v λi=>.g (decide (i.natAbs<1000)) (.p (.str (B2s i))) h
 |.abs=>o1 vs λv=>oI v λi=>pvO (.int (Int.ofNat i.natAbs)) h
 |.min=>o2 vs λv w=>oI v λi=>oI w λj=>pvO (.int (min i j)) h
 |.max=>o2 vs λv w=>oI v λi=>oI w λj=>pvO (.int (max i j)) h
 |.range1=>o1 vs λv=>oI v λi=>.g (decide (-(2^20)<i/\i<2^20)) (.p (.range 0 i)) h
 |.range2=>o2 vs λv w=>oI v λi=>oI w λj=>.g (decide (0<=i/\i<2^20/\0<=j/\j<2^20)) (.p (.range i j)) h
 |.list=>o1 vs λv=>oP v λa=>(match a with | .range lo hi=>pvO (.lst ((A0t lo hi).map .int)) h | _=>.bad)
 |.tuple=>o1 vs λv=>oL h v λxs=>pvO (.tup xs) h
 |.sorted=>o1 vs λv=>oL h v λxs=>.so (pairs? xs) h
noncomputable def strO(s:List Nat)(vs:List V)(h:Ht):Nat->O
 |11=>(match s with | []=>o1 vs λl=>oL h l λxs=>.jn (strs? xs) h | _::_=>.bad)
 |40=>o1 vs λv=>oS v λz=>oC z λc=>.on (A2b c s) (λn=>.int (Int.ofNat n)) h
 |51=>(match vs with | []=>oC s λc=>.g (Nat.ble (c+1) 128) (.p (.str [lowC c])) h | _::_=>.bad)
 |53=>o1 vs λv=>oS v λz=>oC z λc=>(match Nat.beq c 10 with | true=>.g (Nat.ble s.length big) (.p (.lst ((A0n s).map .str))) h | false=>.bad)
 |_=>.bad
noncomputable def refO(k:Nat)(vs:List V)(h:Ht):Nat->O
 |13=>o1 vs λx=>(match h[k]? with
  |some c=>(match c with
   |.lst xs=>(match x with
    |.p a=>.g (Nat.ble (xs.length+1) big) (.p .none) (h.set k (.lst (xs++[a])))
    |.tup ys=>(match xs with | []=>.v (.p .none) (h.set k (.lstR [.tup ys])) | _::_=>.bad)
    |.ref _=>.bad
    |.obj _ _=>.bad)
   |.lstR xs=>.g (Nat.ble (xs.length+1) big) (.p .none) (h.set k (.lstR (xs++[x])))
   |.dct _ _=>.bad)
  |none=>.bad)
 |52=>(match vs with
  |[]=>(match h[k]? with
   |some c=>(match c with
    |.lst xs=>.oa xs.getLast? (h.set k (.lst xs.dropLast))
    |.lstR xs=>.ov xs.getLast? (h.set k (.lstR xs.dropLast))
    |.dct _ _=>.bad)
   |none=>.bad)
  |_::_=>.bad)
 |25=>(match vs with
  |[]=>oL h (.ref k) λxs=>.v (.p .none) (h.set k (.lst xs.reverse))
  |_::_=>.bad)
 |_=>.bad
noncomputable def getO(v:V)(a:Nat)(h:Ht):O:=match v with
 |.p b=>(match b with
  |.inst c ns xs=>(match lk ns xs a with
   |some x=>(match(A0r c).contains a with | true=>pvO x h | false=>.bad)
   |none=>(match A6i c a with | some x=>pvO x h | none=>.bad))
  |_=>.bad)
 |.obj c k=>(match h[k]? with
  |some d=>(match d with
   |.dct ns xs=>(match lk ns xs a with | some x=>(match(A0r c).contains a with | true=>.v x h | false=>.bad) | none=>.bad)
   |.lst _=>.bad
   |.lstR _=>.bad)
  |none=>.bad)
 |.ref _=>.bad
 |.tup _=>.bad
noncomputable def truV(h:Ht)(v:V):Option Bool:=match v with
 |.p a=>(match a with | .none=>some false | .bool b=>some b | .lst xs=>some (!xs.isEmpty) | _=>none)
 |.ref k=>(match isE h (.ref k) with | some e=>some (!e) | none=>none)
 |.obj _ _=>none
 |.tup _=>none
noncomputable def A0z(h:Ht)(v:V):Option (List AVal):=match v with
 |.p a=>(match a with | .str s=>some (s.map λc=>.str [c]) | .range lo hi=>some ((A0t lo hi).map .int) | .lst xs=>some xs | .tup xs=>some xs | _=>none)
 |.ref k=>sqV h (.ref k)
 |.obj _ _=>none
 |.tup _=>none
noncomputable def A2l(v:V)(xs:List AVal)(h:Ht):Prop:=match v with | .ref k=>h[k]?=some (.lst xs) | .p _=>True | .obj _ _=>True | .tup _=>True
noncomputable def allP:List V->Option (List AVal)
 |[]=>some []
 |x::r=>(match x with | .p a=>(match allP r with | some l=>some (a::l) | none=>none) | .ref _=>none | .obj _ _=>none | .tup _=>none)
abbrev Ob:=Nat->List V->Ht->Rs V
noncomputable def foot:List V->Nat->Option (List V×List Nat)
 |[],_=>some ([],[])
 |v::r,j=>(match v with
  |.p a=>(match foot r j with | some q=>some (.p a::q.1,q.2) | none=>none)
  |.ref k=>(match foot r (j+1) with | some q=>some (.ref j::q.1,k::q.2) | none=>none)
  |.obj c k=>(match Nat.beq c 18 with
   |true=>(match Nat.beq k 0&&Nat.beq j 0 with | true=>(match foot r 2 with | some q=>some (.obj 18 0::q.1,0::1::q.2) | none=>none) | false=>none)
   |false=>(match foot r (j+1) with | some q=>some (.obj c j::q.1,k::q.2) | none=>none))
  |.tup _=>none)
noncomputable def gets(h:Ht):List Nat->Option Ht
 |[]=>some []
 |k::ks=>(match h[k]? with | some c=>(match gets h ks with | some r=>some (c::r) | none=>none) | none=>none)
noncomputable def puts(h:Ht):List Nat->Ht->Ht
 |[],_=>h
 |k::ks,cs=>(match cs with | []=>h | c::cs=>puts (h.set k c) ks cs)
noncomputable def ndB:List Nat->Bool
 |[]=>true
 |k::ks=>(match ks.all λj=> !Nat.beq j k with | true=>ndB ks | false=>false)
noncomputable def rfB(t:Nat->Bool):V->Bool
 |.p _=>true
 |.ref j=>t j
 |.obj _ j=>t j
 |.tup _=>false
noncomputable def clB(t:Nat->Bool)(c:Cl):Bool:=match c with
 |.lst _=>true
 |.lstR _=>false
 |.dct _ xs=>xs.all (rfB t)
noncomputable def sameK(ks:List Nat)(j:Nat):Bool:=match ks[j]? with | some k=>Nat.beq k j | none=>false
noncomputable def A2s(ks:List Nat)(c:Cl):Bool:=clB (sameK ks) c
noncomputable def B0f(w:Option V):Option V:=match w with
 |some v=>(match v with | .p a=>some (.p a) | .ref _=>none | .obj _ _=>none | .tup _=>none)
 |none=>none
noncomputable def backR(h:Ht)(ks:List Nat)(v:V)(cs:Ht):Rs V:=match v with
 |.p a=>.ok (.p a) (puts h ks cs)
 |.ref _=>(match ks with | []=>(match cs with | []=>.bad | c::r=>(match r with | []=>.ok (.ref h.length) (h++[c]) | _::_=>.bad)) | _::_=>.bad)
 |.obj _ _=>.bad
 |.tup _=>.bad
noncomputable def A3e(h:Ht)(ks:List Nat)(r:Rs V):Rs V:=match r with
 |.ok v cs=>(match cs.all (A2s ks) with | true=>backR h ks v cs | false=>.bad)
 |.exc p=>.exc p
 |.bad=>.bad
noncomputable def A2v(o:Ob)(f:Nat)(vs:List V)(h:Ht):Rs V:=match foot vs 0 with
 |some q=>(match gets h q.2 with
  |some cs=>(match ndB q.2&&cs.all (A2s q.2) with | true=>A3e h q.2 (o f q.1 cs) | false=>.bad)
  |none=>.bad)
 |none=>.bad
noncomputable def noneV(v:V):Bool:=match v with | .p a=>isNone a | .ref _=>false | .obj _ _=>false | .tup _=>false
noncomputable def oneC(cs:Ht)(f:Cl->Rs V):Rs V:=match cs with | []=>.bad | x::r=>(match r with | []=>f x | _::_=>.bad)
noncomputable def A6l(c:Nat)(h:Ht)(r:Rs V):Rs V:=match r with
 |.ok v cs=>(match noneV v with
  |true=>(match Nat.beq c 18 with
   |true=>(match h with | []=>.ok (.obj 18 0) cs | _::_=>.bad)
   |false=>(match Nat.beq c 3 with
    |true=>oneC cs λx=>(match A2s [] x with | true=>.ok (.obj 3 h.length) (h++[x]) | false=>.bad)
    |false=>oneC cs λx=>(match x with | .dct ns xs=>(match allP xs with | some ps=>.ok (.p (.inst c ns ps)) h | none=>.bad) | .lst _=>.bad | .lstR _=>.bad)))
  |false=>.bad)
 |.exc _=>.bad
 |.bad=>.bad
noncomputable def newX(o:Ob)(c:Nat)(vs:List V)(h:Ht):Rs V:=match usable c with
 |true=>(match A5e c with
  |some f=>(match allP vs with | some ps=>A6l c h (o f (.obj c 0::ps.map V.p) [.dct [] []]) | none=>.bad)
  |none=>(match vs with | []=>.ok (.p (.inst c [] [])) h | _::_=>.bad))
 |false=>.bad
noncomputable def mfn(v:V)(m:Nat)(h:Ht):Option Nat:=match v with
 |.p a=>(match a with | .inst c ns _=>(match ns.contains m with | false=>A5c c m | true=>none) | _=>none)
 |.obj c k=>(match h[k]? with | some d=>(match d with | .dct ns _=>(match ns.contains m with | false=>A5c c m | true=>none) | .lst _=>none | .lstR _=>none) | none=>none)
 |.ref _=>none
 |.tup _=>none
noncomputable def mokB(v:V)(m:Nat)(h:Ht):Bool:=match v with
 |.p a=>(match a with | .str _=> [11,40,51,53].contains m | .dict _ _=>Nat.beq m 15 | _=>false)
 |.ref k=>(match [13,52,25].contains m with | true=>(match h[k]? with | some d=>(match d with | .lst _=>true | .lstR _=>true | .dct _ _=>false) | none=>false) | false=>false)
 |.obj _ _=>false
 |.tup _=>false
noncomputable def A9f(v:V)(m:Nat)(vs:List V)(h:Ht):O:=match v with
 |.p a=>(match a with
  |.str s=>strO s vs h m
  |.dict ks xs=>(match Nat.beq m 15 with | true=>o1 vs λk=>oS k λs=>pvO ((dlk ks xs s).getD .none) h | false=>.bad)
  |_=>.bad)
 |.ref k=>refO k vs h m
 |.obj _ _=>.bad
 |.tup _=>.bad
noncomputable def A1r(m:Nat):Bool:=[11,40,51,53,13,52,25,15].contains m
noncomputable def onB{α:Type}(o:Option Bool)(t f:Rs α):Rs α:=match o with | some b=>(match b with | true=>t | false=>f) | none=>.bad
noncomputable def Rs.must{α β:Type}(r:Rs α)(f:α->Ht->Rs β):Rs β:=match r with
 |.ok a h=>f a h
 |.exc _=>.bad
 |.bad=>.bad
noncomputable def atP{α:Type}(y:V)(f:AVal->Rs α):Rs α:=match y with | .p a=>f a | .ref _=>.bad | .obj _ _=>.bad | .tup _=>.bad
open Classical in
noncomputable def coR(fe fc:AVal->Ht->Rs V)(chk:Ht->Prop):List AVal->List AVal->Ht->Rs V
 |[],acc,h=>if chk h then .ok (.p (.lst acc)) h else .bad
 |x::xs,acc,h=>if chk h then(fc x h).must λt h1=>onB (truV h1 t) ((fe x h1).must λy h2=>atP y λa=>coR fe fc chk xs (acc++[a]) h2) (coR fe fc chk xs acc h1) else .bad
noncomputable def items{α:Type}(o:Option (List AVal))(f:List AVal->Rs α):Rs α:=match o with | some xs=>f xs | none=>.bad
mutual
noncomputable def runX(o oi:Ob):Ex->Lo->Ht->Rs V
 |.lit v,_,h=>.ok (.p v) h
 |.loc i,ρ,h=>(match ρ[i]? with | some w=>(match w with | some v=>.ok v h | none=>.bad) | none=>.bad)
 |.glob g,_,h=>.ok (.p (gval g)) h
 |.attr e a,ρ,h=>(runX o oi e ρ h).bind λv h1=>(getO v a h1).run
 |.tup es,ρ,h=>(A1l o oi es ρ h).bind λvs h1=>(match allP vs with | some ps=>.ok (.p (.tup ps)) h1 | none=>.ok (.tup vs) h1)
 |.flist es,ρ,h=>(A1l o oi es ρ h).bind λvs h1=>(match allP vs with | some ps=>.ok (.p (.lst ps)) h1 | none=>.bad)
 |.mlist es,ρ,h=>(A1l o oi es ρ h).bind λvs h1=>(match allP vs with | some ps=>.ok (.ref h1.length) (h1++[.lst ps]) | none=>.bad)
 |.dict ks es,ρ,h=>(A1l o oi es ρ h).bind λvs h1=>(match allP vs with | some ps=>.ok (.p (.dict ks ps)) h1 | none=>.bad)
 |.call f es,ρ,h=>(A1l o oi es ρ h).bind λvs h1=>A2v o f vs h1
 |.new c es,ρ,h=>(A1l o oi es ρ h).bind λvs h1=>newX oi c vs h1
 |.meth e m es,ρ,h=>(runX o oi e ρ h).bind λv h1=>(match A1r m with
  |true=>(match mokB v m h1 with | true=>(A1l o oi es ρ h1).bind λvs h2=>(A9f v m vs h2).run | false=>.bad)
  |false=>(match mfn v m h1 with | some f=>(A1l o oi es ρ h1).bind λvs h2=>A2v o f (v::vs) h2 | none=>.bad))
 |.bi b es,ρ,h=>(A1l o oi es ρ h).bind λvs h1=>(biO b vs h1).run
 |.bin p a b,ρ,h=>(runX o oi a ρ h).bind λx h1=>(runX o oi b ρ h1).bind λy h2=>(binO p x y h2).run
 |.cmp p a b,ρ,h=>(runX o oi a ρ h).bind λx h1=>(runX o oi b ρ h1).bind λy h2=>(cmpO p x y h2).run
 |.cmp2 p q a b c,ρ,h=>(runX o oi a ρ h).bind λx h1=>(runX o oi b ρ h1).bind λy h2=>((cmpO p x y h2).run).bind λt h3=>onB (truV h3 t) ((runX o oi c ρ h3).bind λz h4=>(cmpO q y z h4).run) (.ok t h3)
 |.not a,ρ,h=>(runX o oi a ρ h).bind λv h1=>(match truV h1 v with | some b=>.ok (.p (.bool !b)) h1 | none=>.bad)
 |.and es,ρ,h=>runA o oi es ρ h
 |.or es,ρ,h=>runO o oi es ρ h
 |.ite c a b,ρ,h=>(runX o oi c ρ h).bind λv h1=>onB (truV h1 v) (runX o oi a ρ h1) (runX o oi b ρ h1)
 |.neg a,ρ,h=>(runX o oi a ρ h).bind λv h1=>(oI v λi=>pvO (.int (-i)) h1).run
 |.sub e i,ρ,h=>(runX o oi e ρ h).bind λv h1=>(runX o oi i ρ h1).bind λj h2=>(subO v j h2).run
 |.slice e l u,ρ,h=>(runX o oi e ρ h).bind λv h1=>(runX o oi l ρ h1).bind λlo h2=>(runX o oi u ρ h2).bind λhi h3=>(B1l v lo hi h3).run
 |.comp e it c,ρ,h=>(runX o oi it ρ h).bind λv h1=>items (A0z h1 v) λxs=>(match Nat.ble xs.length big with
  |true=>coR (λx h2=>runX o oi e (ρ++[some (.p x)]) h2) (λx h2=>runX o oi c (ρ++[some (.p x)]) h2) (A2l v xs) xs [] h1
  |false=>.bad)
noncomputable def A1l(o oi:Ob):List Ex->Lo->Ht->Rs (List V)
 |[],_,h=>.ok [] h
 |e::es,ρ,h=>(runX o oi e ρ h).bind λv h1=>(A1l o oi es ρ h1).bind λvs h2=>.ok (v::vs) h2
noncomputable def runA(o oi:Ob):List Ex->Lo->Ht->Rs V
 |[],_,_=>.bad
 |e::es,ρ,h=>(match es with
  |[]=>runX o oi e ρ h
  |_::_=>(runX o oi e ρ h).bind λv h1=>onB (truV h1 v) (runA o oi es ρ h1) (.ok v h1))
noncomputable def runO(o oi:Ob):List Ex->Lo->Ht->Rs V
 |[],_,_=>.bad
 |e::es,ρ,h=>(match es with
  |[]=>runX o oi e ρ h
  |_::_=>(runX o oi e ρ h).bind λv h1=>onB (truV h1 v) (.ok v h1) (runO o oi es ρ h1))
end
noncomputable def Rs.st{α:Type}(r:Rs α)(ρ:Lo)(f:α->Ht->Ro):Ro:=match r with
 |.ok a h=>f a h
 |.exc p=>.exc ρ p
 |.bad=>.bad
noncomputable def Ro.sq(r:Ro)(f:Lo->Ht->Ro):Ro:=match r with
 |.next ρ h=>f ρ h
 |.cont ρ h=>.cont ρ h
 |.ret v h=>.ret v h
 |.exc ρ p=>.exc ρ p
 |.bad=>.bad
noncomputable def Ro.turn(r:Ro)(f:Lo->Ht->Ro):Ro:=match r with
 |.next ρ h=>f ρ h
 |.cont ρ h=>f ρ h
 |.ret v h=>.ret v h
 |.exc ρ p=>.exc ρ p
 |.bad=>.bad
noncomputable def ifB(o:Option Bool)(t f:Ro):Ro:=match o with | some b=>(match b with | true=>t | false=>f) | none=>.bad
noncomputable def O.rb(o:O):Rs V:=o.run
noncomputable def setL:Lo->List Nat->List V->Lo
 |ρ,[],_=>ρ
 |ρ,i::is,vs=>(match vs with | []=>ρ | v::vs=>setL (ρ.set i (some v)) is vs)
noncomputable def A7h(v:V):Option (List V):=match v with
 |.p a=>(match a with | .tup xs=>some (xs.map V.p) | _=>none)
 |.tup xs=>some xs
 |.ref _=>none
 |.obj _ _=>none
noncomputable def asgO(v:V)(is:List Nat)(ρ:Lo)(h:Ht):Ro:=match A7h v with
 |some vs=>(match Nat.beq vs.length is.length with | true=>.next (setL ρ is vs) h | false=>.bad)
 |none=>.bad
noncomputable def setO(w:V)(a:Nat)(v:V)(h:Ht):Option Ht:=match w with
 |.obj c k=>(match h[k]? with
  |some d=>(match d with
   |.dct ns xs=>(match(A0r c).contains a&&Nat.ble ns.length 10 with | true=>some (h.set k (.dct (putN ns a) (putV ns xs a v))) | false=>none)
   |.lst _=>none
   |.lstR _=>none)
  |none=>none)
 |.p _=>none
 |.ref _=>none
 |.tup _=>none
noncomputable def putI(w j v:V)(h:Ht):Option (Option Nat×List AVal×Nat×AVal):=match w with
 |.ref k=>(match j with
  |.p b=>(match b with
   |.int j=>(match v with
    |.p a=>(match h[k]? with | some c=>(match c with | .lst xs=>some (ix xs.length j,xs,k,a) | .lstR _=>none | .dct _ _=>none) | none=>none)
    |.ref _=>none | .obj _ _=>none | .tup _=>none)
   |_=>none)
  |.ref _=>none | .obj _ _=>none | .tup _=>none)
 |.p _=>none
 |.obj _ _=>none
 |.tup _=>none
noncomputable def setiO(w j v:V)(ρ:Lo)(h:Ht):Ro:=match putI w j v h with
 |some q=>(match q.1 with | some i=>.next ρ (h.set q.2.2.1 (.lst (q.2.1.set i q.2.2.2))) | none=>.bad)
 |none=>.bad
noncomputable def nextO(o:Option Ht)(ρ:Lo):Ro:=match o with | some h=>.next ρ h | none=>.bad
noncomputable def B8i(w v:V)(h:Ht):Option (List Nat×Int):=match w with
 |.obj c k=>(match Nat.beq c 18 with
  |true=>(match h[k]? with
   |some d=>(match d with
    |.dct ns xs=>(match lk ns xs 29 with
     |some u=>(match u with
      |.obj c2 k2=>(match Nat.beq c2 3 with
       |true=>(match h[k2]? with
        |some d2=>(match d2 with
         |.dct ms ys=>(match lk ms ys 3 with
          |some z=>(match z with
           |.p a=>(match a with
            |.str t=>(match v with | .p b=>(match b with | .int i=>some (t,i) | _=>none) | .ref _=>none | .obj _ _=>none | .tup _=>none)
            |_=>none)
           |.ref _=>none | .obj _ _=>none | .tup _=>none)
          |none=>none)
         |.lst _=>none | .lstR _=>none)
        |none=>none)
       |false=>none)
      |.p _=>none | .ref _=>none | .tup _=>none)
     |none=>none)
    |.lst _=>none | .lstR _=>none)
   |none=>none)
  |false=>none)
 |.p _=>none
 |.ref _=>none
 |.tup _=>none
noncomputable def canF(w:V)(h:Ht):Bool:=match w with
 |.obj c k=>(match Nat.beq c 18 with | true=>(match h[k]? with | some d=>(match d with | .dct _ _=>true | .lst _=>false | .lstR _=>false) | none=>false) | false=>false)
 |.p _=>false
 |.ref _=>false
 |.tup _=>false
noncomputable def canO(w:V)(h:Ht)(r:Ro):Ro:=match canF w h with | true=>r | false=>.bad
noncomputable def isSV(v:V):Bool:=match v with | .p a=>isStrV a | .ref _=>false | .obj _ _=>false | .tup _=>false
noncomputable def A6v(n:Nat)(w m v:V)(ρ:Lo)(h:Ht):Ro:=match isSV m with
 |true=>(match B8i w v h with
  |some q=>(match Nat.ble 4 n&&Nat.ble (q.1.length+1) big with | true=>.exc ρ (posV q.1 q.2) | false=>.bad)
  |none=>.bad)
 |false=>.bad
noncomputable def whF(c:Lo->Ht->Rs Bool)(b:Lo->Ht->Ro):Nat->Lo->Ht->Ro
 |0,_,_=>.bad
 |n+1,ρ,h=>(c ρ h).st ρ λt h1=>match t with
  |true=>(b ρ h1).turn fun ρ' h2=>whF c b n ρ' h2
  |false=>.next ρ h1
open Classical in
noncomputable def whR(c:Lo->Ht->Rs Bool)(b:Lo->Ht->Ro)(ρ:Lo)(h:Ht):Ro:=
 if q:∃n,whF c b n ρ h≠ .bad then whF c b (choose q) ρ h else .bad
open Classical in
noncomputable def loR(fb:AVal->Lo->Ht->Ro)(chk:Ht->Prop):List AVal->Lo->Ht->Ro
 |[],ρ,h=>if chk h then .next ρ h else .bad
 |x::xs,ρ,h=>if chk h then(fb x ρ h).turn fun ρ' h'=>loR fb chk xs ρ' h' else .bad
noncomputable def truR(v:V)(h:Ht):Rs Bool:=match truV h v with | some b=>.ok b h | none=>.bad
noncomputable def B2i(o:Option (List AVal))(f:List AVal->Ro):Ro:=match o with | some xs=>f xs | none=>.bad
noncomputable def head1(is:List Nat)(f:Nat->Ro):Ro:=match is with | []=>.bad | i::r=>(match r with | []=>f i | _::_=>.bad)
mutual
noncomputable def runS(n:Nat)(o oi:Ob):Cm->Lo->Ht->Ro
 |.asg i e,ρ,h=>(runX o oi e ρ h).st ρ λv h1=>.next (ρ.set i (some v)) h1
 |.asgT is e,ρ,h=>(runX o oi e ρ h).st ρ λv h1=>asgO v is ρ h1
 |.seta q a e,ρ,h=>(runX o oi e ρ h).st ρ λv h1=>(runX o oi q ρ h1).st ρ λw h2=>nextO (setO w a v h2) ρ
 |.seti q i e,ρ,h=>(runX o oi e ρ h).st ρ λv h1=>(runX o oi q ρ h1).st ρ λw h2=>(runX o oi i ρ h2).st ρ λj h3=>setiO w j v ρ h3
 |.ex e,ρ,h=>(runX o oi e ρ h).st ρ λ_ h1=>.next ρ h1
 |.ret e,ρ,h=>(runX o oi e ρ h).st ρ λv h1=>.ret v h1
 |.ite c t f,ρ,h=>(runX o oi c ρ h).st ρ λv h1=>ifB (truV h1 v) (runL n o oi t ρ h1) (runL n o oi f ρ h1)
 |.whl c b,ρ,h=>whR (fun ρ h=>(runX o oi c ρ h).bind truR) (fun ρ h=>runL n o oi b ρ h) ρ h
 |.loop is u it b,ρ,h=>(runX o oi it ρ h).st ρ λv h1=>B2i (A0z h1 v) λxs=>loR (λx ρ' h2=>match u with
  |false=>head1 is λi=>runL n o oi b (ρ'.set i (some (.p x))) h2
  |true=>(asgO (.p x) is ρ' h2).sq fun ρ2 h3=>runL n o oi b ρ2 h3) (A2l v xs) xs ρ h1
 |.raise q e a,ρ,h=>(runX o oi q ρ h).st ρ λw h1=>canO w h1 <| (runX o oi e ρ h1).st ρ λm h2=>(runX o oi a ρ h2).st ρ λv h3=>A6v n w m v ρ h3
 |.abort,_,_=>.bad
 |.cont,ρ,h=>.cont ρ h
 |.tryAt b x y,ρ,h=>(match h with
  |[]=>(match runL n o oi b ρ [] with
   |.exc ρ' p=>.next (((ρ'.map B0f).set x none).set y (some (.p p))) []
   |.next ρ' h'=>.next ρ' h'
   |.cont ρ' h'=>.cont ρ' h'
   |.ret v h'=>.ret v h'
   |.bad=>.bad)
  |_::_=>.bad)
noncomputable def runL(n:Nat)(o oi:Ob):List Cm->Lo->Ht->Ro
 |[],ρ,h=>.next ρ h
 |c::r,ρ,h=>(runS n o oi c ρ h).sq fun ρ' h1=>runL n o oi r ρ' h1
end
noncomputable def cloC(m:Nat)(c:Cl):Bool:=clB (λk=>Nat.ble (k+1) m) c
noncomputable def finC(m:Nat)(v:V)(h:Ht):Rs V:=match(h.take m).all (cloC m) with | true=>.ok v (h.take m) | false=>.bad
noncomputable def finH(f m:Nat)(v:V)(h:Ht):Rs V:=match Nat.beq f 39 with
 |true=>.ok v h
 |false=>finC m v h
noncomputable def finR(f m k:Nat)(h:Ht):Rs V:=match Nat.beq f 63 with
 |true=>(match m with | 0=>(match h with | []=>.bad | c::r=>(match r with | []=>(match cloC 0 c with | true=>.ok (.ref 0) [c] | false=>.bad) | _::_=>.bad)) | _+1=>.bad)
 |false=>(match h[k]? with | some c=>(match c with | .lst xs=>(match Nat.ble m k with | true=>finC m (.p (.lst xs)) h | false=>.bad) | .lstR _=>.bad | .dct _ _=>.bad) | none=>.bad)
noncomputable def fin(f m:Nat)(r:Ro):Rs V:=match r with
 |.next _ h=>finH f m (.p .none) h
 |.ret v h=>(match v with | .p a=>finH f m (.p a) h | .ref k=>finR f m k h | .obj _ _=>.bad | .tup _=>.bad)
 |.exc _ p=>.exc p
 |.cont _ _=>.bad
 |.bad=>.bad
noncomputable def arity(f k:Nat):Bool:=Nat.ble (f+1) 83&& (Nat.ble (npT.getD f 0- (dvT f).length) k&&Nat.ble k (npT.getD f 0))
noncomputable def A1v(f:Nat)(vs:List V):Lo:=(vs++((dvT f).drop (vs.length- (npT.getD f 0- (dvT f).length))).map V.p).map some++List.replicate (nlT.getD f 0- (vs++((dvT f).drop (vs.length- (npT.getD f 0- (dvT f).length))).map V.p).length) none
noncomputable def A0b:Nat->Ob×Ob
 |0=>(λ_ _ _=>.bad,λ_ _ _=>.bad)
 |n+1=>(λf vs h=>match arity f vs.length with | true=>fin f h.length (runL n (A0b n).1 (A0b n).2 (bodies.getD f []) (A1v f vs) h) | false=>.bad,(A0b n).1)
noncomputable def cR(n:Nat):Ob:=(A0b n).1
noncomputable def O.vc(o:O)(k:Rs V->Prop):Prop:=match o with
 |.v x h=>k (.ok x h)
 |.g b x h=>b=true->k (.ok x h)
 |.on o f h=>∀n,o=some n->k (.ok (.p (f n)) h)
 |.oa o h=>∀n,o=some n->k (.ok (.p n) h)
 |.ov o h=>∀n,o=some n->k (.ok n h)
 |.jn o h=>∀ss,o=some ss->jnB ss=true->∀u,ss.flatten=u->k (.ok (.p (.str u)) h)
 |.so o h=>∀ps,o=some ps->k (.ok (.p (.lst ((A6n ps).map A4q))) h)
 |.bad=>True
noncomputable def askB(o:Option Bool)(t f:Prop):Prop:=match o with
 |some b=>∀x,b=x->(match x with | true=>t | false=>f)
 |none=>True
noncomputable def reB(v:V)(x:Bool):V:=match v with | .p a=>(match a with | .bool _=>.p (.bool x) | a=>.p a) | .ref k=>.ref k | .obj c k=>.obj c k | .tup xs=>.tup xs
theorem B6g{h:Ht}{v:V}{x:Bool}(e:truV h v=some x):reB v x=v:=by
 cases v with
 |p a=>cases a with
  |bool b=>cases e;rfl
  |_=>rfl
 |_=>rfl
noncomputable def onR{α β:Type}(r:Rs α)(k:Rs β->Prop)(f:α->Ht->Prop):Prop:=match r with
 |.ok a h=>f a h
 |.exc p=>k (.exc p)
 |.bad=>True
noncomputable def callV(o:Ob)(f:Nat)(vs:List V)(h:Ht)(k:Rs V->Prop):Prop:=match foot vs 0 with
 |some q=>(match gets h q.2 with
  |some cs=>(match ndB q.2&&cs.all (A2s q.2) with | true=>∀r,o f q.1 cs=r->k (A3e h q.2 r) | false=>True)
  |none=>True)
 |none=>True
noncomputable def newV(o:Ob)(c:Nat)(vs:List V)(h:Ht)(k:Rs V->Prop):Prop:=match usable c with
 |true=>(match A5e c with
  |some f=>(match allP vs with | some ps=>∀r,o f (.obj c 0::ps.map V.p) [.dct [] []]=r->k (A6l c h r) | none=>True)
  |none=>k (newX o c vs h))
 |false=>True
noncomputable def mfnV(v:V)(m:Nat)(h:Ht)(k:Nat->Prop):Prop:=match v with
 |.p a=>∀f,mfn (.p a) m h=some f->k f
 |.obj c j=>(match mfn (.obj c j) m h with | some f=>k f | none=>True)
 |.ref _=>True
 |.tup _=>True
noncomputable def biK(b:Bi)(k:Rs V->Prop)(r:Rs V):Prop:=match b with | .min=>∀r',r=r'->k r' | .max=>∀r',r=r'->k r' | _=>k r
theorem biK_ok{b:Bi}{k:Rs V->Prop}{r:Rs V}(q:k r):biK b k r:=by cases b <;> first | exact q | exact λr' e=>e▸q
noncomputable def meK(m:Nat)(k:Rs V->Prop)(r:Rs V):Prop:=match Nat.beq m 15 with | true=>∀r',r=r'->k r' | false=>k r
theorem meK_ok{m:Nat}{k:Rs V->Prop}{r:Rs V}(q:k r):meK m k r:=by
 unfold meK
 cases Nat.beq m 15 with
 |true=>exact λr' e=>e▸q
 |false=>exact q
noncomputable def B0t(o oi:Ob)(e c:Ex)(v:V)(xs:List AVal)(ρ:Lo)(h:Ht):Rs V:=coR (λx h2=>runX o oi e (ρ++[some (.p x)]) h2) (λx h2=>runX o oi c (ρ++[some (.p x)]) h2) (A2l v xs) xs [] h
mutual
noncomputable def vX(o oi:Ob):Ex->Lo->Ht->(Rs V->Prop)->Prop
 |.lit v,_,h,k=>k (.ok (.p v) h)
 |.loc i,ρ,h,k=>k (match ρ[i]? with | some w=>(match w with | some v=>.ok v h | none=>.bad) | none=>.bad)
 |.glob g,_,h,k=>k (.ok (.p (gval g)) h)
 |.attr e a,ρ,h,k=>vX o oi e ρ h λr=>onR r k λv h1=>(getO v a h1).vc k
 |.tup es,ρ,h,k=>vXs o oi es ρ h λr=>onR r k λvs h1=>k (match allP vs with | some ps=>.ok (.p (.tup ps)) h1 | none=>.ok (.tup vs) h1)
 |.flist es,ρ,h,k=>vXs o oi es ρ h λr=>onR r k λvs h1=>k (match allP vs with | some ps=>.ok (.p (.lst ps)) h1 | none=>.bad)
 |.mlist es,ρ,h,k=>vXs o oi es ρ h λr=>onR r k λvs h1=>k (match allP vs with | some ps=>.ok (.ref h1.length) (h1++[.lst ps]) | none=>.bad)
 |.dict ks es,ρ,h,k=>vXs o oi es ρ h λr=>onR r k λvs h1=>k (match allP vs with | some ps=>.ok (.p (.dict ks ps)) h1 | none=>.bad)
 |.call f es,ρ,h,k=>vXs o oi es ρ h λr=>onR r k λvs h1=>callV o f vs h1 k
 |.new c es,ρ,h,k=>vXs o oi es ρ h λr=>onR r k λvs h1=>newV oi c vs h1 k
 |.meth e m es,ρ,h,k=>vX o oi e ρ h λr=>onR r k λv h1=>(match A1r m with
  |true=>(match mokB v m h1 with | true=>vXs o oi es ρ h1 λr=>onR r k λvs h2=>(A9f v m vs h2).vc (meK m k) | false=>True)
  |false=>mfnV v m h1 λf=>vXs o oi es ρ h1 λr=>onR r k λvs h2=>callV o f (v::vs) h2 k)
 |.bi b es,ρ,h,k=>vXs o oi es ρ h λr=>onR r k λvs h1=>(biO b vs h1).vc (biK b k)
 |.bin p a b,ρ,h,k=>vX o oi a ρ h λr=>onR r k λx h1=>vX o oi b ρ h1 λr=>onR r k λy h2=>(binO p x y h2).vc k
 |.cmp p a b,ρ,h,k=>vX o oi a ρ h λr=>onR r k λx h1=>vX o oi b ρ h1 λr=>onR r k λy h2=>(cmpO p x y h2).vc k
 |.cmp2 p q a b c,ρ,h,k=>vX o oi a ρ h λr=>onR r k λx h1=>vX o oi b ρ h1 λr=>onR r k λy h2=>(cmpO p x y h2).vc λr=>onR r k λt h3=>
   askB (truV h3 t) (vX o oi c ρ h3 λr=>onR r k λz h4=>(cmpO q y z h4).vc k) (k (.ok (reB t false) h3))
 |.not a,ρ,h,k=>vX o oi a ρ h λr=>onR r k λv h1=>k (match truV h1 v with | some b=>.ok (.p (.bool !b)) h1 | none=>.bad)
 |.and es,ρ,h,k=>vA o oi es ρ h k
 |.or es,ρ,h,k=>vO o oi es ρ h k
 |.ite c a b,ρ,h,k=>vX o oi c ρ h λr=>onR r k λv h1=>askB (truV h1 v) (vX o oi a ρ h1 k) (vX o oi b ρ h1 k)
 |.neg a,ρ,h,k=>vX o oi a ρ h λr=>onR r k λv h1=>(oI v λi=>pvO (.int (-i)) h1).vc k
 |.sub e i,ρ,h,k=>vX o oi e ρ h λr=>onR r k λv h1=>vX o oi i ρ h1 λr=>onR r k λj h2=>(subO v j h2).vc k
 |.slice e l u,ρ,h,k=>vX o oi e ρ h λr=>onR r k λv h1=>vX o oi l ρ h1 λr=>onR r k λlo h2=>vX o oi u ρ h2 λr=>onR r k λhi h3=>(B1l v lo hi h3).vc λr=>∀r',r=r'->k r'
 |.comp e it c,ρ,h,k=>vX o oi it ρ h λr=>onR r k λv h1=>(match A0z h1 v with
  |some xs=>Nat.ble xs.length big=true->∀r,B0t o oi e c v xs ρ h1=r->k r
  |none=>True)
noncomputable def vXs(o oi:Ob):List Ex->Lo->Ht->(Rs (List V)->Prop)->Prop
 |[],_,h,k=>k (.ok [] h)
 |e::es,ρ,h,k=>vX o oi e ρ h λr=>onR r k λv h1=>vXs o oi es ρ h1 λr=>onR r k λvs h2=>k (.ok (v::vs) h2)
noncomputable def vA(o oi:Ob):List Ex->Lo->Ht->(Rs V->Prop)->Prop
 |[],_,_,_=>True
 |e::es,ρ,h,k=>(match es with
  |[]=>vX o oi e ρ h k
  |_::_=>vX o oi e ρ h λr=>onR r k λv h1=>askB (truV h1 v) (vA o oi es ρ h1 k) (k (.ok (reB v false) h1)))
noncomputable def vO(o oi:Ob):List Ex->Lo->Ht->(Rs V->Prop)->Prop
 |[],_,_,_=>True
 |e::es,ρ,h,k=>(match es with
  |[]=>vX o oi e ρ h k
  |_::_=>vX o oi e ρ h λr=>onR r k λv h1=>askB (truV h1 v) (k (.ok (reB v true) h1)) (vO o oi es ρ h1 k))
end
theorem O.vc_ok{o:O}{k:Rs V->Prop}(q:k o.run):o.vc k:=by
 cases o with
 |v x h=>exact q
 |g b x h=>rintro rfl;exact q
 |on o f h=>rintro n rfl;exact q
 |oa o h=>rintro n rfl;exact q
 |ov o h=>rintro n rfl;exact q
 |jn o h=>
  rintro n rfl e u rfl
  change k (match jnB n with | true=>_ | false=>_) at q
  rw[e] at q;exact q
 |so o h=>rintro n rfl;exact q
 |bad=>trivial
theorem A0h{α β:Type}{r:Rs α}{f:α->Ht->Rs β}{F:α->Ht->Prop}{k:Rs β->Prop}(g:∀a h,k (f a h)->F a h)(q:k (r.bind f)):onR r k F:=by
 cases r with
 |ok a h=>exact g _ _ q
 |exc p=>exact q
 |bad=>trivial
theorem A8g{α:Type}{o:Option Bool}{t f:Rs α}{T F:Prop}{k:Rs α->Prop}(g1:o=some true->k t->T)(g2:o=some false->k f->F)(q:k (onB o t f)):askB o T F:=by
 cases o with
 |none=>trivial
 |some b=>
  rintro x rfl
  cases b with
  |true=>exact g1 rfl q
  |false=>exact g2 rfl q
theorem B2x{o:Ob}{f:Nat}{vs:List V}{h:Ht}{k:Rs V->Prop}(q:k (A2v o f vs h)):callV o f vs h k:=by
 unfold callV
 unfold A2v at q
 split
 ·rename_i u hu
  rw[hu] at q
  dsimp only at q
  split
  ·rename_i cs hc
   rw[hc] at q
   dsimp only at q
   split
   ·rename_i hn
    rw[hn] at q
    rintro r rfl;exact q
   ·trivial
  ·trivial
 ·trivial
theorem newV_ok{o:Ob}{c:Nat}{vs:List V}{h:Ht}{k:Rs V->Prop}(q:k (newX o c vs h)):newV o c vs h k:=by
 unfold newV
 split
 ·rename_i hu
  split
  ·rename_i f hf
   split
   ·rename_i ps hp
    unfold newX at q
    rw[hu,hf,hp] at q
    rintro r rfl;exact q
   ·trivial
  ·exact q
 ·trivial
theorem mfnV_ok{α:Type}{v:V}{m:Nat}{h:Ht}{f:Nat->Rs α}{F:Nat->Prop}{k:Rs α->Prop}(g:∀n,k (f n)->F n)(q:k (match mfn v m h with | some n=>f n | none=>.bad)):mfnV v m h F:=by
 cases v with
 |p a=>intro n e;rw[e] at q;exact g n q
 |obj c j=>
  show match mfn (.obj c j) m h with | some f=>F f | none=>True
  cases e:mfn (.obj c j) m h with
  |none=>trivial
  |some n=>rw[e] at q;exact g n q
 |_=>trivial
mutual
theorem A0s{o oi:Ob}:∀(e:Ex) {ρ:Lo} {h:Ht} {k:Rs V->Prop},k (runX o oi e ρ h)->vX o oi e ρ h k
 |.lit v,_,_,_,q=>q
 |.loc i,_,_,_,q=>q
 |.glob g,_,_,_,q=>q
 |.attr e a,_,_,_,q=>A0s e (A0h (λ_ _=>O.vc_ok) q)
 |.tup es,_,_,_,q=>A3m es (A0h (λ_ _ q=>q) q)
 |.flist es,_,_,_,q=>A3m es (A0h (λ_ _ q=>q) q)
 |.mlist es,_,_,_,q=>A3m es (A0h (λ_ _ q=>q) q)
 |.dict ks es,_,_,_,q=>A3m es (A0h (λ_ _ q=>q) q)
 |.call f es,_,_,_,q=>A3m es (A0h (λ_ _=>B2x) q)
 |.new c es,_,_,_,q=>A3m es (A0h (λ_ _=>newV_ok) q)
 |.meth e m es,_,_,k,q=>A0s e (A0h (λv h1 q=>by
   revert q
   show k (match A1r m with | true=>_ | false=>_)->(match A1r m with | true=>_ | false=>_)
   cases A1r m with
   |true=>
    show k (match mokB v m h1 with | true=>_ | false=>_)->(match mokB v m h1 with | true=>_ | false=>_)
    cases mokB v m h1 with
    |true=>exact λq=>A3m es (A0h (λ_ _ q=>O.vc_ok (meK_ok q)) q)
    |false=>exact λ_=>trivial
   |false=>exact λq=>mfnV_ok (λf q=>A3m es (A0h (λ_ _=>B2x) q)) q) q)
 |.bi b es,_,_,_,q=>A3m es (A0h (λ_ _ q=>O.vc_ok (biK_ok q)) q)
 |.bin p a b,_,_,_,q=>A0s a (A0h (λ_ _ q=>A0s b (A0h (λ_ _=>O.vc_ok) q)) q)
 |.cmp p a b,_,_,_,q=>A0s a (A0h (λ_ _ q=>A0s b (A0h (λ_ _=>O.vc_ok) q)) q)
 |.cmp2 p p' a b c,_,_,_,q=>A0s a (A0h (λ_ _ q=>A0s b (A0h (λ_ _ q=>O.vc_ok (A0h (λ_ _ q=>A8g (λ_ q=>A0s c (A0h (λ_ _=>O.vc_ok) q)) (λe q=>(B6g e).symm▸q) q) q)) q)) q)
 |.not a,_,_,_,q=>A0s a (A0h (λ_ _ q=>q) q)
 |.and es,_,_,_,q=>vA_ok es q
 |.or es,_,_,_,q=>vO_ok es q
 |.ite c a b,_,_,_,q=>A0s c (A0h (λ_ _ q=>A8g (λ_ q=>A0s a q) (λ_ q=>A0s b q) q) q)
 |.neg a,_,_,_,q=>A0s a (A0h (λ_ _=>O.vc_ok) q)
 |.sub e i,_,_,_,q=>A0s e (A0h (λ_ _ q=>A0s i (A0h (λ_ _=>O.vc_ok) q)) q)
 |.slice e l u,_,_,_,q=>A0s e (A0h (λ_ _ q=>A0s l (A0h (λ_ _ q=>A0s u (A0h (λ_ _ q=>O.vc_ok (λr' e=>e▸q)) q)) q)) q)
 |.comp e it c,ρ,_,k,q=>A0s it (A0h (λv h1 q=>by
   revert q
   show k (items (A0z h1 v) λxs=>(match Nat.ble xs.length big with | true=>B0t o oi e c v xs ρ h1 | false=>.bad))->(match A0z h1 v with | some xs=>Nat.ble xs.length big=true->∀r,B0t o oi e c v xs ρ h1=r->k r | none=>True)
   cases A0z h1 v with
   |none=>exact λ_=>trivial
   |some xs=>
    intro q hb r hr
    dsimp only [items] at q
    rw[hb,hr] at q;exact q) q)
theorem A3m{o oi:Ob}:∀(es:List Ex) {ρ:Lo} {h:Ht} {k:Rs (List V)->Prop},k (A1l o oi es ρ h)->vXs o oi es ρ h k
 |[],_,_,_,q=>q
 |e::es,_,_,_,q=>A0s e (A0h (λ_ _ q=>A3m es (A0h (λ_ _ q=>q) q)) q)
theorem vA_ok{o oi:Ob}:∀(es:List Ex) {ρ:Lo} {h:Ht} {k:Rs V->Prop},k (runA o oi es ρ h)->vA o oi es ρ h k
 |[],_,_,_,_=>trivial
 |[e],_,_,_,q=>A0s e q
 |e::e2::es,_,_,_,q=>A0s e (A0h (λ_ _ q=>A8g (λ_ q=>vA_ok (e2::es) q) (λe q=>(B6g e).symm▸q) q) q)
theorem vO_ok{o oi:Ob}:∀(es:List Ex) {ρ:Lo} {h:Ht} {k:Rs V->Prop},k (runO o oi es ρ h)->vO o oi es ρ h k
 |[],_,_,_,_=>trivial
 |[e],_,_,_,q=>A0s e q
 |e::e2::es,_,_,_,q=>A0s e (A0h (λ_ _ q=>A8g (λe q=>(B6g e).symm▸q) (λ_ q=>vO_ok (e2::es) q) q) q)
end
noncomputable def onT{α:Type}(r:Rs α)(ρ:Lo)(k:Ro->Prop)(f:α->Ht->Prop):Prop:=match r with
 |.ok a h=>f a h
 |.exc p=>k (.exc ρ p)
 |.bad=>True
noncomputable def onN(s:Ro)(k:Ro->Prop)(f:Lo->Ht->Prop):Prop:=match s with
 |.next ρ h=>f ρ h
 |.cont ρ h=>k (.cont ρ h)
 |.ret v h=>k (.ret v h)
 |.exc ρ p=>k (.exc ρ p)
 |.bad=>True
noncomputable def B6x(n:Nat)(o oi:Ob)(is:List Nat)(u:Bool)(b:List Cm)(v:V)(xs:List AVal)(ρ:Lo)(h:Ht):Ro:=loR (λx ρ' h2=>match u with
  |false=>head1 is λi=>runL n o oi b (ρ'.set i (some (.p x))) h2
  |true=>(asgO (.p x) is ρ' h2).sq fun ρ2 h3=>runL n o oi b ρ2 h3) (A2l v xs) xs ρ h
noncomputable def canV(w:V)(h:Ht)(p:Prop):Prop:=match canF w h with | true=>p | false=>True
noncomputable def B6j(n:Nat)(w m v:V)(ρ:Lo)(h:Ht)(k:Ro->Prop):Prop:=match isSV m with
 |true=>(match B8i w v h with
  |some q=>(Nat.ble 4 n&&Nat.ble (q.1.length+1) big)=true->k (.exc ρ (posV q.1 q.2))
  |none=>True)
 |false=>True
noncomputable def setiV(w j v:V)(ρ:Lo)(h:Ht)(k:Ro->Prop):Prop:=match putI w j v h with
 |some q=>∀i,q.1=some i->k (.next ρ (h.set q.2.2.1 (.lst (q.2.1.set i q.2.2.2))))
 |none=>True
noncomputable def tryV(x y:Nat)(k:Ro->Prop)(s:Ro):Prop:=match s with
 |.exc ρ' p=>k (.next (((ρ'.map B0f).set x none).set y (some (.p p))) [])
 |.next ρ' h'=>k (.next ρ' h')
 |.cont ρ' h'=>k (.cont ρ' h')
 |.ret v h'=>k (.ret v h')
 |.bad=>True
mutual
noncomputable def vS(n:Nat)(o oi:Ob):Cm->Lo->Ht->(Ro->Prop)->Prop
 |.asg i e,ρ,h,k=>vX o oi e ρ h λr=>k (r.st ρ λv h1=>.next (ρ.set i (some v)) h1)
 |.asgT is e,ρ,h,k=>vX o oi e ρ h λr=>k (r.st ρ λv h1=>asgO v is ρ h1)
 |.seta q a e,ρ,h,k=>vX o oi e ρ h λr=>onT r ρ k λv h1=>vX o oi q ρ h1 λr=>k (r.st ρ λw h2=>nextO (setO w a v h2) ρ)
 |.seti q i e,ρ,h,k=>vX o oi e ρ h λr=>onT r ρ k λv h1=>vX o oi q ρ h1 λr=>onT r ρ k λw h2=>vX o oi i ρ h2 λr=>onT r ρ k λj h3=>setiV w j v ρ h3 k
 |.ex e,ρ,h,k=>vX o oi e ρ h λr=>k (r.st ρ λ_ h1=>.next ρ h1)
 |.ret e,ρ,h,k=>vX o oi e ρ h λr=>k (r.st ρ λv h1=>.ret v h1)
 |.ite c t f,ρ,h,k=>vX o oi c ρ h λr=>onT r ρ k λv h1=>askB (truV h1 v) (vL n o oi t ρ h1 k) (vL n o oi f ρ h1 k)
 |.whl c b,ρ,h,k=>∀s,runS n o oi (.whl c b) ρ h=s->k s
 |.loop is u it b,ρ,h,k=>vX o oi it ρ h λr=>onT r ρ k λv h1=>(match A0z h1 v with | some xs=>∀s,B6x n o oi is u b v xs ρ h1=s->k s | none=>True)
 |.raise q e a,ρ,h,k=>vX o oi q ρ h λr=>onT r ρ k λw h1=>canV w h1 <| vX o oi e ρ h1 λr=>onT r ρ k λm h2=>vX o oi a ρ h2 λr=>onT r ρ k λv h3=>B6j n w m v ρ h3 k
 |.abort,_,_,_=>True
 |.cont,ρ,h,k=>k (.cont ρ h)
 |.tryAt b x y,ρ,h,k=>(match h with | []=>vL n o oi b ρ [] (tryV x y k) | _::_=>True)
noncomputable def vL(n:Nat)(o oi:Ob):List Cm->Lo->Ht->(Ro->Prop)->Prop
 |[],ρ,h,k=>k (.next ρ h)
 |c::r,ρ,h,k=>vS n o oi c ρ h λs=>onN s k fun ρ' h1=>vL n o oi r ρ' h1 k
end
theorem A7l{α:Type}{r:Rs α}{ρ:Lo}{f:α->Ht->Ro}{F:α->Ht->Prop}{k:Ro->Prop}(g:∀a h,k (f a h)->F a h)(q:k (r.st ρ f)):onT r ρ k F:=by
 cases r with
 |ok a h=>exact g _ _ q
 |exc p=>exact q
 |bad=>trivial
theorem sq_ok{s:Ro}{f:Lo->Ht->Ro}{F:Lo->Ht->Prop}{k:Ro->Prop}(g:∀a h,k (f a h)->F a h)(q:k (s.sq f)):onN s k F:=by
 cases s with
 |next a h=>exact g _ _ q
 |bad=>trivial
 |_=>exact q
theorem ifB_ok{o:Option Bool}{t f:Ro}{T F:Prop}{k:Ro->Prop}(g1:k t->T)(g2:k f->F)(q:k (ifB o t f)):askB o T F:=by
 cases o with
 |none=>trivial
 |some b=>
  rintro x rfl
  cases b with
  |true=>exact g1 q
  |false=>exact g2 q
theorem canV_ok{w:V}{h:Ht}{r:Ro}{p:Prop}{k:Ro->Prop}(g:k r->p)(q:k (canO w h r)):canV w h p:=by
 unfold canV
 unfold canO at q
 cases e:canF w h with
 |true=>rw[e] at q;exact g q
 |false=>trivial
theorem B6i{n:Nat}{w m v:V}{ρ:Lo}{h:Ht}{k:Ro->Prop}(q:k (A6v n w m v ρ h)):B6j n w m v ρ h k:=by
 unfold B6j
 unfold A6v at q
 split
 ·rename_i hs
  rw[hs] at q
  dsimp only at q
  split
  ·rename_i u hu
   rw[hu] at q
   intro hb
   dsimp only at q
   rw[hb] at q;exact q
  ·trivial
 ·trivial
theorem setiV_ok{w j v:V}{ρ:Lo}{h:Ht}{k:Ro->Prop}(q:k (setiO w j v ρ h)):setiV w j v ρ h k:=by
 unfold setiV
 unfold setiO at q
 split
 ·rename_i u hu
  rw[hu] at q
  intro i hi
  dsimp only at q
  rw[hi] at q;exact q
 ·trivial
theorem tryV_ok{n:Nat}{o oi:Ob}{b:List Cm}{ρ:Lo}{x y:Nat}{k:Ro->Prop}(q:k (runS n o oi (.tryAt b x y) ρ [])):tryV x y k (runL n o oi b ρ []):=by
 change k (match runL n o oi b ρ [] with | .exc ρ' p=>_ | .next ρ' h'=>_ | .cont ρ' h'=>_ | .ret v h'=>_ | .bad=>_) at q
 cases hq:runL n o oi b ρ [] with
 |bad=>trivial
 |_=>rw[hq] at q;exact q
mutual
theorem vS_ok{n:Nat}{o oi:Ob}:∀(c:Cm) {ρ:Lo} {h:Ht} {k:Ro->Prop},k (runS n o oi c ρ h)->vS n o oi c ρ h k
 |.asg i e,_,_,_,q=>A0s e q
 |.asgT is e,_,_,_,q=>A0s e q
 |.seta p a e,_,_,_,q=>A0s e (A7l (λ_ _ q=>A0s p q) q)
 |.seti p i e,_,_,_,q=>A0s e (A7l (λ_ _ q=>A0s p (A7l (λ_ _ q=>A0s i (A7l (λ_ _=>setiV_ok) q)) q)) q)
 |.ex e,_,_,_,q=>A0s e q
 |.ret e,_,_,_,q=>A0s e q
 |.ite c t f,_,_,_,q=>A0s c (A7l (λ_ _ q=>ifB_ok (λq=>B3h t q) (λq=>B3h f q) q) q)
 |.whl c b,_,_,k,q=>λs e=>by rw[e] at q;exact q
 |.loop is u it b,ρ,_,k,q=>A0s it (A7l (λv h1 q=>by
   revert q
   show k (B2i (A0z h1 v) λxs=>B6x n o oi is u b v xs ρ h1)->(match A0z h1 v with | some xs=>∀s,B6x n o oi is u b v xs ρ h1=s->k s | none=>True)
   cases A0z h1 v with
   |none=>exact λ_=>trivial
   |some xs=>intro q s e;rw[←e];exact q) q)
 |.raise p e a,_,_,_,q=>A0s p (A7l (λ_ _ q=>canV_ok (λq=>A0s e (A7l (λ_ _ q=>A0s a (A7l (λ_ _=>B6i) q)) q)) q) q)
 |.abort,_,_,_,_=>trivial
 |.cont,_,_,_,q=>q
 |.tryAt b x y,_,[],_,q=>B3h b (tryV_ok q)
 |.tryAt b x y,_,_::_,_,q=>trivial
theorem B3h{n:Nat}{o oi:Ob}:∀(b:List Cm) {ρ:Lo} {h:Ht} {k:Ro->Prop},k (runL n o oi b ρ h)->vL n o oi b ρ h k
 |[],_,_,_,q=>q
 |c::r,_,_,_,q=>vS_ok c (sq_ok (λ_ _ q=>B3h r q) q)
end
noncomputable def cV(n f:Nat)(vs:List V)(h:Ht):Prop:=vL n (cR n) (A0b n).2 (bodies.getD f []) (A1v f vs) h λs=>cR (n+1) f vs h=fin f h.length s
theorem cV_ok{n f:Nat}{vs:List V}{h:Ht}(ha:arity f vs.length=true):cV n f vs h:=by
 refine B3h _ ?_
 show(match arity f vs.length with | true=>fin f h.length _ | false=>Rs.bad)=_
 rw[ha];rfl
theorem A5m{n:Nat}{o oi:Ob}:∀(a b:List Cm) (ρ:Lo) (h:Ht),runL n o oi (a++b) ρ h=(runL n o oi a ρ h).sq fun ρ' h'=>runL n o oi b ρ' h':=by
 intro a
 induction a with
 |nil=>exact λ_ _ _=>rfl
 |cons c a ih=>
  intro b ρ h
  show(runS n o oi c ρ h).sq (fun ρ' h1=>runL n o oi (a++b) ρ' h1)=((runS n o oi c ρ h).sq fun ρ' h1=>runL n o oi a ρ' h1).sq fun ρ' h'=>runL n o oi b ρ' h'
  cases runS n o oi c ρ h with
  |next ρ1 h1=>exact ih b ρ1 h1
  |_=>rfl
theorem lcat{n:Nat}{o oi:Ob}{a b:List Cm}{ρ ρ':Lo}{h h':Ht}{r:Ro}(e1:runL n o oi a ρ h=.next ρ' h')(e2:runL n o oi b ρ' h'=r):runL n o oi (a++b) ρ h=r:=by
 rw[A5m,e1];exact e2
theorem ck2{n f:Nat}{vs:List V}{h h':Ht}{a b:List Cm}{ρ':Lo}{s:Ro}{r:Rs V}(hb:bodies.getD f []=a++b)(e1:runL n (cR n) (A0b n).2 a (A1v f vs) h=.next ρ' h')(e2:runL n (cR n) (A0b n).2 b ρ' h'=s)(hr:fin f h.length s=r)(ha:arity f vs.length=true:=by rfl):cR (n+1) f vs h=r:=by
 show(match arity f vs.length with | true=>fin f h.length (runL n (cR n) (A0b n).2 (bodies.getD f []) (A1v f vs) h) | false=>Rs.bad)=r
 rw[ha,hb,A5m,e1]
 show fin f h.length (runL n (cR n) (A0b n).2 b ρ' h')=r
 rw[e2];exact hr
theorem ck{n f:Nat}{vs:List V}{h:Ht}{r:Rs V}(q:cV n f vs h->cR (n+1) f vs h=r)(ha:arity f vs.length=true:=by rfl):cR (n+1) f vs h=r:=q (cV_ok ha)
abbrev pi(i:Nat):V:=.p (.int (Int.ofNat i))
abbrev ps(s:List Nat):V:=.p (.str s)
abbrev pb(b:Bool):V:=.p (.bool b)
abbrev curV(t:List Nat)(i:Nat):Cl:=.dct [3,4] [ps t,pi i]
theorem A1k{a b:Nat}(h:¬a<=b):Nat.ble a b=false:=(A6j _ _).trans (decide_eq_false h)
theorem A0k{a b:Nat}(h:a<=b):Nat.ble a b=true:=(A6j _ _).trans (A8 h)
abbrev At(t:List Nat)(i:Nat)(s:List Nat):Prop:=t.drop i=s
structure A0(t:List Nat)(i:Nat):Prop where
 h:Nat.ble (i+1) t.length=false
 g:Nat.ble t.length i=true
 e:t[i]?=none
structure A1(t:List Nat)(i c:Nat)(s:List Nat):Prop where
 h:Nat.ble (i+1) t.length=true
 g:Nat.ble t.length i=false
 e:t[i]?=some c
 n:At t (i+1) s
section
variable{t s:List Nat}{i:Nat}
theorem At.add(h:At t i s)(k:Nat):At t (i+k) (s.drop k):=by rw[At,←List.drop_drop,h]
theorem At.len(h:At t i s):s.length=t.length-i:=by rw[←h,List.length_drop]
theorem At.c0(h:At t i []):A0 t i:=by
 have q:t.length<=i:=Cz.mp h.len.symm
 exact⟨A1k (B9 (Bz q)),A0k q,List.getElem?_eq_none q⟩
theorem At.c1{c:Nat}(h:At t i (c::s)):A1 t i c s:=by
 have q:i<t.length:=Nat.lt_of_sub_pos (h.len▸Ar _)
 have e:=(List.drop_eq_getElem_cons q).symm.trans h
 exact⟨A0k q,A1k (B9 q),(B4 q).trans (congrArg some (List.cons.inj e).1),(List.cons.inj e).2⟩
theorem At.cut(h:At t i s)(k:Nat):cut i (i+k) t=s.take k:=by
 unfold Mine.cut
 rw[List.drop_take,h,Cv]
end
inductive Wh(c:Lo->Ht->Rs Bool)(b:Lo->Ht->Ro)(ρ:Lo)(h:Ht)(r:Ro):Prop
 |mk (n:Nat) (e:whF c b n ρ h=r)
section
variable{c:Lo->Ht->Rs Bool}{b:Lo->Ht->Ro}{ρ ρ':Lo}{h h1 h2:Ht}{r:Ro}
theorem whF_up:∀(n:Nat) (ρ:Lo) (h:Ht),whF c b n ρ h≠ .bad->whF c b (n+1) ρ h=whF c b n ρ h:=by
 intro n
 induction n with
 |zero=>exact λ_ _ q=>absurd rfl q
 |succ n ih=>
  intro ρ h
  show((c ρ h).st ρ λt h1=>match t with | true=>(b ρ h1).turn fun ρ' h2=>whF c b n ρ' h2 | false=>.next ρ h1)≠ .bad->((c ρ h).st ρ λt h1=>match t with | true=>(b ρ h1).turn fun ρ' h2=>whF c b (n+1) ρ' h2 | false=>.next ρ h1)=((c ρ h).st ρ λt h1=>match t with | true=>(b ρ h1).turn fun ρ' h2=>whF c b n ρ' h2 | false=>.next ρ h1)
  cases c ρ h with
  |ok t h1=>cases t with
   |true=>
    show(b ρ h1).turn (fun ρ' h2=>whF c b n ρ' h2)≠ .bad->(b ρ h1).turn (fun ρ' h2=>whF c b (n+1) ρ' h2)=(b ρ h1).turn fun ρ' h2=>whF c b n ρ' h2
    cases b ρ h1 with
    |next ρ' h2=>exact ih ρ' h2
    |cont ρ' h2=>exact ih ρ' h2
    |_=>exact λ_=>rfl
   |false=>exact λ_=>rfl
  |_=>exact λ_=>rfl
theorem B4m{n:Nat}(hb:whF c b n ρ h≠ .bad)(k:Nat):whF c b (n+k) ρ h=whF c b n ρ h:=by
 induction k with
 |zero=>rfl
 |succ k ih=>exact(whF_up (n+k) ρ h (ih▸hb)).trans ih
noncomputable def Ro.good:Ro->Bool
 |.bad=>false
 |_=>true
theorem Wh.run(w:Wh c b ρ h r)(hg:r.good=true):whR c b ρ h=r:=by
 have hr:r≠ .bad:=λe=>Bool.noConfusion (e▸hg:Ro.good .bad=true)
 obtain⟨n,e⟩:=w
 have q:∃n,whF c b n ρ h≠ .bad:=⟨n,e▸hr⟩
 unfold whR
 rw[dif_pos q,←B4m (Classical.choose_spec q) n,Bg,B4m (e▸hr),e]
theorem Wh.no(hc:c ρ h=.ok false h1):Wh c b ρ h (.next ρ h1):=⟨1,by rw[whF,hc];rfl⟩
theorem Wh.go(hc:c ρ h=.ok true h1)(hb:b ρ h1=.next ρ' h2)(w:Wh c b ρ' h2 r):Wh c b ρ h r:=w.rec λn e=>⟨n+1,by rw[whF,hc];show(b ρ h1).turn _=r;rw[hb];exact e⟩
theorem Wh.co(hc:c ρ h=.ok true h1)(hb:b ρ h1=.cont ρ' h2)(w:Wh c b ρ' h2 r):Wh c b ρ h r:=w.rec λn e=>⟨n+1,by rw[whF,hc];show(b ρ h1).turn _=r;rw[hb];exact e⟩
theorem Wh.re{v:V}(hc:c ρ h=.ok true h1)(hb:b ρ h1=.ret v h2):Wh c b ρ h (.ret v h2):=⟨1,by rw[whF,hc];show(b ρ h1).turn _=_;rw[hb];rfl⟩
theorem Wh.ex{p:AVal}(hc:c ρ h=.ok true h1)(hb:b ρ h1=.exc ρ' p):Wh c b ρ h (.exc ρ' p):=⟨1,by rw[whF,hc];show(b ρ h1).turn _=_;rw[hb];rfl⟩
theorem Wh.xc{p:AVal}(hc:c ρ h=.exc p):Wh c b ρ h (.exc ρ p):=⟨1,by rw[whF,hc];rfl⟩
end
section
variable{n:Nat}{o oi:Ob}{ρ:Lo}{h:Ht}{e:Ex}{b:List Cm}
abbrev WhS(n:Nat)(o oi:Ob)(e:Ex)(b:List Cm):Lo->Ht->Ro->Prop:=Wh (fun ρ h=>(runX o oi e ρ h).bind truR) (fun ρ h=>runL n o oi b ρ h)
theorem WhS.s{r:Ro}(w:WhS n o oi e b ρ h r)(hr:r.good=true:=by rfl):runS n o oi (.whl e b) ρ h=r:=w.run hr
theorem xq{r:Rs V}(q:vX o oi e ρ h (λr'=>runX o oi e ρ h=r')->runX o oi e ρ h=r):runX o oi e ρ h=r:=q (A0s e rfl)
theorem cq{r:Rs Bool}(q:vX o oi e ρ h (λr'=>(runX o oi e ρ h).bind truR=r'.bind truR)->(runX o oi e ρ h).bind truR=r):(runX o oi e ρ h).bind truR=r:=q (A0s e rfl)
theorem cb{x b:Bool}{h':Ht}(hb:x=b)(q:vX o oi e ρ h (λr'=>(runX o oi e ρ h).bind truR=r'.bind truR)->(runX o oi e ρ h).bind truR=.ok x h'):(runX o oi e ρ h).bind truR=.ok b h':=hb▸q (A0s e rfl)
theorem lq{r:Ro}(q:vL n o oi b ρ h (λr'=>runL n o oi b ρ h=r')->runL n o oi b ρ h=r):runL n o oi b ρ h=r:=q (B3h b rfl)
end
theorem lqt{n:Nat}{o oi:Ob}{b:List Cm}{ρ:Lo}{h:Ht}{r r':Ro}(q:vL n o oi b ρ h (λr'=>runL n o oi b ρ h=r')->runL n o oi b ρ h=r)(e:r=r'):runL n o oi b ρ h=r':=(lq q).trans e
theorem lret{n:Nat}{o oi:Ob}{a b:List Cm}{ρ:Lo}{h h':Ht}{v:V}(e:runL n o oi a ρ h=.ret v h'):runL n o oi (a++b) ρ h=.ret v h':=by rw[A5m,e];rfl
theorem for_run{n:Nat}{o oi:Ob}{i:Nat}{it:Ex}{b:List Cm}{ρ:Lo}{h h1:Ht}{v:AVal}{xs:List AVal}{r:Ro}(hx:runX o oi it ρ h=.ok (.p v) h1)(hi:A0z h1 (.p v)=some xs)(e:loR (λx ρ h=>runL n o oi b (ρ.set i (some (.p x))) h) (λ_=>True) xs ρ h1=r):runS n o oi (.loop [i] false it b) ρ h=r:=by
 show(runX o oi it ρ h).st ρ (λv h1=>B2i (A0z h1 v) λxs=>B6x n o oi [i] false b v xs ρ h1)=r
 rw[hx]
 show B2i (A0z h1 (.p v)) (λxs=>B6x n o oi [i] false b (.p v) xs ρ h1)=r
 rw[hi];exact e
theorem lcons{n:Nat}{o oi:Ob}{c:Cm}{b:List Cm}{ρ ρ':Lo}{h h':Ht}{r:Ro}(e:runS n o oi c ρ h=.next ρ' h')(k:runL n o oi b ρ' h'=r):runL n o oi (c::b) ρ h=r:=by
 show(runS n o oi c ρ h).sq (fun ρ' h1=>runL n o oi b ρ' h1)=r
 rw[e];exact k
theorem lexc{n:Nat}{o oi:Ob}{c:Cm}{b:List Cm}{ρ ρ':Lo}{h:Ht}{p:AVal}(e:runS n o oi c ρ h=.exc ρ' p):runL n o oi (c::b) ρ h=.exc ρ' p:=by
 show(runS n o oi c ρ h).sq (fun ρ' h1=>runL n o oi b ρ' h1)=_
 rw[e];rfl
theorem lrt{n:Nat}{o oi:Ob}{c:Cm}{b:List Cm}{ρ:Lo}{h h':Ht}{v:V}(e:runS n o oi c ρ h=.ret v h'):runL n o oi (c::b) ρ h=.ret v h':=by
 show(runS n o oi c ρ h).sq (fun ρ' h1=>runL n o oi b ρ' h1)=_
 rw[e];rfl
theorem wh_step{c:Lo->Ht->Rs Bool}{b:Lo->Ht->Ro}{ρ ρ':Lo}{h h1 h2:Ht}(hc:c ρ h=.ok true h1)(hb:b ρ h1=.next ρ' h2):whR c b ρ h=whR c b ρ' h2:=by
 have s:∀n,whF c b (n+1) ρ h=whF c b n ρ' h2:=λn=>by rw[whF,hc];show(b ρ h1).turn _=_;rw[hb];rfl
 by_cases q:∃n,whF c b n ρ' h2≠ .bad
 ·have e:whR c b ρ' h2=whF c b (Classical.choose q) ρ' h2:=by unfold whR;rw[dif_pos q]
  have ne:=Classical.choose_spec q
  rw[e]
  refine Wh.run ⟨_,s _⟩ ?_
  revert ne
  cases whF c b (Classical.choose q) ρ' h2 with
  |bad=>exact λz=>absurd rfl z
  |_=>exact λ_=>rfl
 ·have q2:¬∃n,whF c b n ρ h≠ .bad:=λk=>k.elim λn k=>by
   cases n with
   |zero=>exact k rfl
   |succ n=>exact q ⟨n,s n▸k⟩
  unfold whR
  rw[dif_neg q,dif_neg q2]
theorem wh_go{n:Nat}{o oi:Ob}{c:Ex}{b k:List Cm}{ρ ρ':Lo}{h h1 h2:Ht}{r:Ro}(hc:(runX o oi c ρ h).bind truR=.ok true h1)(hb:runL n o oi b ρ h1=.next ρ' h2)(e:runL n o oi (.whl c b::k) ρ' h2=r):runL n o oi (.whl c b::k) ρ h=r:=by
 show(whR _ _ ρ h).sq _=r
 rw[wh_step hc hb];exact e
theorem B0d{r:Ro}:r.sq Ro.next=r:=by cases r <;> rfl
theorem xb{o oi:Ob}{e:Ex}{ρ:Lo}{h h':Ht}{x b:Bool}(hb:x=b)(q:vX o oi e ρ h (λr'=>runX o oi e ρ h=r')->runX o oi e ρ h=.ok (pb x) h'):runX o oi e ρ h=.ok (pb b) h':=hb▸q (A0s e rfl)
theorem A0w{n:Nat}{o oi:Ob}{c:Ex}{a b:List Cm}{ρ:Lo}{h h1:Ht}{r:Ro}(hc:runX o oi c ρ h=.ok (pb false) h1)(hb:runL n o oi b ρ h1=r):runL n o oi [.ite c a b] ρ h=r:=by
 refine .trans (b:=runS n o oi (.ite c a b) ρ h) B0d ?_
 show(runX o oi c ρ h).st ρ (λv h1=>ifB (truV h1 v) (runL n o oi a ρ h1) (runL n o oi b ρ h1))=r
 rw[hc];exact hb
theorem slc{u v:List Nat}{h:Ht}(e:u=v):(Rs.ok (ps u) h:Rs V)=.ok (ps v) h:=e▸rfl
theorem lo_nil{fb:AVal->Lo->Ht->Ro}{chk:Ht->Prop}{ρ:Lo}{h:Ht}(hc:chk h):loR fb chk [] ρ h=.next ρ h:=if_pos hc
theorem A5z{fb:AVal->Lo->Ht->Ro}{chk:Ht->Prop}{x:AVal}{xs:List AVal}{ρ:Lo}{h:Ht}{s r:Ro}(hc:chk h)(hb:fb x ρ h=s)(k:s.turn (fun ρ' h'=>loR fb chk xs ρ' h')=r):loR fb chk (x::xs) ρ h=r:=(if_pos hc).trans (hb▸k)
noncomputable abbrev loT(fb:AVal->Lo->Ht->Ro):List AVal->Lo->Ht->Ro:=loR fb λ_=>True
noncomputable abbrev A2w(n:Nat)(o oi:Ob)(i:Nat)(b:List Cm):AVal->Lo->Ht->Ro:=λx ρ h=>runL n o oi b (ρ.set i (some (.p x))) h
section
variable{fb:AVal->Lo->Ht->Ro}{x:AVal}{xs:List AVal}{ρ ρ':Lo}{h h':Ht}{r:Ro}
theorem A0v:loT fb [] ρ h=.next ρ h:=lo_nil trivial
theorem A1a(hb:fb x ρ h=.next ρ' h')(k:loT fb xs ρ' h'=r):loT fb (x::xs) ρ h=r:=A5z trivial hb k
theorem A6e{s0:Ro}(hb:fb x ρ h=s0)(he:s0=.next ρ' h')(k:loT fb xs ρ' h'=r):loT fb (x::xs) ρ h=r:=A5z trivial (hb.trans he) k
theorem B8a{v:V}(hb:fb x ρ h=.ret v h'):loT fb (x::xs) ρ h=.ret v h':=A5z trivial hb rfl
theorem B8b{p:AVal}(hb:fb x ρ h=.exc ρ' p):loT fb (x::xs) ρ h=.exc ρ' p:=A5z trivial hb rfl
end
section
variable{fe fc:AVal->Ht->Rs V}{chk:Ht->Prop}{x a:AVal}{xs acc:List AVal}{h:Ht}{r:Rs V}
theorem B8u(hc:chk h):coR fe fc chk [] acc h=.ok (.p (.lst acc)) h:=if_pos hc
theorem co_go(hc:chk h)(h1:fc x h=.ok (pb true) h)(h2:fe x h=.ok (.p a) h)(k:coR fe fc chk xs (acc++[a]) h=r):coR fe fc chk (x::xs) acc h=r:=(if_pos hc).trans (by rw[h1];show(fe x h).must _=r;rw[h2];exact k)
theorem co_no(hc:chk h)(h1:fc x h=.ok (pb false) h)(k:coR fe fc chk xs acc h=r):coR fe fc chk (x::xs) acc h=r:=(if_pos hc).trans (by rw[h1];exact k)
theorem B8w{α:Type}{f g:α->AVal}{p:α->Bool}(hc:chk h):∀{l:List α} {acc:List AVal},(∀a,a∈l->fc (f a) h=.ok (pb (p a)) h)->(∀a,a∈l->p a=true->fe (f a) h=.ok (.p (g a)) h)->coR fe fc chk (l.map f) acc h=.ok (.p (.lst (acc++(l.filter p).map g))) h:=by
 intro l
 induction l with
 |nil=>exact λ{acc} _ _=>(B8u hc).trans (by rw[List.filter_nil,List.map_nil,A6])
 |cons a l ih=>
  intro acc h1 h2
  have i:=λ{acc:List AVal}=>ih (acc:=acc) (λb m=>h1 b (.tail _ m)) λb m=>h2 b (.tail _ m)
  cases q:p a with
  |true=>
   rw[List.filter_cons_of_pos q,List.map_cons (f:=g),List.append_cons]
   exact co_go hc ((h1 a (.head _)).trans (by rw[q])) (h2 a (.head _) q) i
  |false=>
   rw[List.filter_cons_of_neg (λz=>A5 (q.symm.trans z))]
   exact co_no hc ((h1 a (.head _)).trans (by rw[q])) i
theorem A8e{α:Type}{f g:α->AVal}(hc:chk h){l:List α}{acc:List AVal}(h1:∀a,a∈l->fc (f a) h=.ok (pb true) h)(h2:∀a,a∈l->fe (f a) h=.ok (.p (g a)) h):coR fe fc chk (l.map f) acc h=.ok (.p (.lst (acc++l.map g))) h:=
 (B8w (p:=λ_=>true) hc h1 λa m _=>h2 a m).trans (by rw[List.filter_eq_self.mpr λ_ _=>rfl])
end
section
variable{n:Nat}{t s:List Nat}{i k:Nat}
theorem A0p(h:At t i s):cR (n+1) 5 [.obj 3 0,pi k] [curV t i]=.ok (ps ((s.drop k).take 1)) [curV t i]:=by
 have a:=h.add k
 revert a
 cases s.drop k with
 |nil=>exact λa=>ck λq=>q _ a.c0.h
 |cons c s=>exact λa=>ck λq=>q _ a.c1.h _ a.c1.e
theorem A0f(h:At t i s):cR (n+1) 5 [.obj 3 0] [curV t i]=.ok (ps (s.take 1)) [curV t i]:=by
 cases s with
 |nil=>exact ck λq=>q _ h.c0.h
 |cons c s=>exact ck λq=>q _ h.c1.h _ h.c1.e
theorem A1m(h:At t i s):cR (n+1) 4 [.obj 3 0] [curV t i]=.ok (pb s.isEmpty) [curV t i]:=by
 have e:Nat.ble t.length i=s.isEmpty:=by
  cases s with
  |nil=>exact h.c0.g
  |cons c s=>exact h.c1.g
 exact e▸ck λq=>q
theorem A0m{c:Nat}(h:At t i (c::s)):cR (n+2) 7 [.obj 3 0] [curV t i]=.ok (ps [c]) [curV t (i+1)]:=ck λq=>q _ (A1m h) _ rfl _ h.c1.e
theorem A1g(h:At t i s){w:List Nat}:cR (n+1) 6 [.obj 3 0,ps w] [curV t i]=.ok (pb (eqS (s.take w.length) w)) [curV t i]:=ck λq=>q _ (slc (h.cut _))
theorem A0j(h:At t i s){w:List Nat}(e:eqS (s.take w.length) w=true):cR (n+2) 8 [.obj 3 0,ps w] [curV t i]=.ok (pb true) [curV t (i+w.length)]:=ck λq=>q _ (A1g h) _ (congrArg not e)
theorem A0e(h:At t i s){w:List Nat}(e:eqS (s.take w.length) w=false):cR (n+2) 8 [.obj 3 0,ps w] [curV t i]=.ok (pb false) [curV t i]:=ck λq=>q _ (A1g h) _ (congrArg not e)
theorem tw_wh{n:Nat}{o oi:Ob}{w:List Nat}{a:V}:∀{s:List Nat} {i:Nat},At t i s->
  WhS n o oi (.and [(.cmp .lt (.attr (.loc 0) 4) (.bi .len [(.attr (.loc 0) 3)])),(.cmp .isin (.sub (.attr (.loc 0) 3) (.attr (.loc 0) 4)) (.loc 1))]) [.seta (.loc 0) 4 (.bin .add (.attr (.loc 0) 4) (.lit (.int 1)))]
   [some (.obj 3 0),some (ps w),some a] [curV t i] (.next [some (.obj 3 0),some (ps w),some a] [curV t (i+(s.takeWhile w.contains).length)]):=by
 intro s
 induction s with
 |nil=>exact λ{i} h=>.no (cq λq=>q _ h.c0.h)
 |cons c s ih=>
  intro i h
  have a:=h.c1
  rw[Bq]
  cases b:w.contains c with
  |true=>exact .go (cb b λq=>q _ a.h _ a.e) (lq λq=>q) (Bj i 1 _▸ih a.n)
  |false=>exact .no (cb b λq=>q _ a.h _ a.e)
theorem A9v(h:At t i s){w:List Nat}:cR (n+1) 9 [.obj 3 0,ps w] [curV t i]=.ok (ps (s.takeWhile w.contains)) [curV t (i+(s.takeWhile w.contains).length)]:=by
 have e:=h.cut (s.takeWhile w.contains).length
 rw[(List.prefix_iff_eq_take.mp (List.takeWhile_prefix _)).symm] at e
 exact ck λq=>q _ (tw_wh h).s _ (slc e)
theorem run_wh{n:Nat}{o oi:Ob}{w:List Nat}{b mo:Nat}:∀{s:List Nat} {m i:Nat},At t i s->b+mo=i+m->
  WhS n o oi (.and [(.cmp .lt (.loc 4) (.bi .len [(.loc 0)])),(.cmp .lt (.loc 4) (.bin .add (.loc 1) (.loc 3))),(.cmp .isin (.sub (.loc 0) (.loc 4)) (.loc 2))]) [.asg 4 (.bin .add (.loc 4) (.lit (.int 1)))]
   [some (ps t),some (pi b),some (ps w),some (pi mo),some (pi i)] [] (.next [some (ps t),some (pi b),some (ps w),some (pi mo),some (pi (i+((s.takeWhile w.contains).take m).length))] []):=by
 intro s
 induction s with
 |nil=>
  intro m i h _
  rw[show([].takeWhile w.contains).take m=[] from List.take_nil]
  exact .no (cq λq=>q _ h.c0.h)
 |cons c s ih=>
  intro m i h e
  have a:=h.c1
  cases m with
  |zero=>
   have l:Nat.ble (i+1) (b+mo)=false:=A1k (e.symm▸Cs i)
   exact .no (cq λq=>q _ a.h _ l)
  |succ m=>
   have l:Nat.ble (i+1) (b+mo)=true:=A0k (e.symm▸Ah (Ao i m))
   rw[Bq]
   cases b:w.contains c with
   |true=>exact .go (cb b λq=>q _ a.h _ l _ a.e) (lq λq=>q) (Bj i 1 _▸ih a.n (e.trans (Bj i m 1)))
   |false=>exact .no (cb b λq=>q _ a.h _ l _ a.e)
theorem w_run(h:At t i s){w:List Nat}{m:Nat}:cR (n+1) 70 [ps t,pi i,ps w,pi m] []=.ok (pi (i+((s.takeWhile w.contains).take m).length)) []:=ck λq=>q _ (run_wh h rfl).s
end
noncomputable def hx(c:Nat):Nat:=(A2b (lowC c) B4a).getD 0
noncomputable def cvl(base code:Nat)(ds:List Nat):Nat:=ds.foldl (λa c=>a*base+hx c) code
noncomputable def hxB(c:Nat):Bool:=(A6c c==some (hx c))&& ((A2b (lowC c) B4a==some (hx c))&& (Nat.ble (hx c+1) 16&&Nat.ble (c+1) 128))
theorem hx_all:gHEX.all hxB=true:=by decide+kernel
theorem oct_all:gOCT.all (λc=>gHEX.contains c&& (A2b c B4a==some (hx c)))=true:=by decide+kernel
theorem bL{a b:Bool}(h:(a&&b)=true):a=true:=(Aq.mp h).1
theorem bR{a b:Bool}(h:(a&&b)=true):b=true:=(Aq.mp h).2
theorem A5i{p:Nat->Bool}{l:List Nat}{c:Nat}(h:l.all p=true)(hc:l.contains c=true):p c=true:=Av.mp h c (A4.mp hc)
structure HxF(c:Nat):Prop where
 h:A6c c=some (hx c)
 i:A2b (lowC c) B4a=some (hx c)
 l:hx c+1<=16
 s:Nat.ble (c+1) 128=true
theorem hx_at{c:Nat}(h:gHEX.contains c=true):HxF c:=by
 have k:=A5i hx_all h
 exact⟨eq_of_beq (bL k),eq_of_beq (bL (bR k)),nbl (bL (bR (bR k))),bR (bR (bR k))⟩
theorem B6o{c:Nat}(h:gOCT.contains c=true):gHEX.contains c=true/\A2b c B4a=some (hx c):=by
 have k:=A5i oct_all h
 exact⟨bL k,eq_of_beq (bR k)⟩
theorem mulB{a b:Nat}(h:a<=4096)(k:b<=4096):decide ((Int.ofNat a).natAbs<2^2000/\(Int.ofNat b).natAbs<2^2000)=true:=
 A8 ⟨As h (Ap (Ax _) (nbl rfl)),As k (Ap (Ax _) (nbl rfl))⟩
theorem pw3{k m:Nat}(h:k+m<=3):16^k<=4096:=Nat.pow_le_pow_right (by decide) (Aa (Ao k m) h)
theorem cv_lt{base a c k:Nat}(hb:base<=16)(h:a+1<=16^k)(hc:hx c+1<=16):a*base+hx c+1<=16^ (k+1):=
 Aa (show a*base+(hx c+1)<=a*16+16 from Be (B6 a hb) hc) (Aa (Aj (Nat.succ_mul a 16).symm) (Nat.mul_le_mul_right 16 h))
section
variable{t s:List Nat}{n i:Nat}
theorem cod_wh{w:List Nat}{base mo:Nat}(hw:∀c,w.contains c=true->gHEX.contains c=true)(hb:base<=16)(h3:mo<=3):∀{s:List Nat} {m i k code:Nat},At t i s->k+m=mo->code+1<=16^k->
  cvl base code ((s.takeWhile w.contains).take m)+1<=4096/\WhS (n+2) (cR (n+2)) (A0b (n+2)).2 (.and [(.cmp .lt (.loc 5) (.loc 2)),(.cmp .ne (.meth (.loc 0) 7 []) (.lit (.str []))),(.cmp .isin (.meth (.loc 0) 7 []) (.loc 1))])
   [.asg 4 (.bin .add (.bin .mul (.loc 4) (.loc 3)) (.bi .int16 [(.meth (.loc 0) 9 []),(.lit (.int 16))])),.asg 5 (.bin .add (.loc 5) (.lit (.int 1)))]
   [some (.obj 3 0),some (ps w),some (pi mo),some (pi base),some (pi code),some (pi k)] [curV t i]
   (.next [some (.obj 3 0),some (ps w),some (pi mo),some (pi base),some (pi (cvl base code ((s.takeWhile w.contains).take m))),some (pi (k+((s.takeWhile w.contains).take m).length))] [curV t (i+((s.takeWhile w.contains).take m).length)]):=by
 intro s
 induction s with
 |nil=>
  intro m i k code h e hc
  rw[show([].takeWhile w.contains).take m=[] from List.take_nil]
  refine⟨Aa hc (pw3 (e▸h3)),.no ?_⟩
  cases m with
  |zero=>
   have l:Nat.ble (k+1) mo=false:=A1k (e▸Cs k)
   exact cq λq=>q _ l
  |succ m=>
   have l:Nat.ble (k+1) mo=true:=A0k (e▸Ah (Ao k m))
   exact cq λq=>q _ l _ (A0f h) _ rfl
 |cons c s ih=>
  intro m i k code h e hc
  have a:=h.c1
  cases m with
  |zero=>
   have l:Nat.ble (k+1) mo=false:=A1k (e▸Cs k)
   exact⟨Aa hc (pw3 (e▸h3)),.no (cq λq=>q _ l)⟩
  |succ m=>
   have l:Nat.ble (k+1) mo=true:=A0k (e▸Ah (Ao k m))
   rw[Bq]
   cases b:w.contains c with
   |true=>
    have f:=hx_at (hw c b)
    have r:=ih a.n ((Bj k 1 m).trans e) (cv_lt hb hc f.l)
    have bd:=Aa hc (pw3 (e▸h3))
    exact⟨r.1,.go (cb b λq=>q _ l _ (A0f h) _ rfl _ (A0f h)) (lq λq=>q (mulB (Bl bd) (Aa hb (by decide))) _ (A0m h) _ f.h) (Bj i 1 _▸Bj k 1 _▸r.2)⟩
   |false=>exact⟨Aa hc (pw3 (e▸h3)),.no (cb b λq=>q _ l _ (A0f h) _ rfl _ (A0f h))⟩
noncomputable def eP(t:List Nat)(i:Nat):Option (Nat×Nat)->Rs V
 |none=>.ok (ps []) [curV t i]
 |some q=>.ok (ps [q.1]) [curV t (i+q.2)]
noncomputable def eL(i:Nat):Option (Nat×Nat)->Rs V
 |none=>.ok (.p (.tup [.int (-1),.int (Int.ofNat i)])) []
 |some q=>.ok (.p (.tup [.int (Int.ofNat q.1),.int (Int.ofNat (i+q.2))])) []
structure A9u(s:List Nat)(r:Option (Nat×Nat)):Prop where
 P:∀{t:List Nat} {i n:Nat},At t i s->cR (n+4) 12 [.obj 3 0] [curV t i]=eP t i r
 L:∀{t:List Nat} {i n:Nat},At t i s->cR (n+4) 71 [ps t,pi i] []=eL i r
 k:∀q,r=some q->1<=q.2
theorem esc_nil:A9u [] none where
 P:=λh=>ck λq=>q _ (A0f h) _ rfl
 L:=λh=>ck λq=>q _ (slc (h.cut 1)) _ rfl
 k:=λq e=>nomatch e
theorem chrB{v:Nat}(h:v+1<=4096):decide (0<=Int.ofNat v/\Int.ofNat v<1114112)=true:=A8 ⟨By v,Int.ofNat_lt.mpr (Ap h (by decide))⟩
theorem B4z{w:List Nat}{base mo:Nat}(hw:∀c,w.contains c=true->gHEX.contains c=true)(hb:base<=16)(h3:mo<=3)(h:At t i s):
  cR (n+3) 11 [.obj 3 0,ps w,pi mo,pi base] [curV t i]=.ok (ps [cvl base 0 ((s.takeWhile w.contains).take mo)]) [curV t (i+((s.takeWhile w.contains).take mo).length)]:=by
 have k:=cod_wh (n:=n) (k:=0) (code:=0) hw hb h3 h (Bc mo) (by decide)
 exact ck λq=>q _ k.2.s (chrB k.1)
theorem A8o{c:Nat}{w:List Nat}{m:Nat}(h:At t i (c::s))(hc:w.contains c=false):cR (n+1) 70 [ps t,pi i,ps w,pi m] []=.ok (pi i) []:=by
 have k:=w_run (n:=n) (m:=m) (w:=w) h
 rw[Bq,hc,if_neg (λz=>nomatch z),List.take_nil] at k
 exact k
theorem tk_tw{p:Nat->Bool}(s:List Nat)(m:Nat):s.take ((s.takeWhile p).take m).length=(s.takeWhile p).take m:=
 (List.prefix_iff_eq_take.mp ((List.take_prefix _ _).trans (List.takeWhile_prefix p))).symm
theorem B5p{fb:AVal->Lo->Ht->Ro}{base:Nat}(hb:base<=16){fr:Nat->Option V->Lo}{p:Nat->Bool}(hp:∀c,p c=true->gHEX.contains c=true)(step:∀{c code f0},p c=true->code<=4096->fb (.str [c]) (fr code f0) []=.next (fr (base*code+hx c) (some (ps [c]))) []):
  ∀{ds:List Nat} {code k:Nat} {f0:Option V},ds.all p=true->k+ds.length<=3->code+1<=16^k->∃f1,loT fb (ds.map λc=>.str [c]) (fr code f0) []=.next (fr (cvl base code ds) f1) []:=by
 intro ds
 induction ds with
 |nil=>exact λ{code k f0} _ _ _=>⟨f0,A0v⟩
 |cons c ds ih=>
  intro code k f0 hd hl hc
  have hd:=Aq.mp hd
  obtain⟨f1,e⟩:=ih (f0:=some (ps [c])) hd.2 (Bj k 1 ds.length▸hl) (cv_lt hb hc (hx_at (hp c hd.1)).l)
  exact⟨f1,A1a (step hd.1 (Bl (Aa hc (pw3 hl)))) (Nat.mul_comm base code▸e)⟩
theorem tw_all{p:Nat->Bool}:∀(s:List Nat) (m:Nat),((s.takeWhile p).take m).all p=true:=by
 intro s
 induction s with
 |nil=>intro m;rw[show([].takeWhile p).take m=[] from List.take_nil];rfl
 |cons c s ih=>
  intro m
  rw[Bq]
  cases b:p c with
  |false=>rw[if_neg (λz=>nomatch z),List.take_nil];rfl
  |true=>cases m with
   |zero=>rfl
   |succ m=>exact Aq.mpr ⟨b,ih m⟩
theorem tw_le{p:Nat->Bool}(s:List Nat)(m:Nat):((s.takeWhile p).take m).length<=m:=List.length_take_le _ _
theorem w_plain:cR (n+1) 62 [] []=.ok (.p (.dict A1u A3c)) []:=ck λq=>q
theorem B2q{x:List Nat}:∀{ks:List (List Nat)} {xs:List AVal},ks.length=xs.length->ks.contains x=(dlk ks xs x).isSome:=by
 intro ks
 induction ks with
 |nil=>exact λ_=>rfl
 |cons k ks ih=>
  intro xs h
  cases xs with
  |nil=>cases h
  |cons v xs=>
   rw[Br,dlk]
   by_cases z:k=x
   ·rw[if_pos z,z,beq_self_eq_true];rfl
   ·rw[if_neg z,beq_false_of_ne (Ne.symm z)];exact ih (Nat.succ.inj h)
theorem dlk_mem{x:List Nat}{v:AVal}:∀{ks:List (List Nat)} {xs:List AVal},dlk ks xs x=some v->v∈xs:=by
 intro ks
 induction ks with
 |nil=>exact λh=>A0a h
 |cons k ks ih=>
  intro xs h
  cases xs with
  |nil=>exact A0a h
  |cons v xs=>
   rw[dlk] at h
   split at h
   ·cases h;exact .head _
   ·exact .tail _ (ih h)
noncomputable def smallV:AVal->Bool
 |.int i=>(match i with | .ofNat v=>Nat.ble (v+1) 4096 | .negSucc _=>false)
 |_=>false
theorem small_at{v:AVal}(h:smallV v=true):∃k,v=.int (Int.ofNat k)/\k+1<=4096:=by
 cases v with
 |int i=>cases i with
  |ofNat k=>exact⟨k,rfl,nbl h⟩
  |negSucc=>cases h
 |_=>cases h
theorem esc_oct{c:Nat}(hp:A1u.contains [c]=false)(ho:gOCT.contains c=true):A9u (c::s) (some (cvl 8 0 (((c::s).takeWhile gOCT.contains).take 3),(((c::s).takeWhile gOCT.contains).take 3).length)) where
 P:=λh=>ck λq=>q _ (A0f h) _ rfl _ hp _ ho _ (B4z (λc k=>(B6o k).1) (by decide) (by decide) h)
 L:=λ{t i n} h=>by
  have l:Nat.ble (i+1) (i+(((c::s).takeWhile gOCT.contains).take 3).length)=true:=A0k (Au (by rw[Bq,ho];exact Ah (Ag _)) i)
  obtain⟨f1,e⟩:=B5p (fb:=A2w (n+3) (cR (n+3)) (A0b (n+3)).2 5 [.asg 4 (.bin .add (.bin .mul (.lit (.int 8)) (.loc 4)) (.meth (.glob 13) 40 [(.loc 5)]))]) (base:=8) (by decide)
   (fr:=λk f=> [some (ps t),some (pi i),some (ps [c]),some (pi (i+(((c::s).takeWhile gOCT.contains).take 3).length)),some (pi k),f]) (p:=gOCT.contains) (λc k=>(B6o k).1) (λhc hk=>lq λq=>q (mulB (by decide) hk) _ (B6o hc).2) (k:=0) (code:=0) (f0:=none) (tw_all (c::s) 3) (by rw[Bc];exact tw_le (c::s) 3) (by decide)
  exact ck λq=>q _ (slc (h.cut 1)) _ rfl _ w_plain _ hp _ (w_run h) _ l _ (slc ((h.cut _).trans (tk_tw _ 3))) _ e
 k:=λq e=>by cases e;rw[Bq,ho];exact Ah (Ag _)
theorem B8l{c v:Nat}(hp:dlk A1u A3c [c]=some (.int (Int.ofNat v)))(hv:v+1<=4096):A9u (c::s) (some (v,1)):=by
 have hi:A1u.contains [c]=true:=(B2q (xs:=A3c) rfl).trans (by rw[hp];rfl)
 exact⟨λh=>ck λq=>q _ (A0f h) _ rfl _ hi _ (A0m h) _ hp (chrB hv),λh=>ck λq=>q _ (slc (h.cut 1)) _ rfl _ w_plain _ hi _ w_plain _ hp,λq e=>by cases e;exact Ac 1⟩
theorem p120:A1u.contains [120]=false:=by decide+kernel
theorem o120:gOCT.contains 120=false:=by decide+kernel
theorem esc_hex{x:Nat}(hx':gHEX.contains x=true):A9u (120::x::s) (some (cvl 16 0 (((x::s).takeWhile gHEX.contains).take 2),1+(((x::s).takeWhile gHEX.contains).take 2).length)) where
 P:=λ{t i n} h=>by
  show _=Rs.ok _ [curV t (i+(1+_))]
  rw[←A7]
  exact ck λq=>q _ (A0f h) _ rfl _ p120 _ o120 _ rfl _ (A0p (k:=1) h) _ rfl _ (A0p (k:=1) h) _ hx' _ (A0m h) _ (B4z (λc k=>k) (by decide) (by decide) h.c1.n)
 L:=λ{t i n} h=>by
  show _=Rs.ok (V.p (AVal.tup [_,AVal.int (Int.ofNat (i+(1+_)))])) []
  rw[←A7]
  have l:Nat.ble (i+1+1) (i+1+(((x::s).takeWhile gHEX.contains).take 2).length)=true:=A0k (Au (by rw[Bq,hx'];exact Ah (Ag _)) (i+1))
  obtain⟨f1,e⟩:=B5p (fb:=A2w (n+3) (cR (n+3)) (A0b (n+3)).2 5 [.asg 4 (.bin .add (.bin .mul (.lit (.int 16)) (.loc 4)) (.meth (.glob 13) 40 [(.meth (.loc 5) 51 [])]))]) (base:=16) (by decide)
   (fr:=λk f=> [some (ps t),some (pi i),some (ps [120]),some (pi (i+1+(((x::s).takeWhile gHEX.contains).take 2).length)),some (pi k),f]) (p:=gHEX.contains) (λc k=>k) (λhc hk=>lq λq=>q (mulB (by decide) hk) (hx_at hc).s _ (hx_at hc).i) (k:=0) (code:=0) (f0:=none) (tw_all (x::s) 2) (by rw[Bc];exact Az (tw_le (x::s) 2)) (by decide)
  exact ck λq=>q _ (slc (h.cut 1)) _ rfl _ w_plain _ p120 _ (A8o h o120) _ (A1k (Cs i)) _ (w_run h.c1.n) _ rfl _ l _ (slc ((h.c1.n.cut _).trans (tk_tw _ 2))) _ e
 k:=λq e=>by cases e;exact Ao 1 _
theorem esc_sign{c:Nat}(hp:A1u.contains [c]=false)(ho:gOCT.contains c=false)(hb:Nat.beq c 120=false):A9u (c::s) (some (c,1)):=
 ⟨λh=>ck λq=>q _ (A0f h) _ rfl _ hp _ ho _ hb _ rfl _ (A0m h),λ{t i n} h=>ck λq=>q _ (slc (h.cut 1)) _ rfl _ w_plain _ hp _ (A8o h ho) _ (A1k (Cs i)) _ (w_run h.c1.n) _ hb _ rfl,λq e=>by cases e;exact Ac 1⟩
theorem esc_x:A9u [120] (some (120,1)):=
 ⟨λh=>ck λq=>q _ (A0f h) _ rfl _ p120 _ o120 _ rfl _ (A0p (k:=1) h) _ rfl _ rfl _ (A0m h),λ{t i n} h=>ck λq=>q _ (slc (h.cut 1)) _ rfl _ w_plain _ p120 _ (A8o h o120) _ (A1k (Cs i)) _ (w_run h.c1.n) _ rfl _ (A1k (Cs (i+1))),λq e=>by cases e;exact Ac 1⟩
theorem esc_xn{x:Nat}(hx':gHEX.contains x=false):A9u (120::x::s) (some (120,1)):=
 ⟨λh=>ck λq=>q _ (A0f h) _ rfl _ p120 _ o120 _ rfl _ (A0p (k:=1) h) _ rfl _ (A0p (k:=1) h) _ hx' _ (A0m h),λ{t i n} h=>ck λq=>q _ (slc (h.cut 1)) _ rfl _ w_plain _ p120 _ (A8o h o120) _ (A1k (Cs i)) _ (A8o h.c1.n hx') _ rfl _ (A1k (Cs (i+1))),λq e=>by cases e;exact Ac 1⟩
theorem esc_ex(s:List Nat):∃r,A9u s r:=by
 cases s with
 |nil=>exact⟨_,esc_nil⟩
 |cons c s=>
  have hi:=B2q (x:=[c]) (show A1u.length=A3c.length from rfl)
  cases hp:dlk A1u A3c [c] with
  |some v=>
   obtain⟨k,rfl,hk⟩:=small_at (Av.mp (by decide:A3c.all smallV=true) v (dlk_mem hp))
   exact⟨_,B8l hp hk⟩
  |none=>
   rw[hp] at hi
   cases ho:gOCT.contains c with
   |true=>exact⟨_,esc_oct hi ho⟩
   |false=>
    cases hb:Nat.beq c 120 with
    |false=>exact⟨_,esc_sign hi ho hb⟩
    |true=>
     cases An hb
     cases s with
     |nil=>exact⟨_,esc_x⟩
     |cons x s=>
      cases hx':gHEX.contains x with
      |true=>exact⟨_,esc_hex hx'⟩
      |false=>exact⟨_,esc_xn hx'⟩
noncomputable abbrev rdH(D:AVal)(pat:Bool)(t:List Nat)(i d:Nat):Ht:=[.dct [29,30,31,32] [.obj 3 1,.p D,pb pat,pi d],curV t i]
abbrev TL(t:List Nat):Prop:=Nat.ble (t.length+1) big=true
noncomputable def sP(D:AVal)(pat:Bool)(t:List Nat)(i d b:Nat):Option (Nat×Nat)->Rs V
 |none=>.exc (posV t (Int.ofNat b))
 |some q=>.ok (pi q.1) (rdH D pat t (i+q.2) d)
inductive SL'(i:Nat)(x:Rs V):Option (Nat×Nat)->Prop
 |no (e:AVal) (h:x=.ok (.p (.tup [.int (-1),e])) []):SL' i x none
 |ok (q:Nat×Nat) (h:x=.ok (.p (.tup [.int (Int.ofNat q.1),.int (Int.ofNat (i+q.2))])) []):SL' i x (some q)
structure A7d(c:Nat)(s:List Nat)(r:Option (Nat×Nat)):Prop where
 P:∀{t:List Nat} {i n d b:Nat} {D:AVal} {pat:Bool},TL t->At t i (c::s)->cR (n+6) 48 [.obj 18 0,ps [c],pi b] (rdH D pat t (i+1) d)=sP D pat t i d b r
 L:∀{t:List Nat} {i n:Nat},At t i (c::s)->SL' i (cR (n+6) 72 [ps t,pi i] []) r
 k:∀q,r=some q->1<=q.2/\q.1<=127
theorem le127{c:Nat}(h:c<=127):Nat.ble 128 c=false/\Nat.ble (c+1) 128=true:=⟨A1k (B9 (Bz h)),A0k (Ah h)⟩
theorem gt127{c:Nat}(h:¬c<=127):Nat.ble 128 c=true/\Nat.ble (c+1) 128=false:=⟨A0k (Nat.lt_of_not_le h),A1k λk=>h (Nat.le_of_succ_le_succ k)⟩
theorem A7n(c:Nat)(s:List Nat):∃r,A7d c s r:=by
 cases hb:Nat.beq c 92 with
 |false=>
  by_cases h7:c<=127
  ·have k:=le127 h7
   exact⟨some (c,1),λT h=>ck λq=>q _ hb _ k.1,λh=>.ok (c,1) (ck λq=>q _ h.c1.e _ (congrArg not hb) _ h.c1.e _ k.2 _ h.c1.e),λq e=>by cases e;exact⟨Ac 1,h7⟩⟩
  ·have k:=gt127 h7
   exact⟨none,λT h=>ck λq=>q _ hb _ k.1 rfl (by kernel_rfl) T,λh=>.no _ (ck λq=>q _ h.c1.e _ (congrArg not hb) _ h.c1.e _ k.2),λq e=>nomatch e⟩
 |true=>
  cases An hb
  cases h10:eqS (s.take 1) [10] with
  |true=>exact⟨none,λT h=>ck λq=>q _ rfl _ (A0f h.c1.n) _ h10 T,λh=>.no _ (ck λq=>q _ h.c1.e _ rfl _ (slc (h.c1.n.cut 1)) _ h10),λq e=>nomatch e⟩
  |false=>
   obtain⟨r,E⟩:=esc_ex s
   cases r with
   |none=>exact⟨none,λT h=>ck λq=>q _ rfl _ (A0f h.c1.n) _ h10 _ (E.P h.c1.n) _ rfl T,λh=>.no _ (ck λq=>q _ h.c1.e _ rfl _ (slc (h.c1.n.cut 1)) _ h10 _ (E.L h.c1.n) _ rfl),λq e=>nomatch e⟩
   |some v=>
    by_cases h7:v.1<=127
    ·have k:=le127 h7
     exact⟨some (v.1,1+v.2),λ{t i n d b D pat} T h=>by
      show _=Rs.ok (pi v.1) (rdH D pat t (i+(1+v.2)) d)
      rw[←A7]
      exact ck λq=>q _ rfl _ (A0f h.c1.n) _ h10 _ (E.P h.c1.n) _ rfl _ k.1,λ{t i n} h=>.ok _ (by
      show _=Rs.ok (V.p (AVal.tup [_,AVal.int (Int.ofNat (i+(1+v.2)))])) []
      rw[←A7]
      exact ck λq=>q _ h.c1.e _ rfl _ (slc (h.c1.n.cut 1)) _ h10 _ (E.L h.c1.n) _ k.2),λq e=>by cases e;exact⟨Ao 1 _,h7⟩⟩
    ·have k:=gt127 h7
     exact⟨none,λT h=>ck λq=>q _ rfl _ (A0f h.c1.n) _ h10 _ (E.P h.c1.n) _ rfl _ k.1 rfl (by kernel_rfl) T,λh=>.no _ (ck λq=>q _ h.c1.e _ rfl _ (slc (h.c1.n.cut 1)) _ h10 _ (E.L h.c1.n) _ k.2),λq e=>nomatch e⟩
end
set_option genCtorIdx false in
inductive Tr where
 |empty
 |never
 |chars (s:List (Nat×Nat))
 |cat (l r:Tr)
 |alt (l r:Tr)
 |star (b:Tr)
 |plus (b:Tr)
 |opt (b:Tr)
 |rep (b:Tr) (lo:Nat) (hi:Option Nat)
noncomputable def hiV:Option Nat->AVal
 |none=>.none
 |some i=>.int (Int.ofNat i)
noncomputable def spN(p:Nat×Nat):AVal:=.tup [.int (Int.ofNat p.1),.int (Int.ofNat p.2)]
noncomputable def spsN(l:List (Nat×Nat)):AVal:=.tup (l.map spN)
noncomputable def csV(s:List (Nat×Nat)):AVal:=.inst 4 [14] [spsN s]
noncomputable def A0d:Tr->AVal
 |.empty=>.inst 6 [] []
 |.never=>.inst 7 [] []
 |.chars s=>.inst 8 [17] [csV s]
 |.cat l r=>.inst 10 [19,20] [A0d l,A0d r]
 |.alt l r=>.inst 11 [19,20] [A0d l,A0d r]
 |.star b=>.inst 13 [22] [A0d b]
 |.plus b=>.inst 14 [22] [A0d b]
 |.opt b=>.inst 15 [22] [A0d b]
 |.rep b lo hi=>.inst 16 [22,23,24] [A0d b,.int (Int.ofNat lo),hiV hi]
noncomputable def nmV(c:Nat):AVal:=.str ((A6h c).getD [])
noncomputable def A0c:Tr->AVal
 |.empty=>.tup [nmV 6]
 |.never=>.tup [nmV 7]
 |.chars s=>.tup [nmV 8,spsN s]
 |.cat l r=>.tup [nmV 10,A0c l,A0c r]
 |.alt l r=>.tup [nmV 11,A0c l,A0c r]
 |.star b=>.tup [nmV 13,A0c b]
 |.plus b=>.tup [nmV 14,A0c b]
 |.opt b=>.tup [nmV 15,A0c b]
 |.rep b lo hi=>.tup [nmV 16,A0c b,.int (Int.ofNat lo),hiV hi]
noncomputable def hh:Tr->Nat×Nat×Nat
 |.empty=>(1,1,1)
 |.never=>(1,1,1)
 |.chars _=>(1,1,1)
 |.cat l r=>(Nat.max (hh l).2.1 (hh r).1+1,Nat.max (hh l).2.1 (hh r).1,Nat.max (hh l).2.1 (hh r).1+1)
 |.alt l r=>(Nat.max (hh l).2.2 (hh r).1+1,Nat.max (hh l).2.2 (hh r).1+1,Nat.max (hh l).2.2 (hh r).1)
 |.star b=>((hh b).1+1,(hh b).1+1,(hh b).1+1)
 |.plus b=>((hh b).1+1,(hh b).1+1,(hh b).1+1)
 |.opt b=>((hh b).1+1,(hh b).1+1,(hh b).1+1)
 |.rep b _ _=>((hh b).1+1,(hh b).1+1,(hh b).1+1)
noncomputable def sz:Tr->Nat
 |.empty=>1
 |.never=>1
 |.chars _=>1
 |.cat l r=>sz l+sz r
 |.alt l r=>sz l+sz r
 |.star b=>sz b+1
 |.plus b=>sz b+1
 |.opt b=>sz b+1
 |.rep b _ _=>sz b+1
theorem rm_le{i z k L:Nat}(h:i+z<=k)(g:i+z<=L):L-k+z<=L-i:=Aa (Ay (Nat.sub_le_sub_left h L) z) (Aj (by rw[Nat.sub_add_eq];exact Cw (Nat.le_sub_of_add_le' g)))
theorem B6e{i k L z:Nat}(h:i<k)(g:i<L):L-k+(z+1)<=L-i+z:=
 Aa (Aj (Bj (L-k) z 1)) (Ay (Bs g h) z)
inductive Jo(D:AVal)(pat:Bool)(t:List Nat)(i d B Z:Nat)(hl:Ht)(x y:Nat->Rs V):Prop
 |er (e:Nat) (lt:e<t.length) (p:∀n,x n=.exc (posV t (Int.ofNat e))) (l:∀n,y n=.ok (.p (.tup [.none,.int (Int.ofNat e)])) hl)
 |ok (m:Tr) (j:Nat) (hb:(hh m).1<=B/\t.length-j+sz m<=t.length-i+Z) (lt:i<j) (p:∀n,x n=.ok (.p (A0d m)) (rdH D pat t j d)) (l:∀n,y n=.ok (.p (.tup [A0c m,.int (Int.ofNat j)])) hl)
section
variable{t s:List Nat}{n i d:Nat}{D:AVal}{pat:Bool}{row:List AVal}
theorem At.lt{c:Nat}(h:At t i (c::s)):i<t.length:=Nat.lt_of_sub_pos (h.len▸Ar _)
noncomputable abbrev wdN(s:List Nat):List Nat:=s.takeWhile A4y.contains
theorem A9w{c:Nat}(h:At t i (c::s))(h1:A4y.contains c=true)(h2:A0g.contains c=false):cR (n+2) 10 [.obj 3 0] [curV t i]=.ok (ps (wdN (c::s))) [curV t (i+(wdN (c::s)).length)]:=
 ck λq=>q _ (A0f h) _ rfl _ (congrArg not h1) _ h2 _ (A9v h)
theorem A7g(h:At t i s)(hn:wdN s=[]):cR (n+2) 10 [.obj 3 0] [curV t i]=.ok (ps []) [curV t i]:=by
 cases s with
 |nil=>exact ck λq=>q _ (A0f h) _ rfl _ rfl
 |cons c s=>
  have h1:A4y.contains c=false:=by
   unfold wdN at hn
   rw[Bq] at hn
   cases q:A4y.contains c with
   |false=>rfl
   |true=>rw[q,if_pos rfl] at hn;cases hn
  exact ck λq=>q _ (A0f h) _ rfl _ (congrArg not h1) _ rfl
theorem B4r{c:Nat}(h:At t i (c::s))(h1:A4y.contains c=true)(h2:A0g.contains c=true):cR (n+2) 10 [.obj 3 0] [curV t i]=.ok (ps []) [curV t i]:=
 ck λq=>q _ (A0f h) _ rfl _ (congrArg not h1) _ h2
abbrev Ru(s:List Nat):Prop:=∀k,(wdN (s.drop k)).length<=98
theorem Ru.drop(R:Ru s)(k:Nat):Ru (s.drop k):=λj=>(List.drop_drop▸R (k+j):(wdN ((s.drop k).drop j)).length<=98)
theorem Ru.take(R:Ru s):(wdN s).take 99=wdN s:=List.take_of_length_le (Az (R 0))
noncomputable def kwM:List Tr:=[.alt (.chars [(97,97)]) (.chars [(98,98)]),.empty]
noncomputable def kwK:List (List Nat):=[[68],[120,95,49]]
noncomputable def kwV:AVal:=.dict kwK (kwM.map A0d)
noncomputable def kwL:AVal:=.dict kwK (kwM.map A0c)
theorem w_known:cR (n+1) 61 [] []=.ok (.p kwL) []:=ck λq=>q
inductive KwAt(w:List Nat):Prop
 |no (c:kwK.contains w=false):KwAt w
 |at(m:Tr) (hb:(hh m).1<=2/\sz m<=2) (c:kwK.contains w=true) (v:dlk kwK (kwM.map A0d) w=some (A0d m)) (l:dlk kwK (kwM.map A0c) w=some (A0c m)):KwAt w
theorem kw_at(w:List Nat):KwAt w:=by
 by_cases a:w=[68]
 ·subst a;exact .at _ (by decide) rfl rfl rfl
 ·by_cases b:w=[120,95,49]
  ·subst b;exact .at _ (by decide) rfl rfl rfl
  ·exact .no (by rw[kwK,Br,Br,beq_false_of_ne a,beq_false_of_ne b];rfl)
theorem kw_no{w:List Nat}{c:Nat}{r:List Nat}(e:w=c::r)(hc:Nat.beq c 68=false)(hd:Nat.beq c 120=false):kwK.contains w=false:=by
 subst e
 rw[kwK,Br,Br,beq_false_of_ne (λz=>by cases z;cases hc),beq_false_of_ne (λz=>by cases z;cases hd)];rfl
noncomputable abbrev dfP(D:AVal)(pat:Bool)(t:List Nat)(i d n:Nat):Rs V:=cR (n+6) 50 [.obj 18 0,pi i] (rdH D pat t (i+1) d)
noncomputable abbrev dfL(t:List Nat)(i:Nat)(row:List AVal)(n:Nat):Rs V:=cR (n+6) 78 [ps t,pi i,.ref 0] [.lst row]
theorem df_name{c:Nat}(T:TL t)(R:Ru (c::s))(h:At t i (123::c::s))(hf:A0g.contains c=false):Jo kwV pat t i d 2 0 [.lst row] (dfP kwV pat t i d) (dfL t i row):=by
 have nm:∀n,cR (n+2) 10 [.obj 3 0] [curV t (i+1)]=.ok (ps (wdN (c::s))) [curV t (i+1+(wdN (c::s)).length)]:=λn=>by
  cases hc:A4y.contains c with
  |true=>exact A9w h.c1.n hc hf
  |false=>
   have e:wdN (c::s)=[]:=by unfold wdN;rw[Bq,hc];rfl
   rw[e];exact A7g h.c1.n e
 have ru:∀n,cR (n+1) 70 [ps t,pi (i+1),ps B0l,pi 99] []=.ok (pi (i+1+(wdN (c::s)).length)) []:=λn=>by
  have k:=w_run (n:=n) (w:=B0l) (m:=99) h.c1.n
  rw[show((c::s).takeWhile B0l.contains).take 99=wdN (c::s) from R.take] at k
  exact k
 have a:=h.c1.n.add (wdN (c::s)).length
 have cw:cut (i+1) (i+1+(wdN (c::s)).length) t=wdN (c::s):=(h.c1.n.cut _).trans (List.prefix_iff_eq_take.mp (List.takeWhile_prefix _)).symm
 generalize hr:(c::s).drop (wdN (c::s)).length=r at a
 cases hb:eqS (r.take 1) [125] with
 |false=>
  exact .er i h.lt (λn=>ck λq=>q _ (nm _) _ (A0e a hb) _ rfl _ rfl T) λn=>by
   cases(kw_at (wdN (c::s))) with
   |no k=>exact ck λq=>q _ (slc (h.c1.n.cut 1)) _ rfl _ h.c1.n.c1.e _ hf _ (ru _) _ (slc cw) _ w_known _ (congrArg not k) _ rfl
   |«at» m hm k v l=>exact ck λq=>q _ (slc (h.c1.n.cut 1)) _ rfl _ h.c1.n.c1.e _ hf _ (ru _) _ (slc cw) _ w_known _ (congrArg not k) _ (slc (a.cut 1)) _ (congrArg not hb)
 |true=>
  cases(kw_at (wdN (c::s))) with
  |no k=>exact .er i h.lt (λn=>ck λq=>q _ (nm _) _ (A0j a hb) _ rfl _ rfl _ (congrArg not k) T) λn=>ck λq=>q _ (slc (h.c1.n.cut 1)) _ rfl _ h.c1.n.c1.e _ hf _ (ru _) _ (slc cw) _ w_known _ (congrArg not k) _ rfl
  |«at» m hm k v l=>
   exact .ok m (i+1+(wdN (c::s)).length+1) ⟨hm.1,Aa (Au hm.2 _) (rm_le (Ah (Ao (i+1) _)) h.c1.n.lt)⟩ (Bz (Aa (A9 i) (Ao (i+1) _))) (λn=>ck λq=>q _ (nm _) _ (A0j a hb) _ rfl _ rfl _ (congrArg not k) _ v) λn=>ck λq=>q _ (slc (h.c1.n.cut 1)) _ rfl _ h.c1.n.c1.e _ hf _ (ru _) _ (slc cw) _ w_known _ (congrArg not k) _ (slc (a.cut 1)) _ (congrArg not hb) _ w_known _ l
theorem B2n:A0g.all (λc=>A4y.contains c)=true:=by decide+kernel
theorem df_fig{c:Nat}(T:TL t)(h:At t i (123::c::s))(hf:A0g.contains c=true):Jo D pat t i d 2 0 [.lst []] (dfP D pat t i d) (dfL t i []):=by
 have hc:Nat.beq c 125=false:=by
  cases q:Nat.beq c 125 with
  |false=>rfl
  |true=>cases An q;cases hf
 exact .er i h.lt (λn=>ck λq=>q _ (B4r h.c1.n (A5i B2n hf) hf) _ (A0e h.c1.n hc) _ rfl _ rfl T) λn=>ck λq=>q _ (slc (h.c1.n.cut 1)) _ rfl _ h.c1.n.c1.e _ hf _ rfl
theorem df_end(T:TL t)(h:At t i [123]):Jo D pat t i d 2 0 [.lst row] (dfP D pat t i d) (dfL t i row):=
 .er i h.lt (λn=>ck λq=>q _ (A7g h.c1.n rfl) _ (A0e h.c1.n rfl) _ rfl _ rfl T) λn=>by
  have c2:cut (i+1) (i+1+0) t=[]:=h.c1.n.cut 0
  exact ck λq=>q _ (slc (h.c1.n.cut 1)) _ rfl _ rfl _ (w_run h.c1.n) _ (slc c2) _ w_known _ rfl _ rfl
end
noncomputable abbrev fg(s:List Nat):List Nat:=s.takeWhile A0g.contains
noncomputable def cntN(n:Nat)(l:List Nat):Nat:=l.foldl (λn c=>min (10*n+(c-48)) 41) n
theorem B8x:∀(l:List Nat) (a:Nat),cntN (min a 41) l=min (l.foldl (λa c=>a*10+(c-48)) a) 41:=by
 intro l
 induction l with
 |nil=>exact λ_=>rfl
 |cons c l ih=>
  intro a
  refine .trans ?_ (ih (a*10+(c-48)))
  show cntN (min (10*min a 41+(c-48)) 41) l=_
  rcases Nat.le_total a 41 with h | h
  ·rw[Ci h,Nat.mul_comm]
  ·rw[Nat.min_eq_right h,Nat.min_eq_right (Aa (by decide) (Ao (10*41) _)),Nat.min_eq_right (Aa h (Aa (Nat.le_mul_of_pos_right a (by decide)) (Ao _ _)))]
theorem B8f:A0g.all (λc=>(A2b c A0g==some (c-48))&& (Nat.ble 48 c&&Nat.ble c 57))=true:=by decide+kernel
theorem min_nat{a b:Nat}{h:Ht}:(Rs.ok (.p (.int (min (Int.ofNat a) (Int.ofNat b)))) h:Rs V)=.ok (pi (min a b)) h:=by
 rcases Nat.le_total a b with k | k
 ·rw[Ci k,show min (Int.ofNat a) (Int.ofNat b)=Int.ofNat a from Int.min_eq_left (B7.mpr k)]
 ·rw[Nat.min_eq_right k,show min (Int.ofNat a) (Int.ofNat b)=Int.ofNat b from Int.min_eq_right (B7.mpr k)]
section
variable{t s:List Nat}{n i d:Nat}{D:AVal}{pat:Bool}{row:List AVal}
theorem B8y{a b:V}{h:Ht}:∀{ds:List Nat} {k:Nat} {f0:Option V},ds.all A0g.contains=true->k<=41->∃f1,
  loT (A2w (n+2) (cR (n+2)) (A0b (n+2)).2 3 [.asg 2 (.bi .min [(.bin .add (.bin .mul (.lit (.int 10)) (.loc 2)) (.meth (.glob 0) 40 [(.loc 3)])),(.bin .add (.glob 7) (.lit (.int 1)))])]) (ds.map λc=>.str [c]) [some a,some b,some (pi k),f0] h=.next [some a,some b,some (pi (cntN k ds)),f1] h:=by
 intro ds
 induction ds with
 |nil=>exact λ{k f0} _ _=>⟨f0,A0v⟩
 |cons c ds ih=>
  intro k f0 hd hk
  have f:=A5i B8f (bL hd)
  obtain⟨f1,e⟩:=ih (k:=min (10*k+(c-48)) 41) (f0:=some (ps [c])) (bR hd) (Nat.min_le_right _ _)
  exact⟨f1,A1a (lq λq=>q (mulB (by decide) (Aa hk (by decide))) _ (eq_of_beq (bL f)) _ min_nat) e⟩
theorem B8g:∀(s:List Nat),(fg s).all A0g.contains=true:=λs=>Av.mpr λc hc=>Av.mp (List.all_takeWhile (l:=s)) c hc
theorem w_cnt0(T:TL t)(h:At t i s)(hv:41<=numV (fg s)):cR (n+5) 46 [.obj 18 0] (rdH D pat t i d)=.exc (posV t (Int.ofNat i)):=by
 obtain⟨f1,e⟩:=B8y (n:=n+2) (a:=.obj 18 0) (b:=pi i) (h:=rdH D pat t (i+(fg s).length) d) (k:=0) (f0:=none) (B8g s) (by decide)
 have k:cntN 0 (fg s)=41:=(B8x (fg s) 0).trans (Nat.min_eq_right hv)
 rw[k] at e
 exact ck λq=>q _ (A9v h) _ e _ rfl rfl (by kernel_rfl) T
theorem w_cnt(T:TL t)(h:At t i s)(hv:¬41<=numV (fg s)):cR (n+5) 46 [.obj 18 0] (rdH D pat t i d)=.ok (pi (numV (fg s))) (rdH D pat t (i+(fg s).length) d):=by
 obtain⟨f1,e⟩:=B8y (n:=n+2) (a:=.obj 18 0) (b:=pi i) (h:=rdH D pat t (i+(fg s).length) d) (k:=0) (f0:=none) (B8g s) (by decide)
 have k:cntN 0 (fg s)=numV (fg s):=(B8x (fg s) 0).trans (Ci (Ak (Nat.lt_of_not_le hv)))
 rw[k] at e
 exact ck λq=>q _ (A9v h) _ e _ (A1k hv)
theorem tw_mono{p q:Nat->Bool}(h:∀c,p c=true->q c=true):∀(s:List Nat),(s.takeWhile p).length<=(s.takeWhile q).length:=by
 intro s
 induction s with
 |nil=>exact Ac _
 |cons c s ih=>
  rw[Bq,Bq]
  cases b:p c with
  |false=>exact Ag _
  |true=>rw[h c b];exact Ah ih
theorem fg_le(R:Ru s):(fg s).length<=98:=Aa (tw_mono (λc h=>A5i B2n h) s) (R 0)
theorem A8n(R:Ru s)(h:At t i s):cR (n+1) 70 [ps t,pi i,ps A0g,pi 99] []=.ok (pi (i+(fg s).length)) []:=by
 have k:=w_run (n:=n) (w:=A0g) (m:=99) h
 rw[List.take_of_length_le (Az (fg_le R))] at k
 exact k
theorem cutF(h:At t i s):cut i (i+(fg s).length) t=fg s:=(h.cut _).trans (List.prefix_iff_eq_take.mp (List.takeWhile_prefix _)).symm
theorem intB{c:Nat}(R:Ru (c::s))(hc:A0g.contains c=true):(!(fg (c::s)).isEmpty&&Nat.ble (fg (c::s)).length 100&&figs (fg (c::s)))=true:=by
 have e:(fg (c::s)).isEmpty=false:=by unfold fg;rw[Bq,hc];rfl
 have f:figs (fg (c::s))=true:=Av.mpr λx hx=>bR (A5i B8f (Av.mp (B8g (c::s)) x hx))
 rw[e,f,A0k (Aa (fg_le R) (by decide))];rfl
theorem A6q{v:AVal}:cR (n+1) 28 [.obj 16 0,.p v] [.dct [] []]=.ok (.p .none) [.dct [22] [.p v]]:=ck λq=>q
theorem w_rep{v:AVal}{lo:Nat}{hi:Option Nat}(h1:Nat.ble 41 lo=false)(h2:∀k,hi=some k->Nat.ble (k+1) lo=false/\Nat.ble 41 k=false):cR (n+2) 30 [.obj 16 0,.p v,pi lo,.p (hiV hi)] [.dct [] []]=.ok (.p .none) [.dct [22,23,24] [.p v,pi lo,.p (hiV hi)]]:=by
 cases hi with
 |none=>exact ck λq=>q _ A6q _ rfl _ h1 _ rfl _ rfl
 |some k=>exact ck λq=>q _ A6q _ rfl _ h1 _ rfl _ (h2 k rfl).1 _ (h2 k rfl).2
noncomputable abbrev ctP(D:AVal)(pat:Bool)(t:List Nat)(i d:Nat)(v:Tr)(n:Nat):Rs V:=cR (n+7) 45 [.obj 18 0,.p (A0d v)] (rdH D pat t i d)
noncomputable abbrev ctL(t:List Nat)(i:Nat)(v:Tr)(n:Nat):Rs V:=cR (n+2) 77 [ps t,pi i,.p (A0c v)] []
theorem ct_tail{v:Tr}{lo p:Nat}{hi:Option Nat}(T:TL t)(hs:i<t.length)(hp:i<p)(h1:¬41<=lo)(h2:∀k,hi=some k->¬41<=k)
  (eP:∀n,runL (n+6) (cR (n+6)) (A0b (n+6)).2 (b45.take 5) (A1v 45 [.obj 18 0,.p (A0d v)]) (rdH D pat t i d)=.next [some (.obj 18 0),some (.p (A0d v)),some (pi i),some (pi lo),some (.p (hiV hi))] (rdH D pat t p d))
  (eL:∀n,∃f,runL (n+1) (cR (n+1)) (A0b (n+1)).2 (b77.take 5) (A1v 77 [ps t,pi i,.p (A0c v)]) []=.next [some (ps t),some (pi i),some (.p (A0c v)),some (pi p),some (pi lo),some (.p (hiV hi)),f] []):Jo D pat t i d ((hh v).1+1) (sz v) [] (ctP D pat t i d v) (ctL t i v):=by
 have h1:=A1k h1
 have L:=λ(n:Nat) {s:Ro} {r:Rs V} (e2:∀f,runL (n+1) (cR (n+1)) (A0b (n+1)).2 (b77.drop 5) [some (ps t),some (pi i),some (.p (A0c v)),some (pi p),some (pi lo),some (.p (hiV hi)),f] []=s) (hr:fin 77 0 s=r)=>(eL n).elim λf e=>(ck2 (f:=77) (a:=b77.take 5) (b:=b77.drop 5) rfl e (e2 f) hr:ctL t i v n=r)
 have P:=λ(n:Nat) {s:Ro} {r:Rs V} (e2:runL (n+6) (cR (n+6)) (A0b (n+6)).2 (b45.drop 5) [some (.obj 18 0),some (.p (A0d v)),some (pi i),some (pi lo),some (.p (hiV hi))] (rdH D pat t p d)=s) (hr:fin 45 2 s=r)=>(ck2 (f:=45) (a:=b45.take 5) (b:=b45.drop 5) rfl (eP n) e2 hr:ctP D pat t i d v n=r)
 have a:At t p (t.drop p):=rfl
 revert a
 cases t.drop p with
 |nil=>exact λa=>.er i hs (λn=>P n (lq λq=>q _ (A1m a) _ rfl T) rfl) λn=>L n (λf=>lq λq=>q _ (slc (a.cut 1)) _ rfl _ a.c0.g) rfl
 |cons c r=>
  intro a
  cases hc:Nat.beq c 125 with
  |false=>exact .er p a.lt (λn=>P n (lq λq=>q _ (A1m a) _ rfl _ (A0e a hc) _ rfl T) rfl) λn=>L n (λf=>lq λq=>q _ (slc (a.cut 1)) _ (congrArg not hc) _ a.c1.g) rfl
  |true=>
   cases hi with
   |none=>exact .ok (.rep v lo none) (p+1) ⟨Ac _,B6e (B1 hp) hs⟩ (B1 hp) (λn=>P n (lq λq=>q _ (A1m a) _ rfl _ (A0j a hc) _ rfl _ rfl _ rfl _ (w_rep h1 λk e=>nomatch e)) rfl) λn=>L n (λf=>lq λq=>q _ (slc (a.cut 1)) _ (congrArg not hc) _ rfl _ rfl) rfl
   |some k=>
    by_cases hk:k<lo
    ·exact .er i hs (λn=>P n (lq λq=>q _ (A1m a) _ rfl _ (A0j a hc) _ rfl _ rfl _ (A0k hk) T) rfl) λn=>L n (λf=>lq λq=>q _ (slc (a.cut 1)) _ (congrArg not hc) _ rfl _ (A0k hk)) rfl
    ·exact .ok (.rep v lo (some k)) (p+1) ⟨Ac _,B6e (B1 hp) hs⟩ (B1 hp) (λn=>P n (lq λq=>q _ (A1m a) _ rfl _ (A0j a hc) _ rfl _ rfl _ (A1k hk) _ (w_rep h1 λk' e=>by cases e;exact⟨A1k hk,A1k (h2 _ rfl)⟩)) rfl) λn=>L n (λf=>lq λq=>q _ (slc (a.cut 1)) _ (congrArg not hc) _ rfl _ (A1k hk)) rfl
theorem A6r{c:Nat}{b:Bool}(hc:A0g.contains c=b):cR (n+1) 38 [ps [c]] []=.ok (pb b) []:=hc▸ck λq=>q _ rfl
theorem w_fig0:cR (n+1) 38 [ps []] []=.ok (pb false) []:=ck λq=>q _ rfl
theorem fg_no{c:Nat}(hc:A0g.contains c=false):fg (c::s)=[]:=by unfold fg;rw[Bq,hc];rfl
theorem w_runN(R:Ru s)(h:At t i s)(hn:fg s=[]):cR (n+1) 70 [ps t,pi i,ps A0g,pi 99] []=.ok (pi i) []:=by
 have k:=A8n (n:=n) R h
 rw[hn] at k;exact k
theorem fg_lt{c:Nat}(i:Nat)(hc:A0g.contains c=true):Nat.ble (i+1) (i+(fg (c::s)).length)=true:=A0k (Au (by unfold fg;rw[Bq,hc];exact Ah (Ag _)) i)
theorem Ru.at(R:Ru t)(h:At t i s):Ru s:=h▸R.drop i
theorem ct_all{v:Tr}{c:Nat}(T:TL t)(R:Ru t)(h:At t i (123::c::s))(hf:A0g.contains c=true):Jo D pat t i d ((hh v).1+1) (sz v) [] (ctP D pat t i d v) (ctL t i v):=by
 have h1:=h.c1.n
 have R1:=R.at h1
 by_cases hv:41<=numV (fg (c::s))
 ·exact .er (i+1) h1.lt (λn=>ck λq=>q _ (A0m h) _ (w_cnt0 T h1 hv)) λn=>ck λq=>q _ (A8n R1 h1) _ (slc (cutF h1)) (intB R1 hf) _ (A0k hv)
 ·have lt1:i<i+1+(fg (c::s)).length:=Ap (Ax i) (Ao _ _)
  have a1:At t (i+1+(fg (c::s)).length) (t.drop (i+1+(fg (c::s)).length)):=rfl
  have P4:∀n,runL (n+6) (cR (n+6)) (A0b (n+6)).2 (b45.take 4) (A1v 45 [.obj 18 0,.p (A0d v)]) (rdH D pat t i d)=.next [some (.obj 18 0),some (.p (A0d v)),some (pi i),some (pi (numV (fg (c::s)))),some (pi (numV (fg (c::s))))] (rdH D pat t (i+1+(fg (c::s)).length) d):=
   λn=>lq λq=>q _ (A0m h) _ (w_cnt T h1 hv)
  have L4:∀n,runL (n+1) (cR (n+1)) (A0b (n+1)).2 (b77.take 4) (A1v 77 [ps t,pi i,.p (A0c v)]) []=.next [some (ps t),some (pi i),some (.p (A0c v)),some (pi (i+1+(fg (c::s)).length)),some (pi (numV (fg (c::s)))),some (pi (numV (fg (c::s)))),none] []:=
   λn=>lq λq=>q _ (A8n R1 h1) _ (slc (cutF h1)) (intB R1 hf) _ (A1k hv)
  have tl:=λ{hi:Option Nat} {p:Nat} (hp:i<p) (h2:∀k,hi=some k->¬41<=k)
    (eP:∀n,runL (n+6) (cR (n+6)) (A0b (n+6)).2 ((b45.drop 4).take 1) [some (.obj 18 0),some (.p (A0d v)),some (pi i),some (pi (numV (fg (c::s)))),some (pi (numV (fg (c::s))))] (rdH D pat t (i+1+(fg (c::s)).length) d)=.next [some (.obj 18 0),some (.p (A0d v)),some (pi i),some (pi (numV (fg (c::s)))),some (.p (hiV hi))] (rdH D pat t p d))
    (f:Option V) (eL:∀n,runL (n+1) (cR (n+1)) (A0b (n+1)).2 ((b77.drop 4).take 1) [some (ps t),some (pi i),some (.p (A0c v)),some (pi (i+1+(fg (c::s)).length)),some (pi (numV (fg (c::s)))),some (pi (numV (fg (c::s)))),none] []=.next [some (ps t),some (pi i),some (.p (A0c v)),some (pi p),some (pi (numV (fg (c::s)))),some (.p (hiV hi)),f] [])=>
   ct_tail (hi:=hi) T h.lt hp hv h2 (λn=>lcat (P4 n) (eP n)) λn=>⟨f,lcat (L4 n) (eL n)⟩
  revert a1 P4 L4 tl lt1
  generalize i+1+(fg (c::s)).length=p1
  generalize numV (fg (c::s))=lo at hv
  intro lt1 a1 P4 L4 tl
  revert a1
  generalize t.drop p1=r1
  intro a1
  cases hc:eqS (r1.take 1) [44] with
  |false=>exact tl (hi:=some lo) lt1 (λk e=>by cases e;exact hv) (λn=>lq λq=>q _ (A0e a1 hc) _ rfl) _ λn=>lq λq=>q _ (slc (a1.cut 1)) _ hc
  |true=>
   cases r1 with
   |nil=>cases hc
   |cons x r1=>
    have a2:=a1.c1.n
    have none:=λ(hn:fg r1=[]) (wf:∀n,cR (n+1) 38 [ps (r1.take 1)] []=.ok (pb false) [])=>tl (hi:=none) (B1 lt1) (λk e=>nomatch e)
     (λn=>lq λq=>q _ (A0j a1 hc) _ rfl _ (A0f a2) _ (wf _) _ rfl) _ λn=>lq λq=>q _ (slc (a1.cut 1)) _ hc _ (w_runN (R.at a2) a2 hn) _ (A1k (Cs _))
    cases r1 with
    |nil=>exact none rfl λn=>w_fig0
    |cons y r2=>
     cases hy:A0g.contains y with
     |false=>exact none (fg_no hy) λn=>A6r hy
     |true=>
      by_cases hw:41<=numV (fg (y::r2))
      ·have ep:=λn=>ck2 (n:=n+6) (f:=45) (a:=b45.take 4) (b:=b45.drop 4) rfl (P4 n) (lq λq=>q _ (A0j a1 hc) _ rfl _ (A0f a2) _ (A6r hy) _ rfl _ (w_cnt0 T a2 hw)) rfl
       have el:=λn=>ck2 (n:=n+1) (f:=77) (a:=b77.take 4) (b:=b77.drop 4) rfl (L4 n) (lq λq=>q _ (slc (a1.cut 1)) _ hc _ (A8n (R.at a2) a2) _ (fg_lt _ hy) _ (slc (cutF a2)) (intB (R.at a2) hy) _ (A0k hw)) rfl
       exact .er _ a2.lt ep el
      ·exact tl (hi:=some (numV (fg (y::r2)))) (Ap (B1 lt1) (Ao _ _)) (λk e=>by cases e;exact hw) (λn=>lq λq=>q _ (A0j a1 hc) _ rfl _ (A0f a2) _ (A6r hy) _ rfl _ (w_cnt T a2 hw)) _ λn=>lq λq=>q _ (slc (a1.cut 1)) _ hc _ (A8n (R.at a2) a2) _ (fg_lt _ hy) _ (slc (cutF a2)) (intB (R.at a2) hy) _ (A1k hw)
end
abbrev Sp:=List (Nat×Nat)
noncomputable def inB(p:Nat×Nat)(c:Nat):Bool:=Nat.ble p.1 c&&Nat.ble c p.2
noncomputable def mb:Sp->Nat->Bool
 |[],_=>false
 |p::r,c=>inB p c||mb r c
def Can:Nat->Sp->Prop
 |_,[]=>True
 |a,p::r=>a<=p.1/\p.1<=p.2/\p.2<=127/\Can (p.2+2) r
theorem in_t{p:Nat×Nat}{c:Nat}(h:p.1<=c)(k:c<=p.2):inB p c=true:=by unfold inB;rw[A0k h,A0k k];rfl
theorem A9k{p:Nat×Nat}{c:Nat}(h:c<p.1):inB p c=false:=by unfold inB;rw[A1k (B9 h)];rfl
theorem A6a{p:Nat×Nat}{c:Nat}(h:p.2<c):inB p c=false:=by unfold inB;rw[A1k (B9 h),Cj]
theorem Can.up{a b:Nat}{l:Sp}(h:Can a l)(k:b<=a):Can b l:=by
 cases l with
 |nil=>trivial
 |cons p r=>exact⟨Aa k h.1,h.2⟩
theorem Can.lo{c:Nat}:∀{l:Sp} {a:Nat},Can a l->c<a->mb l c=false:=by
 intro l
 induction l with
 |nil=>exact λ_ _=>rfl
 |cons p r ih=>
  intro a h k
  have k1:=Ap k h.1
  rw[mb,A9k k1,ih h.2.2.2 (Ap k1 (Aa h.2.1 (Ao _ 2)))];rfl
theorem Can.head{a c:Nat}{p:Nat×Nat}{r:Sp}(h:Can a (p::r))(k:c<=p.2+1):mb (p::r) c=inB p c:=by rw[mb,h.2.2.2.lo (Bz k),Ce]
theorem B2l{a b:Nat}{p q:Nat×Nat}{r r':Sp}(h:Can a (p::r))(h':Can b (q::r'))(e:∀c,mb (p::r) c=mb (q::r') c):q.1<=p.1:=by
 refine Ca λz=> ?_
 have e:=e p.1
 rw[h.head (Az h.2.1),in_t (Ac _) h.2.1,Can.lo (l:=q::r') (a:=q.1) ⟨Ac _,h'.2⟩ z] at e
 cases e
theorem B7h{a b:Nat}{p q:Nat×Nat}{r r':Sp}(h:Can a (p::r))(h':Can b (q::r'))(e:∀c,mb (p::r) c=mb (q::r') c)(e1:p.1=q.1):q.2<=p.2:=by
 refine Ca λz=> ?_
 have e:=e (p.2+1)
 rw[h.head (Ac _),A6a (Ax _),h'.head (Az z),in_t (e1▸Az h.2.1) z] at e
 cases e
theorem B2w:∀{l l':Sp} {a b:Nat},Can a l->Can b l'->(∀c,mb l c=mb l' c)->l=l':=by
 intro l
 induction l with
 |nil=>
  intro l' a b _ h' e
  cases l' with
  |nil=>rfl
  |cons q r'=>
   have e:=e q.1
   rw[h'.head (Az h'.2.1),in_t (Ac _) h'.2.1] at e
   cases e
 |cons p r ih=>
  intro l' a b h h' e
  cases l' with
  |nil=>
   have e:=e p.1
   rw[h.head (Az h.2.1),in_t (Ac _) h.2.1] at e
   cases e
  |cons q r'=>
   have e1:=Nat.le_antisymm (B2l h' h λc=>(e c).symm) (B2l h h' e)
   have e2:=Nat.le_antisymm (B7h h' h (λc=>(e c).symm) e1.symm) (B7h h h' e e1)
   cases(Prod.ext e1 e2:p=q)
   refine congrArg _ (ih h.2.2.2 h'.2.2.2 λc=> ?_)
   rcases Nat.lt_or_ge c (p.2+2) with k | k
   ·rw[h.2.2.2.lo k,h'.2.2.2.lo k]
   ·have e:=e c
    rw[mb,mb,A6a (Nat.lt_of_succ_lt k)] at e
    exact e
noncomputable def mg(x y:Nat):Sp->Sp
 |[]=> [(x,y)]
 |p::r=>(match Nat.ble p.1 (y+1) with | true=>(match Nat.ble (y+1) p.2 with | true=>mg x p.2 r | false=>mg x y r) | false=>(x,y)::mg p.1 p.2 r)
def Low(a:Nat)(l:Sp):Prop:=∀p∈l,a<=p.1
def Srt:Sp->Prop
 |[]=>True
 |p::r=>Low p.1 r/\Srt r
def Ok(l:Sp):Prop:=∀p∈l,p.1<=p.2/\p.2<=127
theorem in_two{x y c:Nat}{p:Nat×Nat}{z:Nat}(h:∀d,(inB (x,y) d||inB p d)=inB (x,z) d)(r:Sp):mb ((x,z)::r) c=mb ((x,y)::p::r) c:=by
 rw[mb,mb,mb,←h c,Bool.or_assoc]
theorem mg_ok:∀{r:Sp} {x y:Nat},x<=y->y<=127->Low x r->Srt r->Ok r->Can x (mg x y r)/\∀c,mb (mg x y r) c=mb ((x,y)::r) c:=by
 intro r
 induction r with
 |nil=>exact λh k _ _ _=>⟨⟨Ac _,h,k,trivial⟩,λ_=>rfl⟩
 |cons p r ih=>
  intro x y h k lo so ok
  have o:=ok p (.head _)
  have lp:=lo p (.head _)
  have lo':Low x r:=λq m=>lo q (.tail _ m)
  have ok':Ok r:=λq m=>ok q (.tail _ m)
  rw[mg]
  cases b:Nat.ble p.1 (y+1) with
  |false=>
   have g:y+2<=p.1:=Nat.lt_of_not_le λz=>A5 (b▸A0k z)
   have i:=ih o.1 o.2 so.1 so.2 ok'
   exact⟨⟨Ac _,h,k,i.1.up g⟩,λc=>by rw[mb,i.2];rfl⟩
  |true=>
   have g:=nbl b
   cases b2:Nat.ble (y+1) p.2 with
   |true=>
    have g2:=nbl b2
    have i:=ih (Aa h (Bl g2)) o.2 lo' so.2 ok'
    refine⟨i.1,λc=>(i.2 c).trans (in_two (λd=> ?_) r)⟩
    rcases Nat.lt_or_ge d x with z | z
    ·rw[A9k (p:=(x,y)) z,A9k (p:=(x,p.2)) z,A9k (Ap z lp)];rfl
    ·rcases Nat.lt_or_ge y d with w | w
     ·rw[A6a (p:=(x,y)) w]
      rcases Nat.lt_or_ge p.2 d with v | v
      ·rw[A6a v,A6a (p:=(x,p.2)) v];rfl
      ·rw[in_t (Aa g w) v,in_t (p:=(x,p.2)) z v];rfl
     ·rw[in_t (p:=(x,y)) z w,in_t (p:=(x,p.2)) z (Aa w (Bl g2))];rfl
   |false=>
    have g2:p.2<=y:=Bw (Nat.lt_of_not_le λz=>A5 (b2▸A0k z))
    have i:=ih h k lo' so.2 ok'
    refine⟨i.1,λc=>(i.2 c).trans (in_two (λd=> ?_) r)⟩
    cases e:inB p d with
    |false=>exact Ce _
    |true=>
     have e:=Aq.mp e
     rw[in_t (p:=(x,y)) (Aa lp (nbl e.1)) (Aa (nbl e.2) g2)];rfl
noncomputable def cpl(b:Nat):Sp->Sp
 |[]=>(match Nat.ble b 127 with | true=> [(b,127)] | false=> [])
 |p::r=>(match Nat.ble (b+1) p.1 with | true=>(b,p.1-1)::cpl (p.2+1) r | false=>cpl (p.2+1) r)
theorem cpl_ok:∀{l:Sp} {b:Nat},Can b l->Can b (cpl b l)/\∀c,mb (cpl b l) c=(inB (b,127) c&& !mb l c):=by
 intro l
 induction l with
 |nil=>
  intro b _
  rw[cpl]
  cases q:Nat.ble b 127 with
  |true=>exact⟨⟨Ac _,nbl q,Ac _,trivial⟩,λc=>by show(inB (b,127) c||false)=(inB (b,127) c&&true);rw[Ce,Bool.and_true]⟩
  |false=>exact⟨trivial,λc=>by
    cases e:inB (b,127) c with
    |false=>rfl
    |true=>
     have e:=Aq.mp e
     exact absurd (A0k (Aa (nbl e.1) (nbl e.2))) (λz=>A5 (q▸z))⟩
 |cons p r ih=>
  intro b h
  have i:=ih (h.2.2.2.up (A9 (p.2+1)))
  have le:b<=p.2+1:=Az (Aa h.1 h.2.1)
  have key:∀c,p.1<=c->mb (cpl (p.2+1) r) c=(inB (b,127) c&& !mb (p::r) c):=λc hc=>by
   rw[i.2,mb]
   rcases Nat.lt_or_ge p.2 c with z | z
   ·rw[A6a z]
    exact congrArg (· && !mb r c) (by unfold inB;rw[A0k z,A0k (Aa h.1 hc)])
   ·rw[in_t hc z,A9k (p:=(p.2+1,127)) (Bz z),Bool.true_or];exact(Cj _).symm
  have low:∀c,c<p.1->mb (cpl (p.2+1) r) c=false/\(inB (b,127) c&& !mb (p::r) c)=Nat.ble b c:=λc hc=>by
   have c1:c<p.2+1:=Bz (Aa (Ak hc) h.2.1)
   refine⟨i.1.lo c1,?_⟩
   rw[mb,A9k hc,h.2.2.2.lo (B1 c1),Ce,Bool.not_false,Bool.and_true]
   unfold inB
   rw[A0k (Aa (Bw c1) h.2.2.1),Bool.and_true]
  rw[cpl]
  cases q:Nat.ble (b+1) p.1 with
  |true=>
   have g:=nbl q
   have g1:p.1-1+1=p.1:=Cw (Aa (Ah (Ag b)) g)
   refine⟨⟨Ac _,Nat.le_of_succ_le_succ (g1.symm▸g),Aa (Nat.sub_le _ _) (Aa h.2.1 h.2.2.1),i.1.up (Ah (g1.symm▸h.2.1))⟩,λc=> ?_⟩
   rw[mb]
   rcases Nat.lt_or_ge c p.1 with z | z
   ·rw[(low c z).1,(low c z).2,Ce]
    show(Nat.ble b c&&Nat.ble c (p.1-1))=_
    rw[A0k (show c<=p.1-1 from Bw (show c<p.1-1+1 from g1.symm▸z)),Bool.and_true]
   ·rw[A6a (p:=(b,p.1-1)) (g1.symm▸z:p.1-1<c),key c z];rfl
  |false=>
   refine⟨i.1.up le,λc=> ?_⟩
   rcases Nat.lt_or_ge c p.1 with z | z
   ·rw[(low c z).1,(low c z).2,A1k (B9 (Ap z (Ca λw=>A5 (q▸A0k w))))]
   ·exact key c z
noncomputable def lch(x y:Nat):List Nat->Sp
 |[]=> [(x,y)]
 |c::r=>(match Nat.beq (y+1) c with | true=>lch x c r | false=>(x,y)::lch c c r)
theorem lch_ok:∀{r:List Nat} {x y:Nat},x<=y->(∀c∈y::r,c<=127)->(y::r).Pairwise (· < ·)->Can x (lch x y r)/\∀c,mb (lch x y r) c=(inB (x,y) c||r.contains c):=by
 intro r
 induction r with
 |nil=>exact λh k _=>⟨⟨Ac _,h,k _ (.head _),trivial⟩,λ_=>rfl⟩
 |cons a r ih=>
  intro x y h k s
  have s:=List.pairwise_cons.mp s
  have ya:=s.1 a (.head _)
  have k':∀c∈a::r,c<=127:=λc m=>k c (.tail _ m)
  rw[lch]
  cases b:Nat.beq (y+1) a with
  |true=>
   cases An b
   have i:=ih (Az h) k' s.2
   refine⟨i.1,λc=> ?_⟩
   rw[i.2,Br,←Bool.or_assoc]
   refine congrArg (· ||r.contains c) ?_
   rcases Nat.lt_or_ge y c with z | z
   ·rw[A6a (p:=(x,y)) z]
    rcases Nat.lt_or_ge (y+1) c with w | w
    ·rw[A6a (p:=(x,y+1)) w,beq_false_of_ne (Nat.ne_of_gt w)];rfl
    ·cases Nat.le_antisymm w z
     rw[in_t (p:=(x,y+1)) (Az h) (Ac _),beq_self_eq_true];rfl
   ·rw[beq_false_of_ne (B8 (Bz z)),Ce]
    unfold inB
    rw[A0k z,A0k (Az z)]
  |false=>
   have i:=ih (Ac a) k' s.2
   have g:y+2<=a:=Nat.lt_of_le_of_ne ya λz=>A5 (b▸z▸Nat.beq_refl (y+1))
   refine⟨⟨Ac _,h,k _ (.head _),i.1.up g⟩,λc=> ?_⟩
   rw[mb,i.2,Br]
   refine congrArg (λz=>inB (x,y) c|| (z||r.contains c)) ?_
   rcases Nat.lt_trichotomy c a with z | z | z
   ·rw[A9k (p:=(a,a)) z,beq_false_of_ne (B8 z)]
   ·rw[z,in_t (p:=(a,a)) (Ac _) (Ac _),beq_self_eq_true]
   ·rw[A6a (p:=(a,a)) z,beq_false_of_ne (Nat.ne_of_gt z)]
noncomputable def lchs:List Nat->Sp
 |[]=> []
 |c::r=>lch c c r
theorem row_is{l:Sp}{a:Nat}{f:Nat->Bool}(h:Can a l)(e:∀c,mb l c=(Nat.ble c 127&&f c)):lchs ((List.range 128).filter f)=l:=by
 have m:∀c,((List.range 128).filter f).contains c=(Nat.ble c 127&&f c):=λc=>by
  cases q:(Nat.ble c 127&&f c) with
  |true=>
   have q:=Aq.mp q
   exact A4.mpr (List.mem_filter.mpr ⟨B3.mpr (Bz (nbl q.1)),q.2⟩)
  |false=>
   exact Bn.mpr λz=>by
    have z:=List.mem_filter.mp (A4.mp z)
    rw[A0k (Bw (B3.mp z.1)),z.2] at q
    cases q
 have s:((List.range 128).filter f).Pairwise (· < ·):=List.pairwise_lt_range.filter f
 have u:∀c∈(List.range 128).filter f,c<=127:=λc z=>Bw (B3.mp (List.mem_filter.mp z).1)
 revert m s u
 generalize(List.range 128).filter f=cs
 intro m s u
 cases cs with
 |nil=>exact B2w (a:=0) trivial h λc=>(m c).trans (e c).symm
 |cons c r=>
  have i:=lch_ok (Ac c) u s
  refine B2w i.1 h λd=> ?_
  rw[show mb (lchs (c::r)) d=_ from i.2 d,e,←m,Br]
  refine congrArg (· ||r.contains d) ?_
  rcases Nat.lt_trichotomy d c with z | z | z
  ·rw[A9k (p:=(c,c)) z,beq_false_of_ne (B8 z)]
  ·rw[z,in_t (p:=(c,c)) (Ac _) (Ac _),beq_self_eq_true]
  ·rw[A6a (p:=(c,c)) z,beq_false_of_ne (Nat.ne_of_gt z)]
noncomputable def cmB:Cm->List Cm
 |.loop _ _ _ b=>b
 |.whl _ b=>b
 |_=> []
noncomputable def cmC:Cm->Ex
 |.whl c _=>c
 |_=>.lit .none
noncomputable abbrev stm(b:List Cm)(i:Nat):Cm:=b.getD i .abort
noncomputable abbrev tupF(n:Nat)(o oi:Ob)(i j:Nat)(b:List Cm):AVal->Lo->Ht->Ro:=λx ρ h=>(asgO (.p x) [i,j] ρ h).sq fun ρ2 h3=>runL n o oi b ρ2 h3
noncomputable def eI(p:Nat×Nat):Int×Int:=(Int.ofNat p.1,Int.ofNat p.2)
theorem le_t{a b:Nat×Nat}(h:A1b (eI a) (eI b)=true):a.1<=b.1:=by
 unfold A1b at h
 rcases Bool.or_eq_true_iff.mp h with h | h
 ·exact Ak (Int.ofNat_lt.mp (Ba h))
 ·exact Aj (Int.ofNat.inj (Ba (Aq.mp h).1))
structure Ord(l l':Sp):Prop where
 s:Srt l'
 m:∀x,x∈l'↔x∈l
 n:l'.length=l.length
theorem srt_of{l:Sp}(h:l.Pairwise λa b=>A1b (eI a) (eI b)=true):Srt l:=h.rec trivial λa _ ih=>⟨λp m=>le_t (a p m),ih⟩
theorem sort_ok(l:Sp):∃l',A6n (l.map eI)=l'.map eI/\Ord l l':=
 ⟨l.mergeSort λa b=>A1b (eI a) (eI b),(List.map_mergeSort (r:=λa b=>A1b (eI a) (eI b)) (s:=A1b) (f:=eI) λ_ _ _ _=>rfl).symm,srt_of (List.pairwise_mergeSort (le:=λa b=>A1b (eI a) (eI b)) (λ_ _ _=>pl_tr) (λ_ _=>pl_to) l),λ_=>(List.mergeSort_perm ..).mem_iff,(List.mergeSort_perm ..).length_eq⟩
theorem B2c{c:Nat}:∀{l:Sp},mb l c=true↔∃p,p∈l/\inB p c=true:=by
 intro l
 induction l with
 |nil=>exact⟨λh=>(nomatch h),λh=>h.elim λ_ h=>absurd h.1 Cn⟩
 |cons p l ih=>
  rw[mb,Bool.or_eq_true_iff,ih]
  refine⟨λh=>h.elim (λh=>⟨p,.head _,h⟩) λh=>h.elim λq h=>⟨q,.tail _ h.1,h.2⟩,λh=>h.elim λq h=> ?_⟩
  cases h.1 with
  |head=>exact .inl h.2
  |tail _ m=>exact .inr ⟨q,m,h.2⟩
theorem Ord.mb{l l':Sp}(o:Ord l l')(c:Nat):Mine.mb l' c=Mine.mb l c:=Bool.eq_iff_iff.mpr (B2c.trans (Iff.trans (exists_congr λp=>and_congr_left' (o.m p)) B2c.symm))
theorem pairs_at:∀(l:Sp),pairs? (l.map spN)=some (l.map eI):=by
 intro l
 induction l with
 |nil=>rfl
 |cons p l ih=>show(pairs? (l.map spN)).map _=_;rw[ih];rfl
theorem max0{a:Nat}{h:Ht}:(Rs.ok (.p (.int (max (Int.ofNat a) 0))) h:Rs V)=.ok (pi a) h:=congrArg (λi=>Rs.ok (V.p (.int i)) h) (Int.max_eq_left (By a))
theorem min127{a:Nat}{h:Ht}(k:a<=127):(Rs.ok (.p (.int (min (Int.ofNat a) 127))) h:Rs V)=.ok (pi a) h:=congrArg (λi=>Rs.ok (V.p (.int i)) h) (Int.min_eq_left (B7.mpr k))
theorem A2i{α β:Type}{f:α->β}{a:List α}{p:α}:atI ((a++[p]).map f) (-1)=some (f p):=by
 show(match Nat.ble (0+1) ((a++[p]).map f).length with | true=>_ | false=>_)=_
 rw[Aw,Ae,A0k (show 0+1<=a.length+[p].length from Bb 1 a.length)]
 show((a++[p]).map f)[a.length+1- (0+1)]?=_
 rw[Cp,Nat.add_sub_cancel,List.getElem?_append_right (Aj (Aw ..)),Aw,Nat.sub_self];rfl
theorem ix_at{α β:Type}{f:α->β}{a:List α}{p:α}:ix ((a++[p]).map f).length (-1)=some a.length:=by
 show(match Nat.ble (0+1) ((a++[p]).map f).length with | true=>_ | false=>_)=_
 rw[Aw,Ae,A0k (show 0+1<=a.length+[p].length from Bb 1 a.length)];rfl
theorem B6c{α β:Type}{f:α->β}{a:List α}{p q:α}:((a++[p]).map f).set a.length (f q)=(a++[q]).map f:=by
 rw[Cp,Cp,List.set_append_right _ _ (Aj (Aw ..)),Aw,Nat.sub_self];rfl
theorem B6s{α β:Type}{f:α->β}{a:List α}{p:α}:(!((a++[p]).map f).isEmpty)=true:=by cases a <;> rfl
theorem A0y{α β:Type}{f:α->β}{a:List α}{p:α}:a.map f++[f p]=(a++[p]).map f:=(Cp (l₂:=[p])).symm
theorem nx2{ρ:Lo}{A B:Cl}{x y:List AVal}(e:x=y):Ro.next ρ [A,B,.lst x]=.next ρ [A,B,.lst y]:=e▸rfl
theorem apB{α β:Type}{f:α->β}{a:List α}(h:a.length+1<=big):Nat.ble ((a.map f).length+1) big=true:=by rw[Aw];exact A0k h
section
variable{n:Nat}
theorem kept_for{A:List AVal}:∀{l k:Sp} {f2 f3 f4 f5:Option V},Ok l->k.length+l.length<=big->∃g2 g3 g4 g5,
  loR (tupF (n+1) (cR (n+1)) (A0b (n+1)).2 2 3 (cmB (stm b18 1))) (A2l (.ref 0) A) (l.map spN) [some (.ref 0),some (.ref 1),f2,f3,f4,f5,none] [.lst A,.lst (k.map spN)]=.next [some (.ref 0),some (.ref 1),g2,g3,g4,g5,none] [.lst A,.lst ((k++l).map spN)]:=by
 intro l
 induction l with
 |nil=>exact λ{k f2 f3 f4 f5} _ _=>⟨f2,f3,f4,f5,by rw[A6];exact lo_nil rfl⟩
 |cons p l ih=>
  intro k f2 f3 f4 f5 o hb
  have op:=o p (.head _)
  have hb':(k++[p]).length+l.length<=big:=by rw[Ae];exact(Cr k.length l.length).symm▸hb
  obtain⟨g2,g3,g4,g5,e⟩:=ih (k:=k++[p]) (f2:=some (pi p.1)) (f3:=some (pi p.2)) (f4:=some (pi p.1)) (f5:=some (pi p.2)) (λq m=>o q (.tail _ m)) hb'
  rw[Ai] at e
  exact⟨g2,g3,g4,g5,A5z rfl (lq λq=>q _ max0 _ (min127 op.2) _ (A0k op.1) (apB (Aa (Au (Ah (Ag _)) _) hb))) (A0y (f:=spN)▸e)⟩
theorem mrg_for{A K:List AVal}:∀{l a:Sp} {x y:Nat} {f2 f3 f4 f5:Option V},a.length+1+l.length<=big->∃g4 g5,
  loT (tupF (n+1) (cR (n+1)) (A0b (n+1)).2 4 5 (cmB (stm b18 3))) (l.map spN) [some (.ref 0),some (.ref 1),f2,f3,f4,f5,some (.ref 2)] [.lst A,.lst K,.lst ((a++[(x,y)]).map spN)]=.next [some (.ref 0),some (.ref 1),f2,f3,g4,g5,some (.ref 2)] [.lst A,.lst K,.lst ((a++mg x y l).map spN)]:=by
 intro l
 induction l with
 |nil=>exact λ{a x y f2 f3 f4 f5} _=>⟨f4,f5,A0v⟩
 |cons p l ih=>
  intro a x y f2 f3 f4 f5 hb
  have hb':a.length+1+l.length<=big:=Bl hb
  rw[mg]
  cases b:Nat.ble p.1 (y+1) with
  |false=>
   obtain⟨g4,g5,e⟩:=ih (a:=a++[(x,y)]) (x:=p.1) (y:=p.2) (f2:=f2) (f3:=f3) (f4:=some (pi p.1)) (f5:=some (pi p.2)) (by rw[Ae];exact(Cr (a.length+1) l.length).symm▸hb)
   rw[Ai a [(x,y)] (mg p.1 p.2 l)] at e
   exact⟨g4,g5,A6e (lq λq=>q _ B6s _ A2i _ rfl _ b (apB (by rw[Ae];exact Aa (Au (Ah (Ag _)) _) hb))) (nx2 (A0y (p:=p))) e⟩
  |true=>
   cases b2:Nat.ble (y+1) p.2 with
   |true=>
    obtain⟨g4,g5,e⟩:=ih (a:=a) (x:=x) (y:=p.2) (f2:=f2) (f3:=f3) (f4:=some (pi p.1)) (f5:=some (pi p.2)) hb'
    exact⟨g4,g5,A6e (lq λq=>q _ B6s _ A2i _ rfl _ b _ A2i _ rfl _ b2 _ A2i _ rfl _ ix_at) (nx2 (B6c (q:=(x,p.2)))) e⟩
   |false=>
    obtain⟨g4,g5,e⟩:=ih (a:=a) (x:=x) (y:=y) (f2:=f2) (f3:=f3) (f4:=some (pi p.1)) (f5:=some (pi p.2)) hb'
    exact⟨g4,g5,A1a (lq λq=>q _ B6s _ A2i _ rfl _ b _ A2i _ rfl _ b2) e⟩
end
section
variable{n:Nat}
theorem A3f{v:AVal}:cR (n+1) 14 [.obj 4 0,.p v] [.dct [] []]=.ok (.p .none) [.dct [14] [.p v]]:=ck λq=>q
noncomputable def mgs:Sp->Sp
 |[]=> []
 |p::r=>mg p.1 p.2 r
theorem B6b{l l':Sp}(e:A6n (l.map eI)=l'.map eI):(A6n (l.map eI)).map A4q=l'.map spN:=by rw[e,List.map_map];rfl
theorem mgs_for{A K:List AVal}{l:Sp}(hb:l.length+1<=big)(a2 a3 a4 a5:Option V):∃b4 b5:Option V,loT (tupF (n+1) (cR (n+1)) (A0b (n+1)).2 4 5 (cmB (stm b18 3))) (l.map spN) [some (.ref 0),some (.ref 1),a2,a3,a4,a5,some (.ref 2)] [.lst A,.lst K,.lst []]=.next [some (.ref 0),some (.ref 1),a2,a3,b4,b5,some (.ref 2)] [.lst A,.lst K,.lst ((mgs l).map spN)]:=by
 cases l with
 |nil=>exact⟨a4,a5,A0v⟩
 |cons p r=>
  obtain⟨g4,g5,e⟩:=mrg_for (n:=n) (A:=A) (K:=K) (l:=r) (a:=[]) (x:=p.1) (y:=p.2) (f2:=a2) (f3:=a3) (f4:=some (pi p.1)) (f5:=some (pi p.2)) (Aa (Aj (Bg (0+1) _)) (Bl hb))
  exact⟨g4,g5,A1a (lq λq=>q _ rfl _ rfl rfl) e⟩
inductive Made(l:Sp):Prop
 |mk (L:Sp) (c:Can 0 L) (m:∀c,mb L c=mb l c) (w:∀n,cR (n+3) 18 [.ref 0] [.lst (l.map spN)]=.ok (.p (csV L)) [.lst (l.map spN)])
theorem made{l:Sp}(o:Ok l)(hb:l.length+1<=big):Made l:=by
 obtain⟨l',e,O⟩:=sort_ok l
 have hb':l'.length+1<=big:=O.n▸hb
 refine⟨mgs l',?_,λc=> ?_,λn=> ?_⟩
 ·cases l' with
  |nil=>trivial
  |cons p r=>
   have op:=o p ((O.m p).mp (.head _))
   exact(mg_ok op.1 op.2 O.s.1 O.s.2 λq m=>o q ((O.m q).mp (.tail _ m))).1.up (Ag _)
 ·rw[←O.mb c]
  cases l' with
  |nil=>rfl
  |cons p r=>
   have op:=o p ((O.m p).mp (.head _))
   exact(mg_ok op.1 op.2 O.s.1 O.s.2 λq m=>o q ((O.m q).mp (.tail _ m))).2 c
 ·obtain⟨f2,f3,f4,f5,e1⟩:=kept_for (n:=n+1) (A:=l.map spN) (l:=l) (k:=[]) (f2:=none) (f3:=none) (f4:=none) (f5:=none) o (Aa (Aj (Bc _)) (Bl hb))
  obtain⟨b4,b5,e2⟩:=mgs_for (n:=n+1) (A:=l.map spN) (K:=l.map spN) hb' f2 f3 f4 f5
  rw[←B6b e] at e2
  exact ck λq=>q _ e1 _ (pairs_at l) _ e2 _ (A3f (n:=n))
theorem B4t{c:Nat}(h:c<=127):cR (n+3) 18 [.p (.lst [spN (c,c)])] []=.ok (.p (csV [(c,c)])) []:=by
 have e1:loT (tupF (n+2) (cR (n+2)) (A0b (n+2)).2 2 3 (cmB (stm b18 1))) [spN (c,c)] [some (.p (.lst [spN (c,c)])),some (.ref 0),none,none,none,none,none] [.lst []]=.next [some (.p (.lst [spN (c,c)])),some (.ref 0),some (pi c),some (pi c),some (pi c),some (pi c),none] [.lst [spN (c,c)]]:=
  A1a (lq λq=>q _ max0 _ (min127 h) _ (A0k (Ac c)) rfl) A0v
 have e2:∀z,z=[spN (c,c)]->loT (tupF (n+2) (cR (n+2)) (A0b (n+2)).2 4 5 (cmB (stm b18 3))) z [some (.p (.lst [spN (c,c)])),some (.ref 0),some (pi c),some (pi c),some (pi c),some (pi c),some (.ref 1)] [.lst [spN (c,c)],.lst []]=.next [some (.p (.lst [spN (c,c)])),some (.ref 0),some (pi c),some (pi c),some (pi c),some (pi c),some (.ref 1)] [.lst [spN (c,c)],.lst [spN (c,c)]]:=
  by
   intro z hz
   rw[hz]
   exact A1a (lq λq=>q _ rfl _ rfl rfl) A0v
 have es:(A6n [(Int.ofNat c,Int.ofNat c)]).map A4q=[spN (c,c)]:=congrArg (List.map A4q) (List.mergeSort_singleton _)
 exact ck λq=>q _ e1 _ rfl _ (e2 _ es) _ (A3f (n:=n))
theorem w_of{c:Nat}(h:c<=127):cR (n+4) 16 [ps [c]] []=.ok (.p (csV [(c,c)])) []:=ck λq=>q rfl _ (co_go trivial rfl (xq λq=>q) (B8u trivial)) _ (B4t h)
theorem B4n{c:Nat}(h:c<=127):cR (n+4) 17 [pi c,pi c] []=.ok (.p (csV [(c,c)])) []:=ck λq=>q _ (B4t h)
theorem w_dot:cR (n+3) 15 [] []=.ok (.p (csV [(0,9),(11,127)])) []:=ck λq=>q _ (A3f (n:=n))
theorem sub1{k:Nat}(h:1<=k):Int.ofNat k-1=Int.ofNat (k-1):=by
 cases k with
 |zero=>cases h
 |succ k=>exact Int.add_sub_cancel (k:Int) 1
theorem cpl_for{S:V}:∀{l a:Sp} {b:Nat} {f3 f4:Option V},a.length+l.length+1<=big->∃b' X g3 g4,cpl b l=X++cpl b' []/\a.length+X.length+1<=big/\
  loT (tupF (n+1) (cR (n+1)) (A0b (n+1)).2 3 4 (cmB (stm b20 2))) (l.map spN) [some S,some (.ref 0),some (pi b),f3,f4] [.lst (a.map spN)]=.next [some S,some (.ref 0),some (pi b'),g3,g4] [.lst ((a++X).map spN)]:=by
 intro l
 induction l with
 |nil=>exact λ{a b f3 f4} hb=>⟨b,[],f3,f4,rfl,hb,by rw[A6];exact A0v⟩
 |cons p l ih=>
  intro a b f3 f4 hb
  rw[cpl]
  cases q:Nat.ble (b+1) p.1 with
  |false=>
   obtain⟨b',X,g3,g4,e1,e3,e2⟩:=ih (a:=a) (b:=p.2+1) (f3:=some (pi p.1)) (f4:=some (pi p.2)) (Bl hb)
   exact⟨b',X,g3,g4,e1,e3,A1a (lq λz=>z _ q) e2⟩
  |true=>
   have h1:1<=p.1:=Aa (Ah (Ag b)) (nbl q)
   obtain⟨b',X,g3,g4,e1,e3,e2⟩:=ih (a:=a++[(b,p.1-1)]) (b:=p.2+1) (f3:=some (pi p.1)) (f4:=some (pi p.2)) (by rw[Ae];exact(Cr a.length l.length).symm▸hb)
   rw[Ai] at e2
   rw[Ae] at e3
   have e3:a.length+(X.length+1)+1<=big:=(Bj a.length 1 X.length)▸e3
   have ea:a.map spN++[.tup [.int (Int.ofNat b),.int (Int.ofNat p.1-1)]]=(a++[(b,p.1-1)]).map spN:=by rw[sub1 h1];exact A0y (f:=spN) (p:=(b,p.1-1))
   exact⟨b',(b,p.1-1)::X,g3,g4,congrArg _ e1,e3,A6e (lq λz=>z _ q (apB (Aa (Ah (Aa (Ao _ _) (Ac _))) hb))) (congrArg (λx=>Ro.next _ [Cl.lst x]) ea) e2⟩
end
section
variable{n:Nat}
theorem w_compl{l:Sp}(hb:l.length+1<=big):cR (n+3) 20 [.p (csV l)] []=.ok (.p (csV (cpl 0 l))) []:=by
 obtain⟨b,X,g3,g4,e1,e3,e2⟩:=cpl_for (n:=n+1) (S:=.p (csV l)) (l:=l) (a:=[]) (b:=0) (f3:=none) (f4:=none) (Aa (Aj (congrArg (· +1) (Bc _))) hb)
 have e3:X.length+1<=big:=Bc X.length▸e3
 rw[e1,cpl]
 cases q:Nat.ble b 127 with
 |false=>
  rw[A6]
  exact ck λz=>z _ e2 _ q _ (A3f (n:=n))
 |true=>
  have h:cR (n+3) 20 [.p (csV l)] []=.ok (.p (.inst 4 [14] [.tup (X.map spN++[spN (b,127)])])) []:=ck λz=>z _ e2 _ q (apB e3) _ (A3f (n:=n))
  rw[h,A0y];rfl
theorem B4x{l:Sp}:cR (n+1) 19 [.p (csV l)] []=.ok (pb l.isEmpty) []:=by
 cases l with
 |nil=>exact ck λq=>q
 |cons=>exact ck λq=>q
noncomputable def chN(l:Sp):Tr:=match l with | []=>.never | _::_=>.chars l
theorem A3g{v:AVal}:cR (n+1) 24 [.obj 8 0,.p v] [.dct [] []]=.ok (.p .none) [.dct [17] [.p v]]:=ck λq=>q
theorem B1g{l:Sp}:cR (n+3) 34 [.p (csV l)] []=.ok (.p (A0d (chN l))) []:=by
 cases l with
 |nil=>exact ck λq=>q _ rfl _ B4x _ rfl
 |cons=>exact ck λq=>q _ rfl _ B4x _ rfl _ (A3g (n:=n))
noncomputable abbrev nV(c:Nat):AVal:=.int (Int.ofNat c)
theorem eq_sub{y c:Nat}(h:y<c):eqI (Int.ofNat y) (Int.ofNat c-1)=Nat.beq (y+1) c:=by
 cases c with
 |zero=>cases h
 |succ c=>rw[sub1 (Ah (Ag c))];rfl
theorem lch_for{S:V}:∀{r:List Nat} {a:Sp} {x y:Nat} {f:Option V},(y::r).Pairwise (· < ·)->a.length+1+r.length<=big->∃g,
  loT (A2w (n+1) (cR (n+1)) (A0b (n+1)).2 2 (cmB (stm b69 1))) (r.map nV) [some S,some (.ref 0),f] [.lst ((a++[(x,y)]).map spN)]=.next [some S,some (.ref 0),g] [.lst ((a++lch x y r).map spN)]:=by
 intro r
 induction r with
 |nil=>exact λ{a x y f} _ _=>⟨f,A0v⟩
 |cons c r ih=>
  intro a x y f s hb
  have s:=List.pairwise_cons.mp s
  have he:=eq_sub (s.1 c (.head _))
  rw[lch]
  cases b:Nat.beq (y+1) c with
  |true=>
   obtain⟨g,e⟩:=ih (a:=a) (x:=x) (y:=c) (f:=some (.p (nV c))) s.2 (Bl hb)
   exact⟨g,A6e (lq λq=>q _ B6s _ A2i _ rfl _ (he.trans b) _ A2i _ rfl _ ix_at) (congrArg (λz=>Ro.next _ [Cl.lst z]) (B6c (f:=spN) (q:=(x,c)))) e⟩
  |false=>
   obtain⟨g,e⟩:=ih (a:=a++[(x,y)]) (x:=c) (y:=c) (f:=some (.p (nV c))) s.2 (by rw[Ae];exact(Cr (a.length+1) r.length).symm▸hb)
   rw[Ai a [(x,y)] (lch c c r)] at e
   exact⟨g,A6e (lq λq=>q _ B6s _ A2i _ rfl _ (he.trans b) (apB (by rw[Ae];exact Aa (Au (Ah (Ag _)) _) hb))) (congrArg (λz=>Ro.next _ [Cl.lst z]) (A0y (f:=spN) (p:=(c,c)))) e⟩
theorem w_lchars{cs:List Nat}(s:cs.Pairwise (· < ·))(hb:cs.length+1<=big):cR (n+2) 69 [.p (.lst (cs.map nV))] []=.ok (.p (A0c (chN (lchs cs)))) []:=by
 cases cs with
 |nil=>exact ck λq=>q _ A0v _ rfl
 |cons c r=>
  obtain⟨g,e⟩:=lch_for (n:=n) (S:=.p (.lst ((c::r).map nV))) (a:=[]) (x:=c) (y:=c) (f:=some (.p (nV c))) s (Aa (Aj (Bg (0+1) _)) (Bl hb))
  have hne:∃p l,lch c c r=p::l:=by
   have k:∀(r:List Nat) (x y:Nat),∃p l,lch x y r=p::l:=by
    intro r
    induction r with
    |nil=>exact λx y=>⟨_,_,rfl⟩
    |cons c r ih=>
     intro x y
     rw[lch]
     cases Nat.beq (y+1) c with
     |true=>exact ih x c
     |false=>exact⟨_,_,rfl⟩
   exact k r c c
  obtain⟨p,l,hl⟩:=hne
  rw[List.nil_append,hl] at e
  show _=Rs.ok (V.p (A0c (chN (lch c c r)))) []
  rw[hl]
  exact ck λq=>q _ (A1a (lq λq=>q _ rfl _ rfl rfl) e) _ rfl
end
noncomputable def exp(l:Sp):List Nat:=l.flatMap λp=>(List.range (p.2+1-p.1)).map (p.1+ ·)
noncomputable def clK:List (List Nat):=[[108,111,119,101,114],[117,112,112,101,114],[100,105,103,105,116],[97,108,112,104,97],[97,108,110,117,109],[115,112,97,99,101],[98,108,97,110,107],[112,117,110,99,116],[99,110,116,114,108],[120,100,105,103,105,116],[103,114,97,112,104],[112,114,105,110,116]]
noncomputable abbrev rgL(a b:Int):List AVal:=(A0t a b).map .int
noncomputable def clV:List AVal:=[.lst (rgL 97 123),.lst (rgL 65 91),.lst (rgL 48 58),.lst (rgL 65 91++rgL 97 123),.lst ((rgL 48 58++rgL 65 91)++rgL 97 123),.lst [.int 9,.int 10,.int 11,.int 12,.int 13,.int 32],.lst [.int 9,.int 32],
 .lst (((rgL 33 48++rgL 58 65)++rgL 91 97)++rgL 123 127),.lst (rgL 0 32++[.int 127]),.lst ((rgL 48 58++cut 0 6 (rgL 65 91))++cut 0 6 (rgL 97 123)),.lst (rgL 33 127),.lst (rgL 32 127)]
noncomputable def pcK:List (List Nat):=A9n.map (·.1)
noncomputable def pcV:List AVal:=A9n.map λx=>B6a x.2
noncomputable def okB(l:Sp):Bool:=l.all λp=>Nat.ble p.1 p.2&&Nat.ble p.2 127
theorem ok_of{l:Sp}(h:okB l=true):Ok l:=λp m=>⟨nbl (bL (Av.mp h p m)),nbl (bR (Av.mp h p m))⟩
inductive NmA(w:List Nat):Prop
 |no (c:dlk clK clV w=none) (d:dlk pcK pcV w=none):NmA w
 |at(sp:Sp) (p:dlk pcK pcV w=some (spsN sp)) (l:dlk clK clV w=some (.lst ((exp sp).map nV))) (o:okB sp=true) (b:Nat.ble sp.length 4=true):NmA w
theorem nm_mem{w:List Nat}(h:w∈clK):NmA w:=by
 rcases Bf.mp h with rfl | h
 ·exact .at [(97,122)] rfl (by kernel_rfl) rfl rfl
 rcases Bf.mp h with rfl | h
 ·exact .at [(65,90)] rfl (by kernel_rfl) rfl rfl
 rcases Bf.mp h with rfl | h
 ·exact .at [(48,57)] rfl (by kernel_rfl) rfl rfl
 rcases Bf.mp h with rfl | h
 ·exact .at [(65,90),(97,122)] rfl (by kernel_rfl) rfl rfl
 rcases Bf.mp h with rfl | h
 ·exact .at [(48,57),(65,90),(97,122)] rfl (by kernel_rfl) rfl rfl
 rcases Bf.mp h with rfl | h
 ·exact .at [(9,13),(32,32)] rfl (by kernel_rfl) rfl rfl
 rcases Bf.mp h with rfl | h
 ·exact .at [(9,9),(32,32)] rfl (by kernel_rfl) rfl rfl
 rcases Bf.mp h with rfl | h
 ·exact .at [(33,47),(58,64),(91,96),(123,126)] rfl (by kernel_rfl) rfl rfl
 rcases Bf.mp h with rfl | h
 ·exact .at [(0,31),(127,127)] rfl (by kernel_rfl) rfl rfl
 rcases Bf.mp h with rfl | h
 ·exact .at [(48,57),(65,70),(97,102)] rfl (by kernel_rfl) rfl rfl
 rcases Bf.mp h with rfl | h
 ·exact .at [(33,126)] rfl (by kernel_rfl) rfl rfl
 rcases Bf.mp h with rfl | h
 ·exact .at [(32,126)] rfl (by kernel_rfl) rfl rfl
 exact absurd h Cn
theorem dlk_no{x:List Nat}{ks:List (List Nat)}{xs:List AVal}(hl:ks.length=xs.length)(h:ks.contains x=false):dlk ks xs x=none:=Option.isNone_iff_eq_none.mp (by rw[←Option.not_isSome,←B2q hl,h];rfl)
theorem nm_all(w:List Nat):NmA w:=by
 cases h:clK.contains w with
 |true=>exact nm_mem (A4.mp h)
 |false=>
  refine .no (dlk_no rfl h) (dlk_no rfl (Bn.mpr λz=> ?_))
  have k:=Av.mp (by decide+kernel:pcK.all (λw=>clK.contains w)=true) w (A4.mp z)
  rw[h] at k;cases k
section
variable{n:Nat}
theorem ln_tail{w:List Nat}{A B C M:List AVal}(hA:A.length=26)(hB:B.length=26)(hC:C.length=10):runL n (cR n) (A0b n).2 (b68.drop 4) [some (ps w),some (.p (.lst A)),some (.p (.lst B)),some (.p (.lst C)),some (.p (.lst M))] []=
  .ret (.p ((dlk clK [.lst A,.lst B,.lst C,.lst (B++A),.lst ((C++B)++A),.lst [.int 9,.int 10,.int 11,.int 12,.int 13,.int 32],.lst [.int 9,.int 32],.lst M,.lst (rgL 0 32++[.int 127]),.lst ((C++cut 0 6 B)++cut 0 6 A),.lst (rgL 33 127),.lst (rgL 32 127)] w).getD .none)) []:=by
 have b1:Nat.ble (B.length+A.length) big=true:=by rw[hA,hB];rfl
 have b2:Nat.ble (C.length+B.length) big=true:=by rw[hC,hB];rfl
 have b3:Nat.ble ((C++B).length+A.length) big=true:=by rw[Ae,hC,hB,hA];rfl
 have b4:Nat.ble (C.length+(cut 0 6 B).length) big=true:=by rw[show(cut 0 6 B).length=6 from(Co).trans (by rw[hB];rfl),hC];rfl
 have b5:Nat.ble ((C++cut 0 6 B).length+(cut 0 6 A).length) big=true:=by rw[Ae,show(cut 0 6 B).length=6 from(Co).trans (by rw[hB];rfl),show(cut 0 6 A).length=6 from(Co).trans (by rw[hA];rfl),hC];rfl
 exact lq λq=>q b1 b2 b3 rfl (by kernel_rfl) _ rfl b4 _ rfl b5 rfl rfl _ rfl
theorem B1f{w:List Nat}:cR (n+1) 68 [ps w] []=.ok (.p ((dlk clK clV w).getD .none)) []:=
 ck2 (f:=68) (a:=b68.take 4) (b:=b68.drop 4) rfl (lq λq=>q rfl rfl rfl rfl rfl rfl rfl (by kernel_rfl) (by kernel_rfl) (by kernel_rfl)) (ln_tail (by kernel_rfl) (by kernel_rfl) (by kernel_rfl)) rfl
end
noncomputable def cmT:Cm->List Cm
 |.ite _ t _=>t
 |_=> []
noncomputable def cmE:Cm->List Cm
 |.ite _ _ f=>f
 |_=> []
section
variable{t s:List Nat}{n i j d:Nat}{D:AVal}{pat:Bool}
theorem B4s(T:TL t)(h:At t j (10::s)):cR (n+7) 54 [.obj 18 0] (rdH D pat t j d)=.exc (posV t (Int.ofNat j)):=ck λq=>q _ (A0m h) _ rfl T
theorem A4o{c:Nat}{r:Option (Nat×Nat)}(T:TL t)(h:At t j (c::s))(hc:Nat.beq c 10=false)(S:A7d c s r):cR (n+7) 54 [.obj 18 0] (rdH D pat t j d)=sP D pat t j d j r:=by
 cases r with
 |none=>exact ck λq=>q _ (A0m h) _ hc _ (S.P T h)
 |some v=>exact ck λq=>q _ (A0m h) _ hc _ (S.P T h)
noncomputable abbrev nVi(c:Nat):Int:=Int.ofNat c
noncomputable abbrev b73w:List Cm:=cmB (stm b73 5)
noncomputable abbrev lF(t:List Nat)(op j:Nat)(tu:Bool)(fp:Nat)(f6 f7 f8 f9 f10 f11 f12:Option V):Lo:=[some (ps t),some (pi op),some (pi j),some (pb tu),some (pi fp),some (.ref 0),f6,f7,f8,f9,f10,f11,f12]
theorem rgB{a b:Nat}(h:a<=127)(k:b<=127):decide (0<=Int.ofNat a/\Int.ofNat a<2^20/\0<=Int.ofNat b+1/\Int.ofNat b+1<2^20)=true:=
 A8 ⟨By a,Int.ofNat_lt.mpr (As h (by decide)),By (b+1),Int.ofNat_lt.mpr (As (Ah k) (by decide))⟩
inductive SpO(D:AVal)(pat:Bool)(t:List Nat)(j d op:Nat)(tu:Bool)(fp:Nat)(hh:Ht):Prop
 |er (e:Nat) (lt:e<t.length) (p:∀n,cR (n+8) 53 [.obj 18 0] (rdH D pat t j d)=.exc (posV t (Int.ofNat e)))
   (l:∀n f6 f7 f8 f9 f10 f11 f12,runL (n+7) (cR (n+7)) (A0b (n+7)).2 (cmE (stm b73w 1)) (lF t op j tu fp f6 f7 f8 f9 f10 f11 f12) hh=.ret (.p (.tup [.none,.int (Int.ofNat e)])) hh)
 |ok (lo hi k:Nat) (lt:j<k) (o1:lo<=hi) (o2:hi<=127) (p:∀n,cR (n+8) 53 [.obj 18 0] (rdH D pat t j d)=.ok (.p (spN (lo,hi))) (rdH D pat t k d))
   (l:∀n f6 f7 f8 f9 f10 f11 f12,∃g9 g10 g11,runL (n+7) (cR (n+7)) (A0b (n+7)).2 (cmE (stm b73w 1)) (lF t op j tu fp f6 f7 f8 f9 f10 f11 f12) hh=.next (lF t op j tu fp f6 (some (.p (.range (Int.ofNat lo) (Int.ofNat hi+1)))) (some (pi k)) g9 g10 g11 f12) hh)
theorem A7d.no{c:Nat}(S:A7d c s none)(h:At t j (c::s)):∃e,cR (n+6) 72 [ps t,pi j] []=.ok (.p (.tup [.int (-1),e])) []:=by
 cases S.L (n:=n) h with
 |no e h=>exact⟨e,h⟩
theorem A7d.yes{c:Nat}{v:Nat×Nat}(S:A7d c s (some v))(h:At t j (c::s)):cR (n+6) 72 [ps t,pi j] []=.ok (.p (.tup [nV v.1,nV (j+v.2)])) []:=by
 cases S.L (n:=n) h with
 |ok _ h=>exact h
theorem span_ex{op:Nat}{tu:Bool}{fp:Nat}{hh:Ht}{c:Nat}(T:TL t)(h:At t j (c::s)):SpO D pat t j d op tu fp hh:=by
 cases h10:Nat.beq c 10 with
 |true=>
  cases An h10
  exact .er j h.lt (λn=>ck λq=>q _ (B4s T h)) λn f6 f7 f8 f9 f10 f11 f12=>by
   obtain⟨r,S⟩:=A7n 10 s
   cases r with
   |none=>exact(S.no h).elim λe k=>lq λq=>q _ k _ rfl _ rfl
   |some v=>exact lq λq=>q _ (S.yes h) _ rfl _ h.c1.e _ rfl
 |false=>
  obtain⟨r,S⟩:=A7n c s
  cases r with
  |none=>exact .er j h.lt (λn=>ck λq=>q _ (A4o T h h10 S)) λn f6 f7 f8 f9 f10 f11 f12=>(S.no h).elim λe k=>lq λq=>q _ k _ rfl _ rfl
  |some v=>
   have k:=S.k v rfl
   have lt:j<j+v.2:=B5 k.1
   have a1:At t (j+v.2) (t.drop (j+v.2)):=rfl
   have one:=λ(eP:∀n,cR (n+8) 53 [.obj 18 0] (rdH D pat t j d)=.ok (.p (spN (v.1,v.1))) (rdH D pat t (j+v.2) d))
    (eL:∀n f6 f7 f8 f9 f10 f11 f12,∃g9 g10 g11,runL (n+7) (cR (n+7)) (A0b (n+7)).2 (cmE (stm b73w 1)) (lF t op j tu fp f6 f7 f8 f9 f10 f11 f12) hh=.next (lF t op j tu fp f6 (some (.p (.range (nVi v.1) (nVi v.1+1)))) (some (pi (j+v.2))) g9 g10 g11 f12) hh)=>
    (SpO.ok v.1 v.1 _ lt (Ac _) k.2 eP eL:SpO D pat t j d op tu fp hh)
   revert a1
   generalize t.drop (j+v.2)=r1
   intro a1
   cases r1 with
   |nil=>exact one (λn=>ck λq=>q _ (A4o T h h10 S) _ (A0f a1) _ rfl _ rfl) λn f6 f7 f8 f9 f10 f11 f12=>⟨_,_,_,lq λq=>q _ (S.yes h) _ rfl _ h.c1.e _ h10 _ (slc (a1.cut 1)) _ rfl _ rfl (rgB k.2 k.2)⟩
   |cons y r1=>
    cases hy:Nat.beq y 45 with
    |false=>exact one (λn=>ck λq=>q _ (A4o T h h10 S) _ (A0f a1) _ (congrArg not hy) _ rfl) λn f6 f7 f8 f9 f10 f11 f12=>⟨_,_,_,lq λq=>q _ (S.yes h) _ rfl _ h.c1.e _ h10 _ (slc (a1.cut 1)) _ hy _ rfl (rgB k.2 k.2)⟩
    |true=>
     have a2:=a1.c1.n
     cases r1 with
     |nil=>exact one (λn=>ck λq=>q _ (A4o T h h10 S) _ (A0f a1) _ (congrArg not hy) _ (A0p (k:=1) a1) _ rfl _ (A0p (k:=1) a1) _ rfl) λn f6 f7 f8 f9 f10 f11 f12=>⟨_,_,_,lq λq=>q _ (S.yes h) _ rfl _ h.c1.e _ h10 _ (slc (a1.cut 1)) _ hy _ (slc (a2.cut 1)) _ rfl (rgB k.2 k.2)⟩
     |cons x r2=>
      cases hx:Nat.beq x 93 with
      |true=>
       cases An hx
       exact one (λn=>ck λq=>q _ (A4o T h h10 S) _ (A0f a1) _ (congrArg not hy) _ (A0p (k:=1) a1) _ rfl _ rfl) λn f6 f7 f8 f9 f10 f11 f12=>⟨_,_,_,lq λq=>q _ (S.yes h) _ rfl _ h.c1.e _ h10 _ (slc (a1.cut 1)) _ hy _ (slc (a2.cut 1)) _ rfl (rgB k.2 k.2)⟩
      |false=>
       have nin:(!([[],[93]]:List (List Nat)).contains [x])=true:=by
        rw[Br,Br,beq_false_of_ne (a:=[x]) (b:=[93]) (λz=>by cases z;cases hx)];rfl
       cases hq:eqS ((x::r2).take 2) [91,58] with
       |true=>exact .er _ a2.lt (λn=>ck λq=>q _ (A4o T h h10 S) _ (A0f a1) _ (congrArg not hy) _ (A0p (k:=1) a1) _ hx _ (A0p (k:=1) a1) _ rfl _ (A0m a1) _ (A1g a2) _ hq T) λn f6 f7 f8 f9 f10 f11 f12=>lq λq=>q _ (S.yes h) _ rfl _ h.c1.e _ h10 _ (slc (a1.cut 1)) _ hy _ (slc (a2.cut 1)) _ nin _ (slc (a2.cut 2)) _ hq _ rfl
       |false=>
        cases hn:Nat.beq x 10 with
        |true=>
         cases An hn
         exact .er _ a2.lt (λn=>ck λq=>q _ (A4o T h h10 S) _ (A0f a1) _ (congrArg not hy) _ (A0p (k:=1) a1) _ hx _ (A0p (k:=1) a1) _ rfl _ (A0m a1) _ (A1g a2) _ hq _ (B4s T a2)) λn f6 f7 f8 f9 f10 f11 f12=>lq λq=>q _ (S.yes h) _ rfl _ h.c1.e _ h10 _ (slc (a1.cut 1)) _ hy _ (slc (a2.cut 1)) _ nin _ (slc (a2.cut 2)) _ hq _ a2.c1.e _ rfl
        |false=>
         obtain⟨r,S2⟩:=A7n x r2
         cases r with
         |none=>exact .er _ a2.lt (λn=>ck λq=>q _ (A4o T h h10 S) _ (A0f a1) _ (congrArg not hy) _ (A0p (k:=1) a1) _ hx _ (A0p (k:=1) a1) _ rfl _ (A0m a1) _ (A1g a2) _ hq _ (A4o T a2 hn S2)) λn f6 f7 f8 f9 f10 f11 f12=>(S2.no a2).elim λe k2=>lq λq=>q _ (S.yes h) _ rfl _ h.c1.e _ h10 _ (slc (a1.cut 1)) _ hy _ (slc (a2.cut 1)) _ nin _ (slc (a2.cut 2)) _ hq _ a2.c1.e _ hn _ k2 _ rfl
         |some w=>
          have k2:=S2.k w rfl
          by_cases hl:w.1<v.1
          ·exact .er j h.lt (λn=>ck λq=>q _ (A4o T h h10 S) _ (A0f a1) _ (congrArg not hy) _ (A0p (k:=1) a1) _ hx _ (A0p (k:=1) a1) _ rfl _ (A0m a1) _ (A1g a2) _ hq _ (A4o T a2 hn S2) _ (A0k hl) T) λn f6 f7 f8 f9 f10 f11 f12=>lq λq=>q _ (S.yes h) _ rfl _ h.c1.e _ h10 _ (slc (a1.cut 1)) _ hy _ (slc (a2.cut 1)) _ nin _ (slc (a2.cut 2)) _ hq _ a2.c1.e _ hn _ (S2.yes a2) _ rfl _ (A0k hl)
          ·exact .ok v.1 w.1 (j+v.2+1+w.2) (Ap (B1 lt) (Ao _ _)) (Ca hl) k2.2 (λn=>ck λq=>q _ (A4o T h h10 S) _ (A0f a1) _ (congrArg not hy) _ (A0p (k:=1) a1) _ hx _ (A0p (k:=1) a1) _ rfl _ (A0m a1) _ (A1g a2) _ hq _ (A4o T a2 hn S2) _ (A1k hl)) λn f6 f7 f8 f9 f10 f11 f12=>⟨_,_,_,lq λq=>q _ (S.yes h) _ rfl _ h.c1.e _ h10 _ (slc (a1.cut 1)) _ hy _ (slc (a2.cut 1)) _ nin _ (slc (a2.cut 2)) _ hq _ a2.c1.e _ hn _ (S2.yes a2) _ rfl _ (A1k hl) (rgB k.2 k2.2)⟩
end
section
variable{t s:List Nat}{n i j d:Nat}{D:AVal}{pat:Bool}
theorem w_key{l:Sp}:cR (n+1) 21 [.p (csV l)] []=.ok (.p (spsN l)) []:=ck λq=>q
theorem B4q{w:List Nat}{l:Sp}(h:dlk pcK pcV w=some (spsN l)):cR (n+3) 22 [ps w] []=.ok (.p (csV l)) []:=by
 have e:(Rs.ok (.p ((dlk pcK pcV w).getD .none)) []:Rs V)=.ok (.p (spsN l)) []:=by rw[h];rfl
 exact ck λq=>q _ e _ rfl _ (A3f (n:=n))
theorem w_ncls0{w:List Nat}(h:dlk pcK pcV w=none):cR (n+3) 22 [ps w] []=.ok (.p .none) []:=by
 have e:(Rs.ok (.p ((dlk pcK pcV w).getD .none)) []:Rs V)=.ok (.p .none) []:=by rw[h];rfl
 exact ck λq=>q _ e _ rfl
theorem w_ln1{w:List Nat}{l:List AVal}(h:dlk clK clV w=some (.lst l)):cR (n+1) 68 [ps w] []=.ok (.p (.lst l)) []:=B1f.trans (by rw[h];rfl)
theorem w_ln0{w:List Nat}(h:dlk clK clV w=none):cR (n+1) 68 [ps w] []=.ok (.p .none) []:=B1f.trans (by rw[h];rfl)
noncomputable def hdF(w:List Nat):Bool:=match w with | []=>false | c::_=> !A0g.contains c
theorem nm_head{w:List Nat}{x:AVal}(h:dlk pcK pcV w=some x):hdF w=true:=
 Av.mp (by decide+kernel:pcK.all hdF=true) w (A4.mp ((B2q (xs:=pcV) rfl).trans (by rw[h];rfl)))
theorem nm_no{w:List Nat}(h:hdF w=false):dlk pcK pcV w=none/\dlk clK clV w=none:=by
 cases nm_all w with
 |no c d=>exact⟨d,c⟩
 |«at» sp p l o b=>rw[nm_head p] at h;cases h
inductive NmO(s:List Nat):Prop
 |bad (w:List Nat) (k:Nat) (c:dlk pcK pcV w=none) (c2:dlk clK clV (wdN s)=none) (p:∀{t:List Nat} {i n:Nat},At t i s->cR (n+2) 10 [.obj 3 0] [curV t i]=.ok (ps w) [curV t (i+k)]):NmO s
 |good (sp:Sp) (c:dlk pcK pcV (wdN s)=some (spsN sp)) (c2:dlk clK clV (wdN s)=some (.lst ((exp sp).map nV))) (o:okB sp=true) (b:Nat.ble sp.length 4=true) (p:∀{t:List Nat} {i n:Nat},At t i s->cR (n+2) 10 [.obj 3 0] [curV t i]=.ok (ps (wdN s)) [curV t (i+(wdN s).length)]):NmO s
theorem nm_ex(s:List Nat):NmO s:=by
 cases s with
 |nil=>exact .bad [] 0 rfl rfl λh=>A7g h rfl
 |cons c s=>
  cases h1:A4y.contains c with
  |false=>
   have e:wdN (c::s)=[]:=by unfold wdN;rw[Bq,h1];rfl
   exact .bad [] 0 rfl (by rw[e];rfl) λh=>A7g h e
  |true=>
   have e:wdN (c::s)=c::wdN s:=by unfold wdN;rw[Bq,h1];rfl
   cases h2:A0g.contains c with
   |true=>exact .bad [] 0 rfl (nm_no (by rw[e];exact congrArg not h2)).2 λh=>B4r h h1 h2
   |false=>cases nm_all (wdN (c::s)) with
    |no a b=>exact .bad _ _ b a λh=>A9w h h1 h2
    |«at» sp p l o b=>exact .good sp p l o b λh=>A9w h h1 h2
theorem w_nmd0{k:Nat}{w:List Nat}(T:TL t)(h:At t j (91::58::s))(c:dlk pcK pcV w=none)(p:∀{n:Nat},cR (n+2) 10 [.obj 3 0] [curV t (j+2)]=.ok (ps w) [curV t (j+2+k)]):cR (n+6) 52 [.obj 18 0] (rdH D pat t j d)=.exc (posV t (Int.ofNat j)):=
 ck λq=>q _ (A0j h rfl) _ p _ (w_ncls0 c) _ rfl _ rfl T
theorem w_nmdF{sp:Sp}{w r:List Nat}{k:Nat}(T:TL t)(h:At t j (91::58::s))(c:dlk pcK pcV w=some (spsN sp))(p:∀{n:Nat},cR (n+2) 10 [.obj 3 0] [curV t (j+2)]=.ok (ps w) [curV t k])(a:At t k r)(e:eqS (r.take 2) [58,93]=false):cR (n+6) 52 [.obj 18 0] (rdH D pat t j d)=.exc (posV t (Int.ofNat j)):=
 ck λq=>q _ (A0j h rfl) _ p _ (B4q c) _ rfl _ (A0e a e) _ rfl T
theorem w_nmd{sp:Sp}{w r:List Nat}{k:Nat}(h:At t j (91::58::s))(c:dlk pcK pcV w=some (spsN sp))(p:∀{n:Nat},cR (n+2) 10 [.obj 3 0] [curV t (j+2)]=.ok (ps w) [curV t k])(a:At t k r)(e:eqS (r.take 2) [58,93]=true):cR (n+6) 52 [.obj 18 0] (rdH D pat t j d)=.ok (.p (csV sp)) (rdH D pat t (k+2) d):=
 ck λq=>q _ (A0j h rfl) _ p _ (B4q c) _ rfl _ (A0j a e) _ rfl
noncomputable abbrev b51w:List Cm:=cmB (stm b51 3)
noncomputable abbrev pF(b:Nat)(tu:Bool)(fi:Bool)(f5:Option V):Lo:=[some (.obj 18 0),some (pi b),some (pb tu),some (.ref 2),some (pb fi),f5,none]
noncomputable abbrev pH(D:AVal)(pat:Bool)(t:List Nat)(j d:Nat)(l:Sp):Ht:=[.dct [29,30,31,32] [.obj 3 1,.p D,pb pat,pi d],curV t j,.lst (l.map spN)]
inductive MeO(D:AVal)(pat:Bool)(t:List Nat)(j d op:Nat)(tu:Bool)(fp:Nat)(hh:Ht)(l:Sp):Prop
 |er (e:Nat) (lt:e<t.length) (p:∀n fi f5,∃ρ,runL (n+9) (cR (n+9)) (A0b (n+9)).2 b51w (pF op tu fi f5) (pH D pat t j d l)=.exc ρ (posV t (Int.ofNat e)))
   (q:∀n f6 f7 f8 f9 f10 f11 f12,runL (n+7) (cR (n+7)) (A0b (n+7)).2 [stm b73w 1] (lF t op j tu fp f6 f7 f8 f9 f10 f11 f12) hh=.ret (.p (.tup [.none,.int (Int.ofNat e)])) hh)
 |ok (sp:Sp) (k:Nat) (v:AVal) (lt:j<k) (o:okB sp=true) (b:sp.length<=4) (it:A0z hh (.p v)=some ((exp sp).map nV))
   (p:∀n fi f5,∃g5,runL (n+9) (cR (n+9)) (A0b (n+9)).2 b51w (pF op tu fi f5) (pH D pat t j d l)=.next (pF op tu false g5) (pH D pat t k d (l++sp)))
   (q:∀n f6 f7 f8 f9 f10 f11 f12,∃g6 g9 g10 g11,runL (n+7) (cR (n+7)) (A0b (n+7)).2 [stm b73w 1] (lF t op j tu fp f6 f7 f8 f9 f10 f11 f12) hh=.next (lF t op j tu fp g6 (some (.p v)) (some (pi k)) g9 g10 g11 f12) hh)
theorem rg_exp{lo hi:Nat}:(A0t (Int.ofNat lo) (Int.ofNat hi+1)).map AVal.int=(exp [(lo,hi)]).map nV:=by
 have e:(Int.ofNat hi+1-Int.ofNat lo).toNat=hi+1-lo:=Int.toNat_sub (hi+1) lo
 unfold A0t exp
 rw[e,List.flatMap_cons,List.flatMap_nil,A6,List.map_map,List.map_map];rfl
theorem app_for{h0 h1:Cl}:∀{sp l:Sp} {op:Nat} {tu fi:Bool} {f5:Option V},l.length+sp.length<=big->∃g5,loT (A2w (n+9) (cR (n+9)) (A0b (n+9)).2 5 (cmB (stm (cmT (stm b51w 2)) 0))) (sp.map spN) (pF op tu fi f5) [h0,h1,.lst (l.map spN)]=.next (pF op tu fi g5) [h0,h1,.lst ((l++sp).map spN)]:=by
 intro sp
 induction sp with
 |nil=>exact λ{l op tu fi f5} _=>⟨f5,by rw[A6];exact A0v⟩
 |cons p sp ih=>
  intro l op tu fi f5 hb
  obtain⟨g5,e⟩:=ih (l:=l++[p]) (op:=op) (tu:=tu) (fi:=fi) (f5:=some (.p (spN p))) (by rw[Ae];exact(Cr l.length sp.length).symm▸hb)
  rw[Ai] at e
  exact⟨g5,A6e (lq λq=>q (apB (Aa (Au (Ah (Ag _)) _) hb))) (nx2 (A0y (f:=spN) (p:=p))) e⟩
theorem mem_ex{op:Nat}{tu:Bool}{fp:Nat}{hh:Ht}{c:Nat}{l:Sp}(T:TL t)(R:Ru t)(h:At t j (c::s))(hb:l.length+4<=big):MeO D pat t j d op tu fp hh l:=by
 cases hq:eqS ((c::s).take 2) [91,58] with
 |false=>
  have no:∀{n:Nat} {f6 f7 f8 f9 f10 f11 f12:Option V} {r:Ro},runL (n+7) (cR (n+7)) (A0b (n+7)).2 (cmE (stm b73w 1)) (lF t op j tu fp f6 f7 f8 f9 f10 f11 f12) hh=r->runL (n+7) (cR (n+7)) (A0b (n+7)).2 [stm b73w 1] (lF t op j tu fp f6 f7 f8 f9 f10 f11 f12) hh=r:=λe=>A0w (xb hq λz=>z _ (slc (h.cut 2))) e
  cases span_ex (D:=D) (pat:=pat) (d:=d) (op:=op) (tu:=tu) (fp:=fp) (hh:=hh) T h with
  |er e lt p q=>exact .er e lt (λn fi f5=>⟨_,lq λz=>z _ (A1m h) _ rfl _ (A1g h) _ hq _ (p (n+1))⟩) λn f6 f7 f8 f9 f10 f11 f12=>no (q n f6 f7 f8 f9 f10 f11 f12)
  |ok lo hi k lt o1 o2 p q=>
   refine .ok [(lo,hi)] k (.range (Int.ofNat lo) (Int.ofNat hi+1)) lt (by unfold okB;rw[List.all_cons,A0k o1,A0k o2];rfl) (Bb 1 3) (congrArg some rg_exp) (λn fi f5=>⟨f5,?_⟩) λn f6 f7 f8 f9 f10 f11 f12=> ?_
   ·exact lqt (λz=>z _ (A1m h) _ rfl _ (A1g h) _ hq _ (p (n+1)) (apB (Aa (Au (by decide) _) hb))) (nx2 (A0y (f:=spN) (p:=(lo,hi))))
   ·obtain⟨g9,g10,g11,e⟩:=q n f6 f7 f8 f9 f10 f11 f12
    exact⟨_,_,_,_,no e⟩
 |true=>
  cases s with
  |nil=>cases hq
  |cons c2 s=>
   have hq:=hq
   cases h2:Nat.beq c2 58 with
   |false=>rw[show eqS ((c::c2::s).take 2) [91,58]=(match(match true with | true=>Nat.beq c2 58 | false=>false) with | true=>Nat.beq c 91 | false=>false) from rfl,h2] at hq;cases hq
   |true=>
    have h1:Nat.beq c 91=true:=by rw[show eqS ((c::c2::s).take 2) [91,58]=(match(match true with | true=>Nat.beq c2 58 | false=>false) with | true=>Nat.beq c 91 | false=>false) from rfl,h2] at hq;exact hq
    cases An h1
    cases An h2
    have a:=h.c1.n.c1.n
    have ru:∀n,cR (n+1) 70 [ps t,pi (j+2),ps B0l,pi 99] []=.ok (pi (j+2+(wdN s).length)) []:=λn=>by
     have k:=w_run (n:=n) (w:=B0l) (m:=99) a
     rw[show(s.takeWhile B0l.contains).take 99=wdN s from(R.at a).take] at k
     exact k
    have cw:cut (j+2) (j+2+(wdN s).length) t=wdN s:=(a.cut _).trans (List.prefix_iff_eq_take.mp (List.takeWhile_prefix _)).symm
    cases nm_ex s with
    |bad w k c1 c2 p=>exact .er j h.lt (λn fi f5=>⟨_,lq λz=>z _ (A1m h) _ rfl _ (A1g h) _ rfl _ (w_nmd0 T h c1 (p a))⟩) λn f6 f7 f8 f9 f10 f11 f12=>lq λz=>z _ (slc (h.cut 2)) _ rfl _ (ru _) _ (slc cw) _ (w_ln0 c2) _ rfl _ rfl
    |good sp c1 c2 o b p=>
     have b4:=nbl b
     have a2:At t (j+2+(wdN s).length) (t.drop (j+2+(wdN s).length)):=rfl
     cases e:eqS ((t.drop (j+2+(wdN s).length)).take 2) [58,93] with
     |false=>exact .er j h.lt (λn fi f5=>⟨_,lq λz=>z _ (A1m h) _ rfl _ (A1g h) _ rfl _ (w_nmdF T h c1 (p a) a2 e)⟩) λn f6 f7 f8 f9 f10 f11 f12=>lq λz=>z _ (slc (h.cut 2)) _ rfl _ (ru _) _ (slc cw) _ (w_ln1 c2) _ rfl _ (slc (a2.cut 2)) _ (congrArg not e)
     |true=>
      refine .ok sp _ _ (Ap (B5 (by decide:0<2)) (Aa (Ao (j+2) (wdN s).length) (Ao _ 2))) o b4 rfl (λn fi f5=> ?_) λn f6 f7 f8 f9 f10 f11 f12=>⟨_,_,_,_,lq λz=>z _ (slc (h.cut 2)) _ rfl _ (ru _) _ (slc cw) _ (w_ln1 c2) _ rfl _ (slc (a2.cut 2)) _ (congrArg not e)⟩
      obtain⟨g5,e5⟩:=app_for (n:=n) (h0:=.dct [29,30,31,32] [.obj 3 1,.p D,pb pat,pi d]) (h1:=curV t (j+2+(wdN s).length+2)) (sp:=sp) (l:=l) (op:=op) (tu:=tu) (fi:=false) (f5:=f5) (Aa (Au b4 _) hb)
      exact⟨g5,lq λz=>z _ (A1m h) _ rfl _ (A1g h) _ rfl _ (w_nmd h c1 (p a) a2 e) _ rfl _ w_key _ e5⟩
end
noncomputable def held(F:Nat->Bool):List AVal:=(List.range 128).map λc=>.bool (F c)
theorem A8a{F:Nat->Bool}:(held F).length=128:=(Aw ..).trans List.length_range
theorem B0i{F:Nat->Bool}{c:Nat}(h:c<=127):(held F)[c]?=some (.bool (F c)):=by unfold held;rw[List.getElem?_map,List.getElem?_range (Bz h)];rfl
theorem held_set{F:Nat->Bool}{c:Nat}(h:c<=127):(held F).set c (.bool true)=held λj=>F j||j==c:=by
 refine List.ext_getElem? λi=> ?_
 by_cases k:i<=127
 ·rw[B0i k]
  by_cases z:c=i
  ·subst z
   rw[List.getElem?_set_self (A8a▸Bz h),beq_self_eq_true,Bool.or_true]
  ·rw[List.getElem?_set_ne z,B0i k,beq_false_of_ne (Ne.symm z),Ce]
 ·have l:∀F,(held F).length<=i:=λF=>A8a▸Nat.lt_of_not_le k
  rw[List.getElem?_eq_none (l _),List.getElem?_eq_none ((Cq ..).symm▸l F)]
theorem ix_c{F:Nat->Bool}{c:Nat}(h:c<=127):ix (held F).length (Int.ofNat c)=some c:=by
 show(match Nat.ble (c+1) (held F).length with | true=>some c | false=>none)=some c
 rw[A8a,A0k (Ah h)]
theorem mb_app{c:Nat}{b:Sp}:∀{a:Sp},mb (a++b) c=(mb a c||mb b c):=by
 intro a
 induction a with
 |nil=>rfl
 |cons p a ih=>rw[List.cons_append,mb,mb,ih,Bool.or_assoc]
theorem B8j{l:Sp}{c:Nat}:c∈exp l↔∃p,p∈l/\inB p c=true:=by
 unfold exp
 rw[List.mem_flatMap]
 refine exists_congr λp=>and_congr_right' ?_
 rw[List.mem_map]
 refine⟨λh=>h.elim λk h=> ?_,λh=> ?_⟩
 ·rw[←h.2]
  exact in_t (Ao _ _) (Bw (Bg k p.1▸Nat.add_lt_of_lt_sub (B3.mp h.1)))
 ·have k:=Aq.mp h
  have k1:=nbl k.1
  exact⟨c-p.1,B3.mpr (Nat.sub_lt_sub_right k1 (Bz (nbl k.2))),Nat.add_sub_cancel' k1⟩
theorem exp_mb{l:Sp}{c:Nat}:(exp l).contains c=mb l c:=Bool.eq_iff_iff.mpr (A4.trans (B8j.trans B2c.symm))
theorem exp_le{l:Sp}(o:Ok l):∀c∈exp l,c<=127:=λc h=>(B8j.mp h).elim λp h=>Aa (nbl (Aq.mp h.2).2) (o p h.1).2
section
variable{t s:List Nat}{n i j d op fp:Nat}{D:AVal}{pat tu:Bool}
theorem hl_for{f6 f7 f8 f9 f10 f11:Option V}:∀{cs:List Nat} {F:Nat->Bool} {f12:Option V},(∀c∈cs,c<=127)->∃g12,
  loT (A2w (n+7) (cR (n+7)) (A0b (n+7)).2 12 (cmB (stm b73w 2))) (cs.map nV) (lF t op j tu fp f6 f7 f8 f9 f10 f11 f12) [.lst (held F)]=.next (lF t op j tu fp f6 f7 f8 f9 f10 f11 g12) [.lst (held λc=>F c||cs.contains c)]:=by
 intro cs
 induction cs with
 |nil=>exact λ{F f12} _=>⟨f12,by rw[show(λc=>F c|| [].contains c)=F from funext λc=>Ce _];exact A0v⟩
 |cons c cs ih=>
  intro F f12 hc
  obtain⟨g,e⟩:=ih (F:=λj=>F j||j==c) (f12:=some (.p (nV c))) λx m=>hc x (.tail _ m)
  rw[show(λx=>(F x||x==c)||cs.contains x)=λx=>F x|| (c::cs).contains x from funext λx=>by rw[Br,Bool.or_assoc]] at e
  exact⟨g,A6e (lq λq=>q _ (ix_c (hc c (.head _)))) (congrArg (λz=>Ro.next _ [Cl.lst z]) (held_set (hc c (.head _)))) e⟩
structure TT(t:List Nat):Prop where
 tl:TL t
 ts:t.length<=1000
 ru:Ru t
inductive ClO(D:AVal)(pat:Bool)(t:List Nat)(j d op:Nat)(tu:Bool)(fp:Nat)(l:Sp)(fi:Bool):Prop
 |er (e:Nat) (lt:e<t.length) (p:∀n f5,∃ρ,WhS (n+9) (cR (n+9)) (A0b (n+9)).2 (cmC (stm b51 3)) b51w (pF op tu fi f5) (pH D pat t j d l) (.exc ρ (posV t (Int.ofNat e))))
   (q:∀n f6 f7 f8 f9 f10 f11 f12,∃h,WhS (n+7) (cR (n+7)) (A0b (n+7)).2 (cmC (stm b73 5)) b73w (lF t op j tu fp f6 f7 f8 f9 f10 f11 f12) [.lst (held (mb l))] (.ret (.p (.tup [.none,.int (Int.ofNat e)])) h))
 |ok (l':Sp) (k:Nat) (r:List Nat) (lt:j<=k) (a:At t k (93::r)) (o:Ok l') (b:l'.length<=4*k) (p:∀n f5,∃g5,WhS (n+9) (cR (n+9)) (A0b (n+9)).2 (cmC (stm b51 3)) b51w (pF op tu fi f5) (pH D pat t j d l) (.next (pF op tu false g5) (pH D pat t k d l')))
   (q:∀n f6 f7 f8 f9 f10 f11 f12,∃g6 g7 g8 g9 g10 g11 g12,WhS (n+7) (cR (n+7)) (A0b (n+7)).2 (cmC (stm b73 5)) b73w (lF t op j tu fp f6 f7 f8 f9 f10 f11 f12) [.lst (held (mb l))] (.next (lF t op k tu fp g6 g7 g8 g9 g10 g11 g12) [.lst (held (mb l'))]))
theorem cls_ex(T:TT t)(hop:op<t.length):∀(m:Nat) {j:Nat} {l:Sp} {fi:Bool},t.length-j<=m->fp<=j->Nat.beq j fp=fi->Ok l->l.length<=4*j->ClO D pat t j d op tu fp l fi:=by
 intro m
 induction m with
 |zero=>
  intro j l fi hm hf hfi ok hl
  have a:At t j []:=List.drop_eq_nil_of_le (Cz.mp (Nat.eq_zero_of_le_zero hm))
  have gP:∀n f5,(runX (cR (n+9)) (A0b (n+9)).2 (cmC (stm b51 3)) (pF op tu fi f5) (pH D pat t j d l)).bind truR=.ok true (pH D pat t j d l):=λn f5=>by
   cases fi with
   |true=>exact cq λz=>z _ rfl
   |false=>exact cq λz=>z _ rfl _ (A0f a)
  have gL:∀n f6 f7 f8 f9 f10 f11 f12,(runX (cR (n+7)) (A0b (n+7)).2 (cmC (stm b73 5)) (lF t op j tu fp f6 f7 f8 f9 f10 f11 f12) [.lst (held (mb l))]).bind truR=.ok true [.lst (held (mb l))]:=λn f6 f7 f8 f9 f10 f11 f12=>by
   cases fi with
   |true=>exact cq λz=>z _ hfi
   |false=>exact cq λz=>z _ hfi _ (slc (a.cut 1))
  exact .er op hop (λn f5=>⟨_,.ex (gP n f5) (lq λz=>z _ (A1m a) _ rfl T.tl)⟩) λn f6 f7 f8 f9 f10 f11 f12=>⟨_,.re (gL n f6 f7 f8 f9 f10 f11 f12) (lq λz=>z _ a.c0.g)⟩
 |succ m ih=>
  intro j l fi hm hf hfi ok hl
  have a:At t j (t.drop j):=rfl
  revert a
  generalize t.drop j=s
  intro a
  cases s with
  |nil=>exact ih (Aa (Aj a.len.symm) (Ag m)) hf hfi ok hl
  |cons c s=>
   have hj:=a.lt
   cases hE:(!fi&&Nat.beq c 93) with
   |true=>
    have hE:=Aq.mp hE
    have h1:fi=false:=(Cg _).mp hE.1
    subst h1
    cases An hE.2
    exact .ok l j s (Ac _) a ok hl (λn f5=>⟨f5,.no (cq λz=>z _ rfl _ (A0f a))⟩) λn f6 f7 f8 f9 f10 f11 f12=>⟨_,_,_,_,_,_,_,.no (cq λz=>z _ hfi _ (slc (a.cut 1)))⟩
   |false=>
    have gP:∀n f5,(runX (cR (n+9)) (A0b (n+9)).2 (cmC (stm b51 3)) (pF op tu fi f5) (pH D pat t j d l)).bind truR=.ok true (pH D pat t j d l):=λn f5=>by
     cases fi with
     |true=>exact cq λz=>z _ rfl
     |false=>exact cb (congrArg not hE) λz=>z _ rfl _ (A0f a)
    have gL:∀n f6 f7 f8 f9 f10 f11 f12,(runX (cR (n+7)) (A0b (n+7)).2 (cmC (stm b73 5)) (lF t op j tu fp f6 f7 f8 f9 f10 f11 f12) [.lst (held (mb l))]).bind truR=.ok true [.lst (held (mb l))]:=λn f6 f7 f8 f9 f10 f11 f12=>by
     cases fi with
     |true=>exact cq λz=>z _ hfi
     |false=>exact cb (congrArg not hE) λz=>z _ hfi _ (slc (a.cut 1))
    have s0:∀n f6 f7 f8 f9 f10 f11 f12,runL (n+7) (cR (n+7)) (A0b (n+7)).2 [stm b73w 0] (lF t op j tu fp f6 f7 f8 f9 f10 f11 f12) [.lst (held (mb l))]=.next (lF t op j tu fp f6 f7 f8 f9 f10 f11 f12) [.lst (held (mb l))]:=λn f6 f7 f8 f9 f10 f11 f12=>lq λz=>z _ a.c1.g
    have hb:l.length+4<=big:=Aa (Ay (Aa hl (B6 4 (Aa (Ak hj) T.ts))) 4) (nbl rfl)
    cases mem_ex (D:=D) (pat:=pat) (d:=d) (op:=op) (tu:=tu) (fp:=fp) (hh:=[.lst (held (mb l))]) T.tl T.ru a hb with
    |er e lt p q=>exact .er e lt (λn f5=>(p n fi f5).elim fun ρ k=>⟨ρ,.ex (gP n f5) k⟩) λn f6 f7 f8 f9 f10 f11 f12=>⟨_,.re (gL n f6 f7 f8 f9 f10 f11 f12) (lcat (a:=[stm b73w 0]) (b:=[stm b73w 1]++b73w.drop 2) (s0 ..) (lret (q n f6 f7 f8 f9 f10 f11 f12)))⟩
    |ok sp k v lt o b it p q=>
     have os:=ok_of o
     have hk:t.length-k<=m:=Bw (Ap (Bs hj lt) hm)
     have ob:Ok (l++sp):=λx m=>(Cd.mp m).elim (ok x) (os x)
     have lb:(l++sp).length<=4*k:=by rw[Ae];exact Aa (Be hl b) (B6 4 lt)
     have eh:(λc=>mb l c|| (exp sp).contains c)=mb (l++sp):=funext λc=>by rw[exp_mb,mb_app]
     have bdL:∀n f6 f7 f8 f9 f10 f11 f12,∃g6 g7 g8 g9 g10 g11 g12,runL (n+7) (cR (n+7)) (A0b (n+7)).2 b73w (lF t op j tu fp f6 f7 f8 f9 f10 f11 f12) [.lst (held (mb l))]=.next (lF t op k tu fp g6 g7 g8 g9 g10 g11 g12) [.lst (held (mb (l++sp)))]:=λn f6 f7 f8 f9 f10 f11 f12=>by
      obtain⟨g6,g9,g10,g11,e1⟩:=q n f6 f7 f8 f9 f10 f11 f12
      obtain⟨g12,e2⟩:=hl_for (t:=t) (n:=n) (j:=j) (op:=op) (fp:=fp) (tu:=tu) (f6:=g6) (f7:=some (.p v)) (f8:=some (pi k)) (f9:=g9) (f10:=g10) (f11:=g11) (F:=mb l) (f12:=f12) (exp_le os)
      rw[eh] at e2
      exact⟨_,_,_,_,_,_,_,lcat (a:=[stm b73w 0]) (b:=[stm b73w 1]++b73w.drop 2) (s0 ..) (lcat e1 (lcons (for_run (xq λz=>z) it e2) (lq λz=>z)))⟩
     cases ih hk (Aa hf (Ak lt)) (Bn.mpr λz=>Nat.ne_of_gt (As hf lt) (An z)) ob lb with
     |er e lt p2 q2=>
      exact .er e lt (λn f5=>(p n fi f5).elim λg k=>(p2 n g).elim fun ρ k2=>⟨ρ,.go (gP n f5) k k2⟩) λn f6 f7 f8 f9 f10 f11 f12=>by
       obtain⟨g6,g7,g8,g9,g10,g11,g12,e1⟩:=bdL n f6 f7 f8 f9 f10 f11 f12
       exact(q2 n g6 g7 g8 g9 g10 g11 g12).elim λh k=>⟨h,.go (gL n f6 f7 f8 f9 f10 f11 f12) e1 k⟩
     |ok l' k' r lt2 a2 o2 b2 p2 q2=>
      exact .ok l' k' r (Aa (Ak lt) lt2) a2 o2 b2 (λn f5=>(p n fi f5).elim λg k=>(p2 n g).elim λg5 k2=>⟨g5,.go (gP n f5) k k2⟩) λn f6 f7 f8 f9 f10 f11 f12=>by
       obtain⟨g6,g7,g8,g9,g10,g11,g12,e1⟩:=bdL n f6 f7 f8 f9 f10 f11 f12
       obtain⟨u6,u7,u8,u9,u10,u11,u12,e2⟩:=q2 n g6 g7 g8 g9 g10 g11 g12
       exact⟨u6,u7,u8,u9,u10,u11,u12,.go (gL n f6 f7 f8 f9 f10 f11 f12) e1 e2⟩
end
theorem can_len:∀{l:Sp} {a:Nat},Can a l->l.length+a<=130+a/\(l=[]∨l.length+a<=128):=by
 intro l
 induction l with
 |nil=>exact λ{a} _=>⟨Ay (Ag _) a,.inl rfl⟩
 |cons p r ih=>
  intro a h
  have k:(p::r).length+a<=128:=by
   have a1:a<=p.2:=Aa h.1 h.2.1
   cases(ih h.2.2.2).2 with
   |inl e=>cases e;exact Aa (Au a1 1) (Aa (Au h.2.2.1 1) (Ac _))
   |inr e=>exact Aa (Aa (Au a1 _) (Aa (Aj (Cr r.length p.2)) (Au (A9 _) _))) e
  exact⟨Aa k (Aa (by decide) (Ao 130 a)),.inr k⟩
theorem mb_le{l:Sp}{c:Nat}(o:Ok l)(h:mb l c=true):c<=127:=(B2c.mp h).elim λp k=>Aa (nbl (Aq.mp k.2).2) (o p k.1).2
theorem mb_128{l:Sp}{c:Nat}(o:Ok l):mb l c=(Nat.ble c 127&&mb l c):=by
 cases e:mb l c with
 |false=>exact(Cj _).symm
 |true=>rw[A0k (mb_le o e)];rfl
theorem held_no:(List.replicate (Int.toNat 128) [AVal.bool false]).flatten=held (mb []):=by kernel_rfl
theorem rng128:(A0t 0 128).map AVal.int=(List.range 128).map nV:=by kernel_rfl
section
variable{t s:List Nat}{n i j d op fp:Nat}{D:AVal}{pat tu:Bool}
theorem chN_z{l:Sp}:sz (chN l)=1:=by cases l <;> rfl
theorem chN_h{l:Sp}:(hh (chN l)).1<=2:=by cases l <;> exact A9 1
noncomputable def tuS(tu:Bool)(L:Sp):Sp:=match tu with | true=>cpl 0 L | false=>L
noncomputable abbrev clP(D:AVal)(pat:Bool)(t:List Nat)(i d n:Nat):Rs V:=cR (n+10) 51 [.obj 18 0,pi i] (rdH D pat t (i+1) d)
noncomputable abbrev clL(t:List Nat)(i n:Nat):Rs V:=cR (n+8) 73 [ps t,pi i] []
theorem cls_endP{l L:Sp}{k:Nat}{r:List Nat}{g5:Option V}(a:At t k (93::r))(w:∀n,cR (n+3) 18 [.ref 0] [.lst (l.map spN)]=.ok (.p (csV L)) [.lst (l.map spN)])(hL:L.length+1<=big):
  runL (n+9) (cR (n+9)) (A0b (n+9)).2 (b51.drop 4) (pF i tu false g5) (pH D pat t k d l)=.ret (.p (A0d (chN (tuS tu L)))) (pH D pat t (k+1) d l):=by
 cases tu with
 |false=>exact lq λz=>z _ (A0m a) _ (w (n+6)) _ rfl _ B1g
 |true=>exact lq λz=>z _ (A0m a) _ (w (n+6)) _ rfl _ rfl _ (w_compl hL) _ B1g
theorem cls_endL{l:Sp}{k:Nat}{g6 g7 g8 g9 g10 g11 g12:Option V}:runL (n+7) (cR (n+7)) (A0b (n+7)).2 (b73.drop 6) (lF t i k tu fp g6 g7 g8 g9 g10 g11 g12) [.lst (held (mb l))]=.ret (.p (.tup [A0c (chN (lchs ((List.range 128).filter λc=>mb l c !=tu))),.int (Int.ofNat (k+1))])) [.lst (held (mb l))]:=by
 have co:B0t (cR (n+7)) (A0b (n+7)).2 (.loc 13) (.cmp .ne (.sub (.loc 5) (.loc 13)) (.loc 3)) (.p (.range 0 128)) ((A0t 0 128).map AVal.int) (lF t i k tu fp g6 g7 g8 g9 g10 g11 g12) [.lst (held (mb l))]=.ok (.p (.lst (((List.range 128).filter λc=>mb l c !=tu).map nV))) [.lst (held (mb l))]:=by
  rw[rng128]
  exact B8w (acc:=[]) trivial (λc hc=>xq λz=>z _ (B0i (Bw (B3.mp hc)))) λc _ _=>xq λz=>z
 have so:((List.range 128).filter λc=>mb l c !=tu).Pairwise (· < ·):=List.pairwise_lt_range.filter _
 have le:((List.range 128).filter λc=>mb l c !=tu).length+1<=big:=Aa (Ah (List.length_filter_le _ _)) (nbl (by kernel_rfl))
 exact lq λz=>z rfl (by kernel_rfl) _ co _ (w_lchars so le)
theorem cls_st{c:Nat}{s:List Nat}(a:At t (i+1) s)(e:eqS (s.take 1) [94]=tu)(hn:∀n,runL (n+7) (cR (n+7)) (A0b (n+7)).2 [stm b73 2] [some (ps t),some (pi i),some (pi (i+1)),some (pb tu),none,none,none,none,none,none,none,none,none] []=.next [some (ps t),some (pi i),some (pi fp),some (pb tu),none,none,none,none,none,none,none,none,none] []):
  runL (n+7) (cR (n+7)) (A0b (n+7)).2 (b73.take 5) (A1v 73 [ps t,pi i]) []=.next (lF t i fp tu fp none none none none none none none) [.lst (held (mb []))]:=
 lcat (a:=b73.take 2) (b:=[stm b73 2]++(b73.drop 3).take 2) (lqt (λz=>z _ (slc (a.cut 1))) (congrArg (λx=>Ro.next [some (ps t),some (pi i),some (pi (i+1)),some (pb x),none,none,none,none,none,none,none,none,none] []) e)) (lcat (hn n) (lqt (λz=>z rfl) (congrArg (λx=>Ro.next (lF t i fp tu fp none none none none none none none) [Cl.lst x]) held_no)))
theorem w_class{s:List Nat}(T:TT t)(h:At t i (91::s)):Jo D pat t i d 2 0 [] (clP D pat t i d) (clL t i):=by
 have a:=h.c1.n
 have key:∀(tu:Bool) (fp:Nat),i<fp->(∀n,runL (n+9) (cR (n+9)) (A0b (n+9)).2 (b51.take 3) (A1v 51 [.obj 18 0,pi i]) (rdH D pat t (i+1) d)=.next (pF i tu true none) (pH D pat t fp d []))->
   (∀n,runL (n+7) (cR (n+7)) (A0b (n+7)).2 (b73.take 5) (A1v 73 [ps t,pi i]) []=.next (lF t i fp tu fp none none none none none none none) [.lst (held (mb []))])->Jo D pat t i d 2 0 [] (clP D pat t i d) (clL t i):=λtu fp hfp eP eL=>by
  cases cls_ex (D:=D) (pat:=pat) (d:=d) (tu:=tu) (fp:=fp) T h.lt (t.length-fp) (Ac _) (Ac _) (Nat.beq_refl fp) (λ_ m=>absurd m Cn) (Ag _) with
  |er e lt p q=>
   refine .er e lt (λn=> ?_) λn=> ?_
   ·obtain⟨ρ,k⟩:=p n none
    exact ck2 (f:=51) (a:=b51.take 3) (b:=b51.drop 3) rfl (eP n) (lexc k.s) rfl
   ·obtain⟨h',k⟩:=q n none none none none none none none
    exact ck2 (f:=73) (a:=b73.take 5) (b:=b73.drop 5) rfl (eL n) (lrt k.s) rfl
  |ok l k r lt a2 o b p q=>
   obtain⟨L,c,m,w⟩:=made o (Aa (Ah (Aa b (B6 4 (Aa (Ak a2.lt) T.ts)))) (nbl rfl))
   have cl:=can_len c
   have hL:L.length+1<=big:=Aa (Ah cl.1) (nbl rfl)
   have row:lchs ((List.range 128).filter λc=>mb l c !=tu)=(tuS tu L):=by
    cases tu with
    |false=>exact row_is c λx=>(m x).trans ((mb_128 o).trans (by rw[Bool.bne_false]))
    |true=>
     have k:=cpl_ok c
     exact row_is k.1 λx=>(k.2 x).trans (by rw[m];show((true&&Nat.ble x 127)&& !mb l x)=_;rw[Bool.true_and,Bool.bne_true])
   refine .ok (chN (tuS tu L)) (k+1) ⟨chN_h,by rw[chN_z];exact rm_le (B1 (Ap hfp lt)) (Aa (B1 (Ap hfp lt)) a2.lt)⟩ (B1 (Ap hfp lt)) (λn=> ?_) λn=> ?_
   ·obtain⟨g5,k1⟩:=p n none
    exact ck2 (f:=51) (a:=b51.take 3) (b:=b51.drop 3) rfl (eP n) (lcons k1.s (cls_endP a2 w hL)) rfl
   ·obtain⟨g6,g7,g8,g9,g10,g11,g12,k1⟩:=q n none none none none none none none
    rw[←row]
    exact ck2 (f:=73) (a:=b73.take 5) (b:=b73.drop 5) rfl (eL n) (lcons k1.s cls_endL) rfl
 cases e:eqS (s.take 1) [94] with
 |true=>exact key true (i+2) (B5 (by decide)) (λn=>lq λz=>z _ (A0j a e)) λn=>cls_st (c:=0) a e λn=>lq λz=>z _ rfl
 |false=>exact key false (i+1) (Ax i) (λn=>lq λz=>z _ (A0e a e)) λn=>cls_st (c:=0) a e λn=>lq λz=>z _ rfl
end
noncomputable def catA:List Tr->Tr
 |[]=>.empty
 |x::r=>r.foldl .cat x
theorem cat_h{k:Nat}:∀{r:List Tr} {x:Tr},(hh x).2.1<=k->(∀m,m∈r->(hh m).1<=k)->(hh (r.foldl .cat x)).2.1<=k:=by
 intro r
 induction r with
 |nil=>exact λh _=>h
 |cons y r ih=>exact λh a=>ih (Nat.max_le.mpr ⟨h,a y (.head _)⟩) λm q=>a m (.tail _ q)
theorem hh_le(m:Tr):(hh m).2.1<=(hh m).1/\(hh m).2.2<=(hh m).1/\(hh m).1<=(hh m).2.1+1/\(hh m).1<=(hh m).2.2+1:=by
 cases m <;> exact⟨by first | exact Ac _ | exact A9 _,by first | exact Ac _ | exact A9 _,by first | exact Ac _ | exact A9 _,by first | exact Ac _ | exact A9 _⟩
theorem catA_h{k:Nat}{ms:List Tr}(h1:1<=k)(a:∀m,m∈ms->(hh m).1<=k):(hh (catA ms)).1<=k+1:=by
 cases ms with
 |nil=>exact Az h1
 |cons x r=>exact Aa (hh_le _).2.2.1 (Ah (cat_h (Aa (hh_le x).1 (a x (.head _))) λm q=>a m (.tail _ q)))
noncomputable def szL(ms:List Tr):Nat:=(ms.map sz).sum
theorem cat_z:∀{r:List Tr} {x:Tr},sz (r.foldl .cat x)=sz x+szL r:=by
 intro r
 induction r with
 |nil=>exact rfl
 |cons y r ih=>exact ih.trans (A7 _ _ _)
theorem catA_z{k:Nat}{ms:List Tr}(h1:1<=k)(a:szL ms<=k):sz (catA ms)<=k:=by
 cases ms with
 |nil=>exact h1
 |cons x r=>exact Aa (Aj cat_z) a
theorem cut1{α:Type}{x:α}{r:List α}:cut 1 (x::r).length (x::r)=r:=by unfold cut;rw[List.take_length];rfl
theorem lsc{u v:List AVal}{h:Ht}(e:u=v):(Rs.ok (.p (.lst u)) h:Rs V)=.ok (.p (.lst v)) h:=e▸rfl
section
variable{n:Nat}{h:Ht}
theorem w_cat{v w:AVal}:cR (n+1) 26 [.obj 10 0,.p v,.p w] [.dct [] []]=.ok (.p .none) [.dct [19,20] [.p v,.p w]]:=ck λq=>q
theorem w_alt{v w:AVal}:cR (n+1) 26 [.obj 11 0,.p v,.p w] [.dct [] []]=.ok (.p .none) [.dct [19,20] [.p v,.p w]]:=ck λq=>q
theorem B9c{a:V}:∀{r:List Tr} {m:Tr} {f:Option V},∃g,loT (A2w (n+2) (cR (n+2)) (A0b (n+2)).2 2 (cmB (stm b33 2))) (r.map A0d) [some a,some (.p (A0d m)),f] h=.next [some a,some (.p (A0d (r.foldl .cat m))),g] h:=by
 intro r
 induction r with
 |nil=>exact λ{m f}=>⟨f,A0v⟩
 |cons x r ih=>exact λ{m f}=>(ih (m:=.cat m x) (f:=some (.p (A0d x)))).elim λg e=>⟨g,A1a (lq λq=>q _ (w_cat (n:=n))) e⟩
theorem w_catall{ms:List Tr}:cR (n+3) 33 [.p (.lst (ms.map A0d))] []=.ok (.p (A0d (catA ms))) []:=by
 cases ms with
 |nil=>exact ck λq=>q _ rfl
 |cons m r=>exact(B9c (n:=n) (a:=.p (.lst ((m::r).map A0d))) (m:=m) (r:=r) (f:=none)).elim λg e=>ck λq=>q _ rfl _ rfl _ (lsc cut1) _ e
theorem B5a{ms:List Tr}:cR (n+3) 33 [.ref 0] [.lst (ms.map A0d)]=.ok (.p (A0d (catA ms))) [.lst (ms.map A0d)]:=by
 cases ms with
 |nil=>exact ck λq=>q _ rfl
 |cons m r=>exact(B9c (n:=n) (a:=.ref 0) (m:=m) (r:=r) (f:=none)).elim λg e=>ck λq=>q _ rfl _ rfl _ (lsc cut1) _ e
theorem B2f{a:V}:∀{r:List Tr} {m:Tr} {f:Option V},∃g,loT (A2w n (cR n) (A0b n).2 2 (cmB (stm b74 2))) (r.map A0c) [some a,some (.p (A0c m)),f] h=.next [some a,some (.p (A0c (r.foldl .cat m))),g] h:=by
 intro r
 induction r with
 |nil=>exact λ{m f}=>⟨f,A0v⟩
 |cons x r ih=>exact λ{m f}=>(ih (m:=.cat m x) (f:=some (.p (A0c x)))).elim λg e=>⟨g,A1a (lq λq=>q) e⟩
theorem w_lcat{ms:List Tr}:cR (n+1) 74 [.p (.lst (ms.map A0c))] []=.ok (.p (A0c (catA ms))) []:=by
 cases ms with
 |nil=>exact ck λq=>q _ rfl
 |cons m r=>exact(B2f (n:=n) (a:=.p (.lst ((m::r).map A0c))) (m:=m) (r:=r) (f:=none)).elim λg e=>ck λq=>q _ rfl _ rfl _ (lsc cut1) _ e
theorem B4w{ms:List Tr}:cR (n+1) 74 [.ref 0] [.lst (ms.map A0c)]=.ok (.p (A0c (catA ms))) [.lst (ms.map A0c)]:=by
 cases ms with
 |nil=>exact ck λq=>q _ rfl
 |cons m r=>exact(B2f (n:=n) (a:=.ref 0) (m:=m) (r:=r) (f:=none)).elim λg e=>ck λq=>q _ rfl _ rfl _ (lsc cut1) _ e
end
noncomputable abbrev sg(c:Nat):AVal:=.str [c]
theorem B5t:∀(cs:List Nat),strs? (cs.map sg)=some (cs.map λc=> [c]):=by
 intro cs
 induction cs with
 |nil=>rfl
 |cons c cs ih=>show(strs? (cs.map sg)).map _=_;rw[ih];rfl
theorem B0n:∀(cs:List Nat),(cs.map λc=> [c]).flatten=cs:=by
 intro cs
 induction cs with
 |nil=>rfl
 |cons c cs ih=>exact congrArg (c:: ·) ih
theorem jn_at{cs:List Nat}(h:cs.length<=big):jnB (cs.map λc=> [c])=true:=by
 unfold jnB
 rw[B0n,Aw,A0k h];rfl
section
variable{t s:List Nat}{n i j d op:Nat}{D:AVal}{pat:Bool}
noncomputable abbrev qF(f:Option V):Lo:=[some (.obj 3 0),some (ps [34]),some (.ref 1),f]
noncomputable abbrev qH(t:List Nat)(j:Nat)(cs:List Nat):Ht:=[curV t j,.lst (cs.map sg)]
noncomputable abbrev uF(t:List Nat)(op j:Nat)(f:Option V):Lo:=[some (ps t),some (pi op),some (.ref 0),some (pi j),f]
inductive QuO(t:List Nat)(op j:Nat)(cs:List Nat):Prop
 |bad (k:Nat) (p:∀n f,∃h,runL (n+4) (cR (n+4)) (A0b (n+4)).2 (b13.drop 1) (qF f) (qH t j cs)=.ret (.p .none) (curV t k::h))
   (q:∀n f,∃h,WhS (n+4) (cR (n+4)) (A0b (n+4)).2 (cmC (stm b76 2)) (cmB (stm b76 2)) (uF t op j f) [.lst (cs.map nV)] (.ret (.p (.tup [.none,nV op])) h))
 |ok (cs':List Nat) (k:Nat) (r:List Nat) (lt:j<=k) (a:At t k (34::r)) (b:op+1+cs'.length<=k) (p:∀n f,∃h,runL (n+4) (cR (n+4)) (A0b (n+4)).2 (b13.drop 1) (qF f) (qH t j cs)=.ret (ps cs') (curV t (k+1)::h))
   (q:∀n f,∃g,WhS (n+4) (cR (n+4)) (A0b (n+4)).2 (cmC (stm b76 2)) (cmB (stm b76 2)) (uF t op j f) [.lst (cs.map nV)] (.next (uF t op k g) [.lst (cs'.map nV)]))
theorem quo_ex(T:TT t):∀(m:Nat) {j:Nat} {cs:List Nat},t.length-j<=m->op+1+cs.length<=j->QuO t op j cs:=by
 intro m
 induction m with
 |zero=>
  intro j cs hm hc
  have a:At t j []:=List.drop_eq_nil_of_le (Cz.mp (Nat.eq_zero_of_le_zero hm))
  exact .bad j (λn f=>⟨_,lcons (WhS.s (.no (cq λz=>z _ (A1m a)))) (lq λz=>z)⟩) λn f=>⟨_,.re (cq λz=>z _ (slc (a.cut 1))) (lq λz=>z _ a.c0.g)⟩
 |succ m ih=>
  intro j cs hm hc
  have a:At t j (t.drop j):=rfl
  revert a
  generalize t.drop j=s
  intro a
  cases s with
  |nil=>exact ih (Aa (Aj a.len.symm) (Ag m)) hc
  |cons c s=>
   have hj:=a.lt
   have hb:cs.length+1<=big:=Aa (Ah (Aa (Aa (Bb _ _) hc) (Aa (Ak hj) T.ts))) (nbl rfl)
   have gP:∀n f,(runX (cR (n+4)) (A0b (n+4)).2 (cmC (stm b13 1)) (qF f) (qH t j cs)).bind truR=.ok true (qH t j cs):=λn f=>cq λz=>z _ (A1m a)
   have step:∀(x k:Nat),j<k->(∀n f,∃g,runL (n+4) (cR (n+4)) (A0b (n+4)).2 (cmB (stm b13 1)) (qF f) (qH t j cs)=.next (qF g) (qH t k (cs++[x])))->(Nat.beq c 34=false)->
     (∀n f,∃g,runL (n+4) (cR (n+4)) (A0b (n+4)).2 (cmB (stm b76 2)) (uF t op j f) [.lst (cs.map nV)]=.next (uF t op k g) [.lst ((cs++[x]).map nV)])->QuO t op j cs:=λx k lt eP h34 eL=>by
    have gL:∀n f,(runX (cR (n+4)) (A0b (n+4)).2 (cmC (stm b76 2)) (uF t op j f) [.lst (cs.map nV)]).bind truR=.ok true [.lst (cs.map nV)]:=λn f=>cb (congrArg not h34) λz=>z _ (slc (a.cut 1))
    cases ih (j:=k) (cs:=cs++[x]) (Bw (Ap (Bs hj lt) hm)) (by rw[Ae];exact Aa (Ah hc) lt) with
    |bad k' p q=>exact .bad k' (λn f=>(eP n f).elim λg e=>(p n g).elim λh k=>⟨h,wh_go (gP n f) e k⟩) λn f=>(eL n f).elim λg e=>(q n g).elim λh k=>⟨h,.go (gL n f) e k⟩
    |ok cs' k' r lt' a' b p q=>exact .ok cs' k' r (Aa (Ak lt) lt') a' b (λn f=>(eP n f).elim λg e=>(p n g).elim λh k=>⟨h,wh_go (gP n f) e k⟩) λn f=>(eL n f).elim λg e=>(q n g).elim λh k=>⟨h,.go (gL n f) e k⟩
   cases h34:Nat.beq c 34 with
   |true=>
    cases An h34
    exact .ok cs j s (Ac _) a hc (λn f=>⟨_,lrt (WhS.s (.re (gP n f) (lq λz=>z _ (A0m a) _ rfl _ (B5t cs) (jn_at (Bl hb)) _ (B0n cs))))⟩) λn f=>⟨f,.no (cq λz=>z _ (slc (a.cut 1)))⟩
   |false=>
    cases h92:Nat.beq c 92 with
    |false=>exact step c (j+1) (Ax j) (λn f=>⟨_,lqt (λz=>z _ (A0m a) _ h34 _ h92 (apB hb)) (congrArg (λx=>Ro.next (qF (some (ps [c]))) [curV t (j+1),.lst x]) (A0y (f:=sg)))⟩) h34 λn f=>⟨_,lqt (λz=>z _ a.c1.g _ a.c1.e _ h92 (apB hb)) (congrArg (λx=>Ro.next (uF t op (j+1) (some (pi c))) [.lst x]) (A0y (f:=nV)))⟩
    |true=>
     cases An h92
     obtain⟨r,E⟩:=esc_ex s
     have gL:∀n f,(runX (cR (n+4)) (A0b (n+4)).2 (cmC (stm b76 2)) (uF t op j f) [.lst (cs.map nV)]).bind truR=.ok true [.lst (cs.map nV)]:=λn f=>cq λz=>z _ (slc (a.cut 1))
     cases r with
     |none=>exact .bad (j+1) (λn f=>⟨_,lrt (WhS.s (.re (gP n f) (lq λz=>z _ (A0m a) _ rfl _ rfl _ (E.P a.c1.n) _ rfl)))⟩) λn f=>⟨_,.re (gL n f) (lq λz=>z _ a.c1.g _ a.c1.e _ rfl _ (E.L a.c1.n) _ rfl)⟩
     |some v=>
      have k:=E.k v rfl
      exact step v.1 (j+1+v.2) (Ap (Ax j) (Ao _ _)) (λn f=>⟨_,lqt (λz=>z _ (A0m a) _ rfl _ rfl _ (E.P a.c1.n) _ rfl (apB hb)) (congrArg (λx=>Ro.next (qF (some (ps [v.1]))) [curV t (j+1+v.2),.lst x]) (A0y (f:=sg)))⟩) h34 λn f=>⟨_,lqt (λz=>z _ a.c1.g _ a.c1.e _ rfl _ (E.L a.c1.n) _ rfl (apB hb)) (congrArg (λx=>Ro.next (uF t op (j+1+v.2) (some (pi v.1))) [.lst x]) (A0y (f:=nV)))⟩
end
theorem idx_ex{c:Nat}:∀{l:List Nat},l.contains c=true->∃m,m<l.length/\∀r,A2b c (l++r)=some m:=by
 intro l
 induction l with
 |nil=>exact λh=>nomatch h
 |cons x l ih=>
  intro h
  by_cases z:x=c
  ·exact⟨0,Ar _,λr=>if_pos z⟩
  ·rw[Br,beq_false_of_ne (Ne.symm z)] at h
   obtain⟨m,hm,e⟩:=ih h
   exact⟨m+1,Nat.succ_lt_succ hm,λr=>(if_neg z).trans (by rw[show A2b c (l.append r)=some m from e r];rfl)⟩
noncomputable abbrev lowB(cs:List Nat):Bool:=cs.all λc=>Nat.ble c 127
theorem big_no{cs:List Nat}:((cs.filter λc=>Nat.ble 128 c).map nV).isEmpty=lowB cs:=by
 induction cs with
 |nil=>rfl
 |cons c cs ih=>
  by_cases h:c<=127
  ·have k:=le127 h
   rw[List.filter_cons,k.1,if_neg (λz=>nomatch z)]
   exact ih.trans (show lowB cs=(Nat.ble c 127&&lowB cs) by rw[A0k h];rfl)
  ·have k:=gt127 h
   rw[List.filter_cons,k.1,if_pos rfl]
   exact(show false=(Nat.ble c 127&&lowB cs) by rw[A1k h];rfl)
section
variable{t s:List Nat}{n i j k d op:Nat}{D:AVal}{pat:Bool}
theorem cut_end{r:List Nat}{c:Nat}(a:At t k (c::r))(hi:i<=k):cut i (k+1) t=cut i k t++[c]:=by
 unfold cut
 have l:(t.take k).length=k:=(Co).trans (Ci (Ak a.lt))
 rw[List.take_succ,a.c1.e,List.drop_append_of_le_length (l.symm▸hi)];rfl
noncomputable abbrev rF(i:Nat)(x y:List Nat)(f:Option V):Lo:=[some (.obj 18 0),some (pi i),some (ps x),some (ps y),f]
theorem qt_for(T:TL t){x y:List Nat}:∀{cs:List Nat} {b:Bool} {f:Option V},lowB cs=b->match b with
  |true=>∃g,loT (A2w (n+9) (cR (n+9)) (A0b (n+9)).2 4 (cmB (stm b49 4))) (cs.map sg) (rF i x y f) (rdH D pat t j d)=.next (rF i x y g) (rdH D pat t j d)
  |false=>∃g,loT (A2w (n+9) (cR (n+9)) (A0b (n+9)).2 4 (cmB (stm b49 4))) (cs.map sg) (rF i x y f) (rdH D pat t j d)=.exc (rF i x y g) (posV t (Int.ofNat i)):=by
 intro cs
 induction cs with
 |nil=>intro b f h;cases h;exact⟨f,A0v⟩
 |cons c cs ih=>
  intro b f h
  by_cases hc:c<=127
  ·have h':lowB cs=b:=by rw[←h];show lowB cs=(Nat.ble c 127&&lowB cs);rw[A0k hc];rfl
   have iH:=ih (f:=some (ps [c])) h'
   have go:=λ{r:Ro} (e:loT (A2w (n+9) (cR (n+9)) (A0b (n+9)).2 4 (cmB (stm b49 4))) (cs.map sg) (rF i x y (some (ps [c]))) (rdH D pat t j d)=r)=>(A1a (lq λz=>z _ (le127 hc).1) e:loT (A2w (n+9) (cR (n+9)) (A0b (n+9)).2 4 (cmB (stm b49 4))) ((c::cs).map sg) (rF i x y f) (rdH D pat t j d)=r)
   cases b with
   |true=>exact iH.elim λg e=>⟨g,go e⟩
   |false=>exact iH.elim λg e=>⟨g,go e⟩
  ·have h':b=false:=by rw[←h];show(Nat.ble c 127&&lowB cs)=false;rw[A1k hc];rfl
   subst h'
   exact⟨_,B8b (lq λz=>z _ (gt127 hc).1 rfl (by kernel_rfl) T)⟩
noncomputable abbrev quP(D:AVal)(pat:Bool)(t:List Nat)(i d n:Nat):Rs V:=cR (n+10) 49 [.obj 18 0,pi i] (rdH D pat t (i+1) d)
noncomputable abbrev quL(t:List Nat)(i n:Nat):Rs V:=cR (n+5) 76 [ps t,pi i] []
noncomputable abbrev oneT(c:Nat):Tr:=.chars [(c,c)]
theorem one_z{cs:List Nat}:szL (cs.map oneT)=cs.length:=by
 induction cs with
 |nil=>rfl
 |cons c cs ih=>exact(congrArg (1+ ·) ih).trans (Bg _ _)
theorem quo_z{k:Nat}{cs:List Nat}(lt:i+1<=k)(b:i+1+cs.length<=k):i+sz (catA (cs.map oneT))<=k+1:=
 Aa (Au (catA_z (k:=cs.length+1) (Ah (Ag _)) (one_z▸A9 _)) i) (Ah (Aa (Ay (A9 i) _) b))
theorem w_quote(T:TT t)(h:At t i (34::s)):Jo D pat t i d 2 0 [] (quP D pat t i d) (quL t i):=by
 have sL:∀n,runL (n+4) (cR (n+4)) (A0b (n+4)).2 (b76.take 2) (A1v 76 [ps t,pi i]) []=.next (uF t i (i+1) none) [.lst []]:=λn=>lq λz=>z
 cases quo_ex (op:=i) (cs:=[]) T (t.length- (i+1)) (Ac _) (Ac _) with
 |bad k p q=>
  have hp:∀n,cR (n+5) 13 [.obj 3 0,ps [34]] [curV t (i+1)]=.ok (.p .none) [curV t k]:=λn=>(p n none).elim λh e=>ck2 (f:=13) (a:=b13.take 1) (b:=b13.drop 1) rfl (lq λz=>z) e rfl
  exact .er i h.lt (λn=>ck λz=>z _ (hp _) _ rfl T.tl) λn=>(q n none).elim λh e=>ck2 (f:=76) (a:=b76.take 2) (b:=b76.drop 2) rfl (sL n) (lrt e.s) rfl
 |ok cs k r lt a b p q=>
  have hp:∀n,cR (n+5) 13 [.obj 3 0,ps [34]] [curV t (i+1)]=.ok (ps cs) [curV t (k+1)]:=λn=>(p n none).elim λh e=>ck2 (f:=13) (a:=b13.take 1) (b:=b13.drop 1) rfl (lq λz=>z) e rfl
  have hq:∀n,∃g,runL (n+4) (cR (n+4)) (A0b (n+4)).2 (b76.take 3) (A1v 76 [ps t,pi i]) []=.next (uF t i k g) [.lst (cs.map nV)]:=λn=>(q n none).elim λg e=>⟨g,lcat (a:=b76.take 2) (b:=[stm b76 2]) (sL n) (lcons e.s rfl)⟩
  have eraw:=cut_end (i:=i) a (Ak lt)
  have len:(cut i k t).length<=k-i:=by unfold cut;rw[List.length_drop];exact Nat.sub_le_sub_right (List.length_take_le _ _) i
  have hbig:cs.length<=big:=Aa (Aa (Bb _ _) b) (Aa (Ak a.lt) (Aa T.ts (nbl rfl)))
  have gl:Nat.ble (cs.map sg).length big=true:=by rw[Aw];exact A0k hbig
  have gl2:Nat.ble (cs.map nV).length big=true:=by rw[Aw];exact A0k hbig
  cases h10:(cut i k t).contains 10 with
  |true=>
   obtain⟨m,hm,e⟩:=idx_ex h10
   have h10':(cut i k t++[34]).contains 10=true:=A4.mpr (Cy _ (A4.mp h10))
   have e0:A2b 10 (cut i k t)=some m:=A6 (cut i k t)▸e []
   refine .er (i+m) (Ap (Nat.add_lt_of_lt_sub' (Ap hm len)) (Ak a.lt)) (λn=>ck λz=>z _ (hp _) _ rfl _ (slc eraw) _ h10' _ (e [34]) T.tl) λn=> ?_
   obtain⟨g,e1⟩:=hq n
   exact ck2 (f:=76) (a:=b76.take 3) (b:=b76.drop 3) rfl e1 (lq λz=>z _ rfl _ h10 _ rfl _ e0) rfl
  |false=>
   have h10':(cut i k t++[34]).contains 10=false:=Bn.mpr λz=>by
    rcases Cd.mp (A4.mp z) with z | z
    ·rw[A4.mpr z] at h10;cases h10
    ·cases Bo.mp z
   have st:A2l (.ref 0) (cs.map nV) [.lst (cs.map nV)]:=rfl
   have fil:∀n g,B0t (cR (n+4)) (A0b (n+4)).2 (.loc 5) (.cmp .gt (.loc 5) (.lit (.int 127))) (.ref 0) (cs.map nV) (uF t i k g) [.lst (cs.map nV)]=.ok (.p (.lst ((cs.filter λc=>Nat.ble 128 c).map nV))) [.lst (cs.map nV)]:=
    λn g=>B8w (acc:=[]) st (λc _=>xq λz=>z) λc _ _=>xq λz=>z
   cases hl:lowB cs with
   |false=>
    refine .er i h.lt (λn=> ?_) λn=> ?_
    ·obtain⟨g,e⟩:=qt_for (n:=n) (i:=i) (j:=k+1) (d:=d) (D:=D) (pat:=pat) (x:=cs) (y:=cut i k t++[34]) (f:=none) T.tl hl
     exact ck λz=>z _ (hp _) _ rfl _ (slc eraw) _ h10' _ e
    ·obtain⟨g,e1⟩:=hq n
     exact ck2 (f:=76) (a:=b76.take 3) (b:=b76.drop 3) rfl e1 (lq λz=>z _ rfl _ h10 gl2 _ (fil n g) _ (congrArg not (big_no.trans hl))) rfl
   |true=>
    have all:∀c,c∈cs->c<=127:=λc hc=>nbl (Av.mp hl c hc)
    refine .ok (catA (cs.map oneT)) (k+1) ⟨catA_h (Ac 1) λm q=>(List.mem_map.mp q).elim λc e=>e.2▸Ac 1,rm_le (quo_z lt b) (Aa (quo_z lt b) a.lt)⟩ (B1 lt) (λn=> ?_) λn=> ?_
    ·obtain⟨g,e⟩:=qt_for (n:=n) (i:=i) (j:=k+1) (d:=d) (D:=D) (pat:=pat) (x:=cs) (y:=cut i k t++[34]) (f:=none) T.tl hl
     have co:B0t (cR (n+9)) (A0b (n+9)).2 (.new 8 [(.call 16 [(.loc 5)])]) (.lit (.bool true)) (ps cs) (cs.map sg) (rF i cs (cut i k t++[34]) g) (rdH D pat t (k+1) d)=.ok (.p (.lst ((cs.map oneT).map A0d))) (rdH D pat t (k+1) d):=by
      rw[List.map_map]
      exact A8e (f:=sg) (g:=A0d∘oneT) (acc:=[]) trivial (λc _=>xq λz=>z) λc hc=>xq λz=>z _ (w_of (n:=n+5) (all c hc)) _ (A3g (n:=n+7))
     exact ck λz=>z _ (hp _) _ rfl _ (slc eraw) _ h10' _ e gl _ co _ w_catall
    ·obtain⟨g,e1⟩:=hq n
     have co:B0t (cR (n+4)) (A0b (n+4)).2 (.tup [(.lit (.str [99,104,97,114,115])),(.tup [(.tup [(.loc 5),(.loc 5)])])]) (.lit (.bool true)) (.ref 0) (cs.map nV) (uF t i k g) [.lst (cs.map nV)]=.ok (.p (.lst ((cs.map oneT).map A0c))) [.lst (cs.map nV)]:=by
      rw[List.map_map]
      exact A8e (f:=nV) (g:=A0c∘oneT) (acc:=[]) st (λc _=>xq λz=>z) λc hc=>xq λz=>z
     exact ck2 (f:=76) (a:=b76.take 3) (b:=b76.drop 3) rfl e1 (lq λz=>z _ rfl _ h10 gl2 _ (fil n g) _ (congrArg not (big_no.trans hl)) gl2 _ co _ w_lcat) rfl
end
theorem ckt{n f:Nat}{vs:List V}{h:Ht}{r r':Rs V}(q:cV n f vs h->cR (n+1) f vs h=r)(e:r=r')(ha:arity f vs.length=true:=by rfl):cR (n+1) f vs h=r':=(ck q ha).trans e
section
variable{t s:List Nat}{n i j k d op:Nat}{D:AVal}{pat:Bool}{row:List Tr}
noncomputable abbrev rowH(row:List Tr):Ht:=[.lst (row.map A0c)]
noncomputable abbrev siP(D:AVal)(pat:Bool)(t:List Nat)(i d n:Nat):Rs V:=cR (n+12) 47 [.obj 18 0] (rdH D pat t i d)
noncomputable abbrev atL(t:List Nat)(i:Nat)(row:List Tr)(n:Nat):Rs V:=cR (n+10) 79 [ps t,pi i,.ref 0] (rowH row)
noncomputable def figB:List Nat->Bool
 |[]=>false
 |x::_=>A0g.contains x
noncomputable def isLp:List Nat->Bool
 |[]=>false
 |c::r=>([42,43,63]:List Nat).contains c|| (Nat.beq c 123&&figB r)
theorem stray_f:A6z.all (λc=> !Nat.beq c 40&& (!Nat.beq c 91&& (!Nat.beq c 34&& (!Nat.beq c 123&& !Nat.beq c 46))))=true:=by decide+kernel
theorem nB'{a:Bool}(h:(!a)=true):a=false:=(Cg _).mp h
theorem emp_f{x:Tr}{r:List Tr}:(((x::r).map A0c).isEmpty)=false:=rfl
theorem si_stray{c:Nat}(T:TT t)(h:At t i (c::s))(hc:A6z.contains c=true)(hr:isLp (c::s)=true->row=[]):Jo D pat t i d 2 0 (rowH row) (siP D pat t i d) (atL t i row):=by
 have f:=A5i stray_f hc
 refine .er i h.lt (λn=>ck λq=>q _ (A0m h) _ (nB' (bL f)) _ (nB' (bL (bR f))) _ (nB' (bL (bR (bR f)))) _ (nB' (bL (bR (bR (bR f))))) _ (nB' (bR (bR (bR (bR f))))) _ hc rfl rfl T.tl) λn=> ?_
 cases hl:([42,43,63]:List Nat).contains c with
 |true=>cases hr (Bool.or_eq_true_iff.mpr (.inl hl));exact ck λq=>q _ h.c1.e _ hl _ rfl
 |false=>
  have hb:([93,125,94,36,47,32,9,10]:List Nat).contains c=true:=by
   rcases Cd.mp (show c∈[42,43,63]++[93,125,94,36,47,32,9,10] from A4.mp hc) with z | z
   ·rw[A4.mpr z] at hl;cases hl
   ·exact A4.mpr z
  exact ck λq=>q _ h.c1.e _ hl _ (nB' (bL (bR (bR (bR f))))) _ (nB' (bL (bR f))) _ (nB' (bL (bR (bR f)))) _ (nB' (bR (bR (bR (bR f))))) _ hb
theorem si_sign{c:Nat}(T:TT t)(h:At t i (c::s))(hc:A6z.contains c=false)(h1:Nat.beq c 40=false)(h2:Nat.beq c 91=false)(h3:Nat.beq c 34=false)(h4:Nat.beq c 123=false)(h5:Nat.beq c 46=false):Jo D pat t i d 2 0 (rowH row) (siP D pat t i d) (atL t i row):=by
 have sub:∀l:List Nat,(∀x∈l,A6z.contains x=true)->l.contains c=false:=λl hl=>Bn.mpr λz=>by rw[hl c (A4.mp z)] at hc;cases hc
 have ha:([42,43,63]:List Nat).contains c=false:=sub _ (Av.mp (by decide+kernel))
 have hb:([93,125,94,36,47,32,9,10]:List Nat).contains c=false:=sub _ (Av.mp (by decide+kernel))
 obtain⟨r,S⟩:=A7n c s
 cases r with
 |none=>exact .er i h.lt (λn=>ck λq=>q _ (A0m h) _ h1 _ h2 _ h3 _ h4 _ h5 _ hc _ (S.P (n:=n+5) T.tl h)) λn=>(S.no (n:=n+3) h).elim λe k=>ck λq=>q _ h.c1.e _ ha _ h4 _ h2 _ h3 _ h5 _ hb _ k _ rfl
 |some v=>
  have k:=S.k v rfl
  exact .ok (oneT v.1) (i+v.2) ⟨A9 1,Bs h.lt (B5 k.1)⟩ (B5 k.1) (λn=>ck λq=>q _ (A0m h) _ h1 _ h2 _ h3 _ h4 _ h5 _ hc _ (S.P (n:=n+5) T.tl h) _ (B4n (n:=n+7) k.2) _ (A3g (n:=n+9))) λn=>ck λq=>q _ h.c1.e _ ha _ h4 _ h2 _ h3 _ h5 _ hb _ (S.yes (n:=n+3) h) _ rfl
theorem w_single{c:Nat}(T:TT t)(hD:Nat.beq c 123=true->D=kwV)(h:At t i (c::s))(h1:Nat.beq c 40=false)(hr:isLp (c::s)=true->row=[]):Jo D pat t i d 2 0 (rowH row) (siP D pat t i d) (atL t i row):=by
 cases hc:A6z.contains c with
 |true=>exact si_stray T h hc hr
 |false=>
  cases h2:Nat.beq c 91 with
  |true=>
   cases An h2
   cases w_class (D:=D) (pat:=pat) (d:=d) T h with
   |er e lt p l=>exact .er e lt (λn=>ck λq=>q _ (A0m h) _ rfl _ rfl _ (p (n+1))) λn=>ck λq=>q _ h.c1.e _ rfl _ rfl _ rfl _ (l (n+1))
   |ok m k hm lt p l=>exact .ok m k hm lt (λn=>ck λq=>q _ (A0m h) _ rfl _ rfl _ (p (n+1))) λn=>ck λq=>q _ h.c1.e _ rfl _ rfl _ rfl _ (l (n+1))
  |false=>
   cases h3:Nat.beq c 34 with
   |true=>
    cases An h3
    cases w_quote (D:=D) (pat:=pat) (d:=d) T h with
    |er e lt p l=>exact .er e lt (λn=>ck λq=>q _ (A0m h) _ rfl _ rfl _ rfl _ (p (n+1))) λn=>ck λq=>q _ h.c1.e _ rfl _ rfl _ rfl _ rfl _ (l (n+4))
    |ok m k hm lt p l=>exact .ok m k hm lt (λn=>ck λq=>q _ (A0m h) _ rfl _ rfl _ rfl _ (p (n+1))) λn=>ck λq=>q _ h.c1.e _ rfl _ rfl _ rfl _ rfl _ (l (n+4))
   |false=>
    cases h4:Nat.beq c 123 with
    |true=>
     cases An h4
     cases hD rfl
     have key:Jo kwV pat t i d 2 0 (rowH row) (dfP kwV pat t i d) (dfL t i (row.map A0c))->Jo kwV pat t i d 2 0 (rowH row) (siP kwV pat t i d) (atL t i row):=λJ=>by
      cases J with
      |er e lt p l=>exact .er e lt (λn=>ck λq=>q _ (A0m h) _ rfl _ rfl _ rfl _ rfl _ (p (n+5))) λn=>ck λq=>q _ h.c1.e _ rfl _ rfl _ (l (n+3))
      |ok m k hm lt p l=>exact .ok m k hm lt (λn=>ck λq=>q _ (A0m h) _ rfl _ rfl _ rfl _ rfl _ (p (n+5))) λn=>ck λq=>q _ h.c1.e _ rfl _ rfl _ (l (n+3))
     cases s with
     |nil=>exact key (df_end T.tl h)
     |cons x s=>
      cases hx:A0g.contains x with
      |true=>cases hr ((show isLp (123::x::s)=A0g.contains x from rfl).trans hx);exact key (df_fig T.tl h hx)
      |false=>exact key (df_name T.tl (T.ru.at h.c1.n) h hx)
    |false=>
     cases h5:Nat.beq c 46 with
     |true=>
      cases An h5
      exact .ok (.chars [(0,9),(11,127)]) (i+1) ⟨A9 1,Bs h.lt (Ax i)⟩ (Ax i) (λn=>ck λq=>q _ (A0m h) _ rfl _ rfl _ rfl _ rfl _ rfl _ (w_dot (n:=n+8)) _ (A3g (n:=n+9))) λn=>ck λq=>q _ h.c1.e _ rfl _ rfl _ rfl _ rfl _ rfl
     |false=>exact si_sign T h hc h1 h2 h3 h4 h5
end
section
variable{t s:List Nat}{n i j k d op:Nat}{D:AVal}{pat:Bool}
theorem w_star{v:AVal}:cR (n+1) 28 [.obj 13 0,.p v] [.dct [] []]=.ok (.p .none) [.dct [22] [.p v]]:=ck λq=>q
theorem w_plus{v:AVal}:cR (n+1) 28 [.obj 14 0,.p v] [.dct [] []]=.ok (.p .none) [.dct [22] [.p v]]:=ck λq=>q
theorem w_opt{v:AVal}:cR (n+1) 28 [.obj 15 0,.p v] [.dct [] []]=.ok (.p .none) [.dct [22] [.p v]]:=ck λq=>q
noncomputable abbrev oF(a:V)(m:Tr)(f3 f4:Option V):Lo:=[some (.obj 18 0),some a,some (.p (A0d m)),f3,f4]
noncomputable abbrev lpB(n:Nat):AVal->Lo->Ht->Ro:=A2w (n+8) (cR (n+8)) (A0b (n+8)).2 3 (cmB (stm b44 1))
inductive LpO(D:AVal)(pat:Bool)(t:List Nat)(j d:Nat)(m:Tr):Prop
 |er (e:Nat) (lt:e<t.length) (p:∀n a x f3 f4,lpB n x (oF a m f3 f4) (rdH D pat t j d)=.exc (oF a m (some (.p x)) (some (pi j))) (posV t (Int.ofNat e))) (l:∀row n,atL t j (row++[m]) n=.ok (.p (.tup [.none,nV e])) (rowH row))
 |ok (m':Tr) (k:Nat) (hb:(hh m').1<=(hh m).1+1/\t.length-k+sz m'<=t.length-j+sz m) (lt:j<k) (p:∀n a x f3 f4,lpB n x (oF a m f3 f4) (rdH D pat t j d)=.next (oF a m' (some (.p x)) (some (pi j))) (rdH D pat t k d)) (l:∀row n,atL t j (row++[m]) n=.ok (.p (.tup [A0c m',nV k])) (rowH row))
theorem A4g{row:List Tr}{m:Tr}:((row++[m]).map A0c).getLast?=some (A0c m):=by rw[Cp];exact List.getLast?_concat
theorem drop_map{row:List Tr}{m:Tr}:((row++[m]).map A0c).dropLast=row.map A0c:=by rw[Cp];exact List.dropLast_concat
theorem A6g{row:List Tr}{m:Tr}:((row++[m]).map A0c).isEmpty=false:=by cases row <;> rfl
theorem okrow{row:List Tr}{v:AVal}{m:Tr}:(Rs.ok (.p v) [.lst ((row++[m]).map A0c).dropLast]:Rs V)=.ok (.p v) (rowH row):=by rw[drop_map]
theorem lp_ex{c:Nat}{m:Tr}(T:TT t)(h:At t j (c::s))(hl:isLp (c::s)=true):LpO D pat t j d m:=by
 cases h1:Nat.beq c 42 with
 |true=>
  cases An h1
  exact .ok (.star m) (j+1) ⟨Ac _,B6e (Ax j) h.lt⟩ (Ax j) (λn a x f3 f4=>lq λz=>z _ (A0j h rfl) _ rfl _ (w_star (n:=n+6))) λrow n=>ckt (λz=>z _ h.c1.e _ rfl _ A6g _ rfl _ A4g) okrow
 |false=>
  cases h2:Nat.beq c 43 with
  |true=>
   cases An h2
   exact .ok (.plus m) (j+1) ⟨Ac _,B6e (Ax j) h.lt⟩ (Ax j) (λn a x f3 f4=>lq λz=>z _ (A0e h rfl) _ rfl _ (A0j h rfl) _ rfl _ (w_plus (n:=n+6))) λrow n=>ckt (λz=>z _ h.c1.e _ rfl _ A6g _ rfl _ A4g) okrow
  |false=>
   cases h3:Nat.beq c 63 with
   |true=>
    cases An h3
    exact .ok (.opt m) (j+1) ⟨Ac _,B6e (Ax j) h.lt⟩ (Ax j) (λn a x f3 f4=>lq λz=>z _ (A0e h rfl) _ rfl _ (A0e h rfl) _ rfl _ (A0j h rfl) _ rfl _ (w_opt (n:=n+6))) λrow n=>ckt (λz=>z _ h.c1.e _ rfl _ A6g _ rfl _ A4g) okrow
   |false=>
    have hno:([42,43,63]:List Nat).contains c=false:=by
     rw[Br,Br,Br,beq_false_of_ne (λz=>by subst z;cases h1),beq_false_of_ne (λz=>by subst z;cases h2),beq_false_of_ne (λz=>by subst z;cases h3)];rfl
    have hl:=hl
    rw[isLp,hno,Bool.false_or] at hl
    have h4:=bL hl
    cases An h4
    cases s with
    |nil=>cases hl
    |cons x s=>
     have hx:A0g.contains x=true:=bR hl
     cases ct_all (D:=D) (pat:=pat) (d:=d) (v:=m) T.tl T.ru h hx with
     |er e lt p l=>
      have l8:∀(row:List Tr) (n:Nat),cR (n+9) 78 [ps t,pi j,.ref 0] [.lst ((row++[m]).map A0c)]=.ok (.p (.tup [.none,nV e])) (rowH row):=λrow n=>ckt (λz=>z _ (slc (h.c1.n.cut 1)) _ rfl _ h.c1.n.c1.e _ hx _ A6g _ A4g _ (l (n+6))) okrow
      exact .er e lt (λn a x f3 f4=>lq λz=>z _ (A0e h rfl) _ rfl _ (A0e h rfl) _ rfl _ (A0e h rfl) _ rfl _ (A0f h) _ rfl _ (A0p (k:=1) h) _ (A6r hx) _ rfl _ (p (n+1))) λrow n=>ck λz=>z _ h.c1.e _ rfl _ rfl _ (l8 row n)
     |ok m' k hb lt p l=>
      have l8:∀(row:List Tr) (n:Nat),cR (n+9) 78 [ps t,pi j,.ref 0] [.lst ((row++[m]).map A0c)]=.ok (.p (.tup [A0c m',nV k])) (rowH row):=λrow n=>ckt (λz=>z _ (slc (h.c1.n.cut 1)) _ rfl _ h.c1.n.c1.e _ hx _ A6g _ A4g _ (l (n+6))) okrow
      exact .ok m' k hb lt (λn a x f3 f4=>lq λz=>z _ (A0e h rfl) _ rfl _ (A0e h rfl) _ rfl _ (A0e h rfl) _ rfl _ (A0f h) _ rfl _ (A0p (k:=1) h) _ (A6r hx) _ rfl _ (p (n+1))) λrow n=>ck λz=>z _ h.c1.e _ rfl _ rfl _ (l8 row n)
theorem lp_no{m:Tr}{a:V}{x:AVal}{f3 f4:Option V}(h:At t j s)(hl:isLp s=false):lpB n x (oF a m f3 f4) (rdH D pat t j d)=.ret (.p (A0d m)) (rdH D pat t j d):=by
 cases s with
 |nil=>exact lq λz=>z _ (A0e h rfl) _ rfl _ (A0e h rfl) _ rfl _ (A0e h rfl) _ rfl _ (A0f h) _ rfl _ rfl
 |cons c s=>
  have k:=Bool.or_eq_false_iff.mp hl
  have ne:∀y,([42,43,63]:List Nat).contains y=true->Nat.beq c y=false:=λy hy=>Bn.mpr λz=>by
   cases An z;rw[k.1] at hy;cases hy
  have n1:=ne 42 rfl
  have n2:=ne 43 rfl
  have n3:=ne 63 rfl
  cases h4:Nat.beq c 123 with
  |false=>exact lq λz=>z _ (A0e h n1) _ rfl _ (A0e h n2) _ rfl _ (A0e h n3) _ rfl _ (A0f h) _ h4 _ rfl
  |true=>
   cases An h4
   cases s with
   |nil=>exact lq λz=>z _ (A0e h n1) _ rfl _ (A0e h n2) _ rfl _ (A0e h n3) _ rfl _ (A0f h) _ rfl _ (A0p (k:=1) h) _ w_fig0 _ rfl
   |cons x s=>
    have hx:A0g.contains x=false:=k.2
    exact lq λz=>z _ (A0e h n1) _ rfl _ (A0e h n2) _ rfl _ (A0e h n3) _ rfl _ (A0f h) _ rfl _ (A0p (k:=1) h) _ (A6r hx) _ rfl
end
noncomputable def altA:List Tr->Tr
 |[]=>.empty
 |x::r=>r.foldl .alt x
theorem A8r{m:Tr}:isNone (A0c m)=false:=by cases m <;> rfl
section
variable{n:Nat}
theorem alt_for{a b:V}{h:Ht}:∀{r:List Tr} {m:Tr} {f:Option V},∃g,loT (A2w n (cR n) (A0b n).2 3 (cmB (stm b75 1))) (r.map A0c) [some a,some b,some (.p (A0c m)),f] h=.next [some a,some b,some (.p (A0c (r.foldl .alt m))),g] h:=by
 intro r
 induction r with
 |nil=>exact λ{m f}=>⟨f,A0v⟩
 |cons x r ih=>exact λ{m f}=>(ih (m:=.alt m x) (f:=some (.p (A0c x)))).elim λg e=>⟨g,A1a (lq λq=>q _ A8r) e⟩
theorem A5r{bs row:List Tr}(hb:bs.length+1<=big):cR (n+3) 75 [.ref 0,.ref 1] [.lst (bs.map A0c),.lst (row.map A0c)]=.ok (.p (A0c (altA (bs++[catA row])))) [.lst (bs.map A0c),.lst (row.map A0c)]:=by
 have gb:Nat.ble ((bs.map A0c).length+1) big=true:=by rw[Aw];exact A0k hb
 have e:∃g,loT (A2w (n+2) (cR (n+2)) (A0b (n+2)).2 3 (cmB (stm b75 1))) ((bs++[catA row]).map A0c) [some (.ref 0),some (.ref 1),some (.p .none),none] [.lst (bs.map A0c),.lst (row.map A0c)]=.next [some (.ref 0),some (.ref 1),some (.p (A0c (altA (bs++[catA row])))),g] [.lst (bs.map A0c),.lst (row.map A0c)]:=by
  have k:∃y r,bs++[catA row]=y::r:=by cases bs <;> exact⟨_,_,rfl⟩
  obtain⟨y,r,k⟩:=k
  rw[k]
  exact(alt_for (a:=.ref 0) (b:=.ref 1) (m:=y) (r:=r) (f:=some (.p (A0c y)))).elim λg e=>⟨g,A1a (lq λq=>q _ rfl) e⟩
 obtain⟨g,e⟩:=e
 rw[←A0y (f:=A0c)] at e
 exact ck λq=>q _ B4w gb _ e
end
section
variable{o oi:Ob}{n f i j k k1 k2:Nat}{vs us:List V}{h h1:Ht}{ρ ρ':Lo}{e e1 e2:Ex}{es:List Ex}{a b c c' xs:List AVal}{v:V}{w:AVal}{bb:Bool}
theorem B9e(hf:foot vs 0=some (us,[k]))(hk:h[k]?=some (.lst c))(ho:o f us [.lst c]=.ok (.p w) [.lst c']):A2v o f vs h=.ok (.p w) (h.set k (.lst c')):=by
 unfold A2v
 rw[hf]
 show(match(match h[k]? with | some c=>(match gets h [] with | some r=>some (c::r) | none=>none) | none=>none) with | some cs=>(match ndB [k]&&cs.all (A2s [k]) with | true=>A3e h [k] (o f us cs) | false=>.bad) | none=>.bad)=_
 rw[hk]
 show A3e h [k] (o f us [.lst c])=_
 rw[ho];rfl
theorem A7o{k:Nat}{c:Cl}(hk:h[k]?=some c):h.set k c=h:=by
 obtain⟨l,e⟩:=Bm.mp hk
 rw[←e];exact List.set_getElem_self l
theorem call_r2(hf:foot vs 0=some (us,[k1,k2]))(hk1:h[k1]?=some (.lst a))(hk2:h[k2]?=some (.lst b))(hne:k1≠k2)(ho:o f us [.lst a,.lst b]=.ok (.p w) [.lst a,.lst b]):A2v o f vs h=.ok (.p w) h:=by
 unfold A2v
 rw[hf]
 show(match(match h[k1]? with | some c=>(match(match h[k2]? with | some c=>(match gets h [] with | some r=>some (c::r) | none=>none) | none=>none) with | some r=>some (c::r) | none=>none) | none=>none) with | some cs=>(match ndB [k1,k2]&&cs.all (A2s [k1,k2]) with | true=>A3e h [k1,k2] (o f us cs) | false=>.bad) | none=>.bad)=_
 rw[hk1,hk2]
 have nb:Nat.beq k2 k1=false:=Bn.mpr λz=>hne (An z).symm
 have nd:ndB [k1,k2]=true:=by
  show(match(!Nat.beq k2 k1)&&true with | true=>ndB [k2] | false=>false)=true
  rw[nb];rfl
 show(match ndB [k1,k2]&&true with | true=>A3e h [k1,k2] (o f us [.lst a,.lst b]) | false=>.bad)=_
 rw[nd,ho]
 show Rs.ok (V.p w) ((h.set k1 (.lst a)).set k2 (.lst b))=_
 rw[A7o hk1,A7o hk2]
theorem A8h(hx:runX o oi e ρ h=.ok v h1):runS n o oi (.asg i e) ρ h=.next (ρ.set i (some v)) h1:=by
 show(runX o oi e ρ h).st ρ (λv h1=>Ro.next (ρ.set i (some v)) h1)=_
 rw[hx];rfl
theorem and_t(hx:runX o oi e ρ h=.ok (pb true) h):runX o oi (.and [e,e1]) ρ h=runX o oi e1 ρ h:=by
 show(runX o oi e ρ h).bind (λv h1=>onB (truV h1 v) (runX o oi e1 ρ h1) (.ok v h1))=_
 rw[hx];rfl
theorem and_f(hx:runX o oi e ρ h=.ok (pb false) h):runX o oi (.and [e,e1]) ρ h=.ok (pb false) h:=by
 show(runX o oi e ρ h).bind (λv h1=>onB (truV h1 v) (runX o oi e1 ρ h1) (.ok v h1))=_
 rw[hx];rfl
theorem locx(hj:ρ[j]?=some (some v)):runX o oi (.loc j) ρ h=.ok v h:=by
 show(match ρ[j]? with | some w=>(match w with | some v=>Rs.ok v h | none=>Rs.bad) | none=>Rs.bad)=_
 rw[hj]
theorem meth_x{m:Nat}{u:V}(hj:ρ[j]?=some (some v))(hb:A1r m=true)(hm:mokB v m h=true)(he:runX o oi e ρ h=.ok u h1):runX o oi (.meth (.loc j) m [e]) ρ h=(A9f v m [u] h1).run:=by
 show((runX o oi (.loc j) ρ h).bind λv h1=>(match A1r m with | true=>(match mokB v m h1 with | true=>((runX o oi e ρ h1).bind λv h1=>Rs.ok [v] h1).bind λvs h2=>(A9f v m vs h2).run | false=>Rs.bad) | false=>_))=_
 rw[locx hj]
 show(match A1r m with | true=>(match mokB v m h with | true=>((runX o oi e ρ h).bind λv h1=>Rs.ok [v] h1).bind λvs h2=>(A9f v m vs h2).run | false=>Rs.bad) | false=>_)=_
 rw[hb,hm,he];rfl
theorem ex_run(hx:runX o oi e ρ h=.ok v h1):runS n o oi (.ex e) ρ h=.next ρ h1:=by
 show(runX o oi e ρ h).st ρ (λ_ h1=>Ro.next ρ h1)=_
 rw[hx];rfl
theorem A5b(hj:ρ[j]?=some (some (.ref k)))(hk:h[k]?=some (.lst xs))(he:runX o oi e ρ h=.ok (.p w) h)(hb:xs.length+1<=big):runS n o oi (.ex (.meth (.loc j) 13 [e])) ρ h=.next ρ (h.set k (.lst (xs++[w]))):=by
 have hm:mokB (.ref k) 13 h=true:=by
  show(match h[k]? with | some d=>(match d with | .lst _=>true | .lstR _=>true | .dct _ _=>false) | none=>false)=true
  rw[hk]
 refine ex_run (v:=.p .none) ((meth_x hj rfl hm he).trans ?_)
 show O.run (match h[k]? with | some c=>(match c with | .lst xs=>O.g (Nat.ble (xs.length+1) big) (.p .none) (h.set k (.lst (xs++[w]))) | .lstR xs=>O.g (Nat.ble (xs.length+1) big) (.p .none) (h.set k (.lstR (xs++[.p w]))) | .dct _ _=>O.bad) | none=>O.bad)=_
 rw[hk]
 show(match Nat.ble (xs.length+1) big with | true=>Rs.ok (V.p .none) (h.set k (.lst (xs++[w]))) | false=>Rs.bad)=_
 rw[A0k hb]
noncomputable abbrev frV(p:Nat×Nat×Nat):V:=.tup [.ref p.1,.ref p.2.1,pi p.2.2]
inductive PC:List (Nat×Nat×Nat)->Cl->Prop
 |e:PC [] (.lst [])
 |r (P:List (Nat×Nat×Nat)):PC P (.lstR (P.map frV))
inductive PA(h:Ht)(P:List (Nat×Nat×Nat)):Prop
 |mk (c:Cl) (e:h[0]?=some c) (p:PC P c)
theorem push_run{P:List (Nat×Nat×Nat)}{p:Nat×Nat×Nat}(A:PA h P)(hj:ρ[6]?=some (some (.ref 0)))(he:runX o oi e ρ h=.ok (frV p) h)(hb:P.length+1<=big):runS n o oi (.ex (.meth (.loc 6) 13 [e])) ρ h=.next ρ (h.set 0 (.lstR ((P++[p]).map frV))):=by
 obtain⟨c,hk,pc⟩:=A
 have hm:mokB (.ref 0) 13 h=true:=by
  show(match h[0]? with | some d=>(match d with | .lst _=>true | .lstR _=>true | .dct _ _=>false) | none=>false)=true
  rw[hk];cases pc <;> rfl
 refine ex_run (v:=.p .none) ((meth_x hj rfl hm he).trans ?_)
 show O.run (match h[0]? with | some c=>(match c with | .lst xs=>(match xs with | []=>O.v (.p .none) (h.set 0 (.lstR [frV p])) | _::_=>O.bad) | .lstR xs=>O.g (Nat.ble (xs.length+1) big) (.p .none) (h.set 0 (.lstR (xs++[frV p]))) | .dct _ _=>O.bad) | none=>O.bad)=_
 rw[hk]
 cases pc with
 |e=>rfl
 |r=>
  show(match Nat.ble ((P.map frV).length+1) big with | true=>Rs.ok (V.p .none) (h.set 0 (.lstR (P.map frV++[frV p]))) | false=>Rs.bad)=_
  rw[Aw,A0k hb,A0y]
theorem pile_e{P:List (Nat×Nat×Nat)}(A:PA h P)(hj:ρ[6]?=some (some (.ref 0))):runX o oi (.cmp .eq (.loc 6) (.flist [])) ρ h=.ok (pb P.isEmpty) h:=by
 obtain⟨c,hk,pc⟩:=A
 show((runX o oi (.loc 6) ρ h).bind λx h1=>(Rs.ok (V.p (.lst [])) h1).bind λy h2=>(cmpO .eq x y h2).run)=_
 rw[locx hj]
 show(emO (isE h (.ref 0)) (.p (.lst [])) h false).run=_
 have ie:isE h (.ref 0)=some P.isEmpty:=by
  show(match h[0]? with | some c=>(match c with | .lst xs=>some xs.isEmpty | .lstR xs=>some xs.isEmpty | .dct _ _=>none) | none=>none)=_
  rw[hk]
  cases pc with
  |e=>rfl
  |r=>cases P <;> rfl
 rw[ie];rfl
end
abbrev Pile:=List (Nat×Nat×Nat)
noncomputable def ovB(pat:Bool):List Nat->Bool
 |[]=>true
 |c::_=>pat&&A1d.contains c
noncomputable def ctB(pat e:Bool):List Nat->Bool
 |[]=>false
 |c::_=>e&& (Nat.beq c 41|| (pat&& (Nat.beq c 47||Nat.beq c 36)))
section
variable{h h':Ht}{x k:Nat}{c c':Cl}
theorem A2h(e:h[x]?=some c)(ne:x≠k):(h.set k c')[x]?=some c:=(List.getElem?_set_ne (Ne.symm ne)).trans e
theorem A2m(e:h[k]?=some c):(h.set k c')[k]?=some c':=List.getElem?_set_self (Bm.mp e).1
theorem A1q{l:Ht}(e:h[x]?=some c):(h++l)[x]?=some c:=(Bp (Bm.mp e).1).trans e
theorem A6d:(h++[c])[h.length]?=some c:=List.getElem?_concat_length
theorem lt_of{n:Nat}(e:h[x]?=some c)(hn:h.length<=n):x≠n:=B8 (Ap (Bm.mp e).1 hn)
end
structure LS(h:Ht)(kb kr:Nat)(bs row:List Tr):Prop where
 b:h[kb]?=some (.lst (bs.map A0c))
 r:h[kr]?=some (.lst (row.map A0c))
 ne:kb≠kr
 b0:kb≠0
 r0:kr≠0
def Kp(h h':Ht)(kb kr:Nat):Prop:=∀x c,h[x]?=some c->x≠0->x≠kb->x≠kr->h'[x]?=some c
section
variable{t s:List Nat}{n i j at_ bg kb kr:Nat}{pat beg:Bool}{h:Ht}{P:Pile}{bs row:List Tr}{R:AVal}{f10 f11 f12 f13 f14:Option V}
noncomputable abbrev b80w:List Cm:=cmB (stm b80 7)
noncomputable abbrev zF(t:List Nat)(at_:Nat)(pat beg:Bool)(bg i kb kr:Nat)(f10 f11 f12 f13 f14:Option V):Lo:=[some (ps t),some (pi at_),some (pb pat),some (pb beg),some (pi bg),some (pi i),some (.ref 0),some (.ref kb),some (.ref kr),some (.ref 3),f10,f11,f12,f13,f14]
noncomputable abbrev rL(n:Nat):List Cm->Lo->Ht->Ro:=runL (n+11) (cR (n+11)) (A0b (n+11)).2
noncomputable abbrev rX(n:Nat):Ex->Lo->Ht->Rs V:=runX (cR (n+11)) (A0b (n+11)).2
def A0l(n:Nat)(t:List Nat)(at_:Nat)(pat beg:Bool)(bg:Nat)(R:AVal)(i kb kr:Nat)(h:Ht):Prop:=∀f10 f11 f12 f13 f14,∃h',WhS (n+11) (cR (n+11)) (A0b (n+11)).2 (.lit (.bool true)) b80w (zF t at_ pat beg bg i kb kr f10 f11 f12 f13 f14) h (.ret (.p R) h')
theorem A1x{n:Nat}{o oi:Ob}{c:Ex}{a b:List Cm}{ρ:Lo}{h h1:Ht}{r:Ro}(hc:runX o oi c ρ h=.ok (pb true) h1)(hb:runL n o oi a ρ h1=r):runL n o oi [.ite c a b] ρ h=r:=by
 refine .trans (b:=runS n o oi (.ite c a b) ρ h) B0d ?_
 show(runX o oi c ρ h).st ρ (λv h1=>ifB (truV h1 v) (runL n o oi a ρ h1) (runL n o oi b ρ h1))=r
 rw[hc];exact hb
theorem top(a:At t i s)(A:PA h P):rL n (b80w.take 3) (zF t at_ pat beg bg i kb kr f10 f11 f12 f13 f14) h=.next (zF t at_ pat beg bg i kb kr (some (ps (s.take 1))) (some (pb (ovB pat s))) (some (pb (ctB pat P.isEmpty s))) f13 f14) h:=by
 refine lcat (a:=b80w.take 2) (b:=(b80w.drop 2).take 1) (ρ':=zF t at_ pat beg bg i kb kr (some (ps (s.take 1))) (some (pb (ovB pat s))) f12 f13 f14) (h':=h) ?_ (lcons (A8h (i:=12) (v:=pb (ctB pat P.isEmpty s)) (h1:=h) ?_) rfl)
 ·cases s with
  |nil=>exact lq λz=>z _ (slc (a.cut 1)) _ rfl
  |cons c s=>cases pat with
   |false=>exact lq λz=>z _ (slc (a.cut 1)) _ rfl _ rfl
   |true=>exact lq λz=>z _ (slc (a.cut 1)) _ rfl _ rfl
 ·cases e:P.isEmpty with
  |false=>
   refine(and_f (e▸pile_e A rfl)).trans ?_
   cases s <;> rfl
  |true=>
   refine(and_t (e▸pile_e A rfl)).trans ?_
   cases s with
   |nil=>cases pat with
    |false=>exact xq λz=>z _ rfl _ rfl
    |true=>exact xq λz=>z _ rfl _ rfl _ rfl
   |cons c s=>
    show rX n _ _ h=.ok (pb (Nat.beq c 41|| (pat&& (Nat.beq c 47||Nat.beq c 36)))) h
    cases b1:Nat.beq c 41 with
    |true=>exact xq λz=>z _ b1
    |false=>cases pat with
     |false=>exact xq λz=>z _ b1 _ rfl
     |true=>cases b2:Nat.beq c 47 with
      |true=>exact xq λz=>z _ b1 _ rfl _ b2
      |false=>exact xq λz=>z _ b1 _ rfl _ b2
theorem A7t{i' kb' kr':Nat}{h':Ht}(a:At t i s)(A:PA h P)(ho:ovB pat s=false)(hc:ctB pat P.isEmpty s=false)
  (e:∀f13 f14,∃g10 g11 g12 g13 g14,rL n (b80w.drop 4) (zF t at_ pat beg bg i kb kr (some (ps (s.take 1))) (some (pb false)) (some (pb false)) f13 f14) h=.next (zF t at_ pat beg bg i' kb' kr' g10 g11 g12 g13 g14) h')
  (k:A0l n t at_ pat beg bg R i' kb' kr' h'):A0l n t at_ pat beg bg R i kb kr h:=λf10 f11 f12 f13 f14=>by
 obtain⟨g10,g11,g12,g13,g14,e⟩:=e f13 f14
 obtain⟨h2,w⟩:=k g10 g11 g12 g13 g14
 have tp:=top (n:=n) (at_:=at_) (beg:=beg) (bg:=bg) (kb:=kb) (kr:=kr) (f10:=f10) (f11:=f11) (f12:=f12) (f13:=f13) (f14:=f14) (pat:=pat) a A
 rw[ho,hc] at tp
 exact⟨h2,.go (cq λz=>z) (lcat (a:=b80w.take 3) (b:=[stm b80w 3]++b80w.drop 4) tp (lcat (A0w (xq λz=>z _ rfl) rfl) e)) w⟩
theorem A8c{h':Ht}(a:At t i s)(A:PA h P)(e:∀f13 f14,rL n (b80w.drop 3) (zF t at_ pat beg bg i kb kr (some (ps (s.take 1))) (some (pb (ovB pat s))) (some (pb (ctB pat P.isEmpty s))) f13 f14) h=.ret (.p R) h'):A0l n t at_ pat beg bg R i kb kr h:=λf10 f11 f12 f13 f14=>
 ⟨h',.re (cq λz=>z) (lcat (a:=b80w.take 3) (b:=b80w.drop 3) (top a A) (e f13 f14))⟩
theorem A7q{c:Nat}(hc:A1d.contains c=false):ovB pat (c::s)=false:=by show(pat&&A1d.contains c)=false;rw[hc,Cj]
theorem B8s{c:Nat}{e:Bool}(h1:Nat.beq c 41=false)(h2:Nat.beq c 47=false)(h3:Nat.beq c 36=false):ctB pat e (c::s)=false:=by
 show(e&& (Nat.beq c 41|| (pat&& (Nat.beq c 47||Nat.beq c 36))))=false
 rw[h1,h2,h3,Bool.or_self,Cj,Bool.or_self,Cj]
theorem call1x{f:Nat}{w:AVal}{c:List AVal}{o oi:Ob}{ρ:Lo}{k j:Nat}{h:Ht}(hj:ρ[j]?=some (some (.ref k)))(hk:h[k]?=some (.lst c))(ho:o f [.ref 0] [.lst c]=.ok (.p w) [.lst c]):runX o oi (.call f [.loc j]) ρ h=.ok (.p w) h:=by
 show((runX o oi (.loc j) ρ h).bind λv h1=>Rs.ok [v] h1).bind (λvs h1=>A2v o f vs h1)=_
 rw[locx hj]
 exact(B9e (vs:=[.ref k]) rfl hk ho).trans (by rw[A7o hk])
theorem call2x{f:Nat}{w:AVal}{a b:List AVal}{o oi:Ob}{ρ:Lo}{k1 k2 j1 j2:Nat}{h:Ht}(hj1:ρ[j1]?=some (some (.ref k1)))(hj2:ρ[j2]?=some (some (.ref k2)))(hk1:h[k1]?=some (.lst a))(hk2:h[k2]?=some (.lst b))(hne:k1≠k2)
  (ho:o f [.ref 0,.ref 1] [.lst a,.lst b]=.ok (.p w) [.lst a,.lst b]):runX o oi (.call f [.loc j1,.loc j2]) ρ h=.ok (.p w) h:=by
 show((runX o oi (.loc j1) ρ h).bind λv h1=>((runX o oi (.loc j2) ρ h1).bind λv h1=>Rs.ok [v] h1).bind λvs h2=>Rs.ok (v::vs) h2).bind (λvs h1=>A2v o f vs h1)=_
 rw[locx hj1]
 show(((runX o oi (.loc j2) ρ h).bind λv h1=>Rs.ok [v] h1).bind λvs h2=>Rs.ok (V.ref k1::vs) h2).bind (λvs h1=>A2v o f vs h1)=_
 rw[locx hj2]
 exact call_r2 (vs:=[.ref k1,.ref k2]) rfl hk1 hk2 hne ho
theorem t_bar(a:At t i (124::s))(A:PA h P)(L:LS h kb kr bs row)(hb:bs.length+1<=big)
  (k:∀h' kr',LS h' kb kr' (bs++[catA row]) []->PA h' P->Kp h h' kb kr->h.length<=kr'->A0l n t at_ pat beg bg R (i+1) kb kr' h'):A0l n t at_ pat beg bg R i kb kr h:=by
 have e1:∀f13 f14,runS (n+11) (cR (n+11)) (A0b (n+11)).2 (.ex (.meth (.loc 7) 13 [(.call 74 [(.loc 8)])])) (zF t at_ pat beg bg i kb kr (some (ps [124])) (some (pb false)) (some (pb false)) f13 f14) h=.next (zF t at_ pat beg bg i kb kr (some (ps [124])) (some (pb false)) (some (pb false)) f13 f14) (h.set kb (.lst ((bs++[catA row]).map A0c))):=λf13 f14=>by
  rw[←A0y (f:=A0c)]
  exact A5b rfl L.b (call1x rfl L.r B4w) (by rw[Aw];exact hb)
 refine A7t a A (A7q rfl) (B8s rfl rfl rfl) (i':=i+1) (kb':=kb) (kr':=(h.set kb (.lst ((bs++[catA row]).map A0c))).length) (h':=h.set kb (.lst ((bs++[catA row]).map A0c))++[Cl.lst []]) (λf13 f14=>⟨_,_,_,_,_,A1x (xq λz=>z) (lcons (e1 f13 f14) (lq λz=>z))⟩) (k _ _ ⟨A1q (A2m L.b),A6d,?_,L.b0,?_⟩ (A.rec λc e p=>⟨c,A1q (A2h e (Ne.symm L.b0)),p⟩) (λx c e n0 n1 n2=>A1q (A2h e n1)) (Aj (Cq ..).symm))
 ·rw[Cq];exact lt_of L.b (Ac _)
 ·rw[Cq];exact Nat.ne_of_gt (As (Ag kb) (Bm.mp L.b).1)
end
noncomputable def fauV(e:Nat):AVal:=.tup [.str [102,97,117,108,116],nV e]
section
variable{o oi:Ob}{n:Nat}{h:Ht}{ρ:Lo}{P:Pile}{p:Nat×Nat×Nat}
theorem B1q(A:PA h (P++[p])):h[0]?=some (.lstR ((P++[p]).map frV)):=by
 obtain⟨c,e,q⟩:=A
 generalize hq:P++[p]=Q at q
 cases q with
 |e=>cases P <;> cases hq
 |r=>exact hq▸e
theorem B6l(A:PA h (P++[p]))(hj:ρ[6]?=some (some (.ref 0))):runX o oi (.sub (.sub (.loc 6) (.neg (.lit (.int 1)))) (.lit (.int 2))) ρ h=.ok (pi p.2.2) h:=by
 show((((runX o oi (.loc 6) ρ h).bind λv h1=>(subO v (.p (.int (-1))) h1).run)).bind λv h1=>(subO v (.p (.int 2)) h1).run)=_
 rw[locx hj]
 show(((subO (.ref 0) (.p (.int (-1))) h).run).bind λv h1=>(subO v (.p (.int 2)) h1).run)=_
 have e:(subO (.ref 0) (.p (.int (-1))) h).run=.ok (frV p) h:=by
  show O.run (match h[0]? with | some c=>(match c with | .lst xs=>O.oa (atI xs (-1)) h | .lstR xs=>O.ov (atI xs (-1)) h | .dct _ _=>O.bad) | none=>O.bad)=_
  rw[B1q A]
  show(match atI ((P++[p]).map frV) (-1) with | some n=>Rs.ok n h | none=>Rs.bad)=_
  rw[A2i]
 rw[e];rfl
theorem pile_ne(A:PA h (P++[p]))(hj:ρ[6]?=some (some (.ref 0))):runX o oi (.cmp .ne (.loc 6) (.flist [])) ρ h=.ok (pb true) h:=by
 show((runX o oi (.loc 6) ρ h).bind λx h1=>(Rs.ok (V.p (.lst [])) h1).bind λy h2=>(cmpO .ne x y h2).run)=_
 rw[locx hj]
 show(emO (isE h (.ref 0)) (.p (.lst [])) h true).run=_
 have ie:isE h (.ref 0)=some false:=by
  show(match h[0]? with | some c=>(match c with | .lst xs=>some xs.isEmpty | .lstR xs=>some xs.isEmpty | .dct _ _=>none) | none=>none)=_
  rw[B1q A]
  cases P <;> rfl
 rw[ie];rfl
theorem pop_run(A:PA h (P++[p]))(hj:ρ[6]?=some (some (.ref 0))):runS n o oi (.asgT [7,8,14] (.meth (.loc 6) 52 [])) ρ h=.next (((ρ.set 7 (some (.ref p.1))).set 8 (some (.ref p.2.1))).set 14 (some (pi p.2.2))) (h.set 0 (.lstR (P.map frV))):=by
 have e:runX o oi (.meth (.loc 6) 52 []) ρ h=.ok (frV p) (h.set 0 (.lstR (P.map frV))):=by
  show((runX o oi (.loc 6) ρ h).bind λv h1=>(match mokB v 52 h1 with | true=>(Rs.ok ([]:List V) h1).bind λvs h2=>(A9f v 52 vs h2).run | false=>Rs.bad))=_
  rw[locx hj]
  show(match(match h[0]? with | some d=>(match d with | .lst _=>true | .lstR _=>true | .dct _ _=>false) | none=>false) with | true=>(A9f (.ref 0) 52 [] h).run | false=>Rs.bad)=_
  rw[B1q A]
  show O.run (match h[0]? with | some c=>(match c with | .lst xs=>O.oa xs.getLast? (h.set 0 (.lst xs.dropLast)) | .lstR xs=>O.ov xs.getLast? (h.set 0 (.lstR xs.dropLast)) | .dct _ _=>O.bad) | none=>O.bad)=_
  rw[B1q A]
  show(match((P++[p]).map frV).getLast? with | some n=>Rs.ok n (h.set 0 (.lstR ((P++[p]).map frV).dropLast)) | none=>Rs.bad)=_
  rw[Cp,show [p].map frV=[frV p] from rfl,List.getLast?_concat,List.dropLast_concat]
 show(runX o oi (.meth (.loc 6) 52 []) ρ h).st ρ (λv h1=>asgO v [7,8,14] ρ h1)=_
 rw[e];rfl
end
section
variable{t s:List Nat}{n i j at_ bg kb kr kb0 kr0 op:Nat}{pat beg:Bool}{h:Ht}{P:Pile}{bs row bs0 row0:List Tr}{R:AVal}
theorem t_open(a:At t i (40::s))(A:PA h P)(hb:P.length+1<=big)
  (k:∀h' kb' kr',LS h' kb' kr' [] []->PA h' (P++[(kb,kr,i)])->(∀x c,h[x]?=some c->x≠0->h'[x]?=some c)->h.length<=kb'->h.length<=kr'->A0l n t at_ pat beg bg R (i+1) kb' kr' h'):A0l n t at_ pat beg bg R i kb kr h:=by
 have l0:0<h.length:=A.rec λc e _=>(Bm.mp e).1
 have e1:∀f13 f14,runS (n+11) (cR (n+11)) (A0b (n+11)).2 (.ex (.meth (.loc 6) 13 [(.tup [(.loc 7),(.loc 8),(.loc 5)])])) (zF t at_ pat beg bg i kb kr (some (ps [40])) (some (pb false)) (some (pb false)) f13 f14) h=.next (zF t at_ pat beg bg i kb kr (some (ps [40])) (some (pb false)) (some (pb false)) f13 f14) (h.set 0 (.lstR ((P++[(kb,kr,i)]).map frV))):=
  λf13 f14=>push_run (p:=(kb,kr,i)) A rfl (xq λz=>z) hb
 have hl:(h.set 0 (.lstR ((P++[(kb,kr,i)]).map frV))).length=h.length:=Cq ..
 have hl2:(h.set 0 (.lstR ((P++[(kb,kr,i)]).map frV))++[Cl.lst []]).length=h.length+1:=by rw[Ae,hl];rfl
 refine A7t a A (A7q rfl) (B8s rfl rfl rfl) (i':=i+1) (kb':=(h.set 0 (.lstR ((P++[(kb,kr,i)]).map frV))).length) (kr':=(h.set 0 (.lstR ((P++[(kb,kr,i)]).map frV))++[Cl.lst []]).length) (h':=h.set 0 (.lstR ((P++[(kb,kr,i)]).map frV))++[Cl.lst []]++[Cl.lst []])
  (λf13 f14=>⟨_,_,_,_,_,A0w (xq λz=>z) (A1x (xq λz=>z) (lcons (e1 f13 f14) (lq λz=>z)))⟩) (k _ _ _ ⟨A1q A6d,A6d,?_,?_,?_⟩ ?_ (λx c e n0=>A1q (A1q (A2h e n0))) (Aj hl.symm) (hl2▸A9 _))
 ·rw[hl,hl2];exact B8 (Ax _)
 ·rw[hl];exact Nat.ne_of_gt l0
 ·rw[hl2];exact Nat.succ_ne_zero _
 ·exact A.rec λc e _=>⟨_,A1q (A1q (A2m e)),.r _⟩
theorem t_close(a:At t i (41::s))(A:PA h (P++[(kb0,kr0,op)]))(L:LS h kb kr bs row)(L0:LS h kb0 kr0 bs0 row0)(hb:bs.length+1<=big)(hr:row0.length+1<=big)
  (k:∀h',LS h' kb0 kr0 bs0 (row0++[altA (bs++[catA row])])->PA h' P->(∀x c,h[x]?=some c->x≠0->x≠kr0->h'[x]?=some c)->A0l n t at_ pat beg bg R (i+1) kb0 kr0 h'):A0l n t at_ pat beg bg R i kb kr h:=by
 have ne:(P++[(kb0,kr0,op)]).isEmpty=false:=by cases P <;> rfl
 have L1:=A2h (c':=.lstR (P.map frV)) L0.r L0.r0
 have ap:∀{ρ:Lo},ρ[8]?=some (some (.ref kr0))->ρ[13]?=some (some (.p (A0c (altA (bs++[catA row])))))->runS (n+11) (cR (n+11)) (A0b (n+11)).2 (.ex (.meth (.loc 8) 13 [(.loc 13)])) ρ (h.set 0 (.lstR (P.map frV)))=.next ρ ((h.set 0 (.lstR (P.map frV))).set kr0 (.lst ((row0++[altA (bs++[catA row])]).map A0c))):=λh8 h13=>by
  rw[←A0y (f:=A0c)]
  exact A5b h8 L1 (locx h13) (by rw[Aw];exact hr)
 refine A7t a A (A7q rfl) (by rw[ne];rfl) (i':=i+1) (kb':=kb0) (kr':=kr0) (h':=(h.set 0 (.lstR (P.map frV))).set kr0 (.lst ((row0++[altA (bs++[catA row])]).map A0c)))
  (λf13 f14=>⟨_,_,_,_,_,A0w (xq λz=>z) (A0w (xq λz=>z) (A1x (xq λz=>z) (lcons (A8h (i:=13) (call2x (j1:=7) (j2:=8) rfl rfl L.b L.r L.ne (A5r (n:=n+8) hb))) (lcons (pop_run A rfl) (lcons (ap rfl rfl) (lq λz=>z))))))⟩) (k _ ⟨A2h (A2h L0.b L0.b0) L0.ne,A2m L1,L0.ne,L0.b0,L0.r0⟩ (A.rec λc e _=>⟨_,A2h (A2m e) (Ne.symm L0.r0),.r _⟩) λx c e n0 n1=>A2h (A2h e n0) n1)
theorem t_over(a:At t i s)(A:PA h (P++[(kb0,kr0,op)]))(ho:ovB pat s=true):A0l n t at_ pat beg bg (fauV op) i kb kr h:=by
 refine A8c (h':=h) a A λf13 f14=> ?_
 rw[ho]
 refine lret (a:=[stm b80w 3]) (b:=b80w.drop 4) (A1x (xq λz=>z _ rfl) (lret (a:=(cmT (stm b80w 3)).take 1) (b:=(cmT (stm b80w 3)).drop 1) (A1x (pile_ne A rfl) ?_)))
 show((((Rs.ok (.p (.str [102,97,117,108,116])) h:Rs V).bind λv h1=>((runX _ _ (.sub (.sub (.loc 6) (.neg (.lit (.int 1)))) (.lit (.int 2))) _ h1).bind λv h1=>Rs.ok [v] h1).bind λvs h2=>Rs.ok (v::vs) h2).bind λvs h1=>(match allP vs with | some ps=>Rs.ok (.p (.tup ps)) h1 | none=>.ok (.tup vs) h1)).st _ λv h1=>Ro.ret v h1).sq _=_
 show(((((runX _ _ (.sub (.sub (.loc 6) (.neg (.lit (.int 1)))) (.lit (.int 2))) _ h).bind λv h1=>Rs.ok [v] h1).bind λvs h2=>Rs.ok (V.p (.str [102,97,117,108,116])::vs) h2).bind λvs h1=>(match allP vs with | some ps=>Rs.ok (.p (.tup ps)) h1 | none=>.ok (.tup vs) h1)).st _ λv h1=>Ro.ret v h1).sq _=_
 rw[B6l A rfl];rfl
theorem call_a{v:AVal}{row':List Tr}{f10 f11 f12 f13 f14:Option V}(L:LS h kb kr bs row)(e:atL t i row (n+1)=.ok (.p v) (rowH row')):rX n (.call 79 [(.loc 0),(.loc 5),(.loc 8)]) (zF t at_ pat beg bg i kb kr f10 f11 f12 f13 f14) h=.ok (.p v) (h.set kr (.lst (row'.map A0c))):=
 B9e (vs:=[ps t,pi i,.ref kr]) (us:=[ps t,pi i,.ref 0]) rfl L.r e
noncomputable abbrev atS:List Cm:=cmE (stm (cmE (stm (cmE (stm b80w 4)) 0)) 0)
theorem t_atE{c e:Nat}{row':List Tr}(a:At t i (c::s))(A:PA h P)(L:LS h kb kr bs row)(ho:ovB pat (c::s)=false)(hc:ctB pat P.isEmpty (c::s)=false)(h1:Nat.beq c 124=false)(h2:Nat.beq c 40=false)(h3:Nat.beq c 41=false)
  (q:atL t i row (n+1)=.ok (.p (.tup [.none,nV e])) (rowH row')):A0l n t at_ pat beg bg (fauV e) i kb kr h:=by
 refine A8c (h':=h.set kr (.lst (row'.map A0c))) a A λf13 f14=> ?_
 rw[ho,hc]
 refine lcat (a:=[stm b80w 3]) (b:=b80w.drop 4) (A0w (xq λz=>z _ rfl) rfl) (A0w (xb h1 λz=>z) (A0w (xb h2 λz=>z) (A0w (xb h3 λz=>z) ?_)))
 refine lcons (c:=stm atS 0) (b:=atS.drop 1) (ρ':=zF t at_ pat beg bg e kb kr (some (ps [c])) (some (pb false)) (some (pb false)) (some (.p .none)) f14) (h':=h.set kr (.lst (row'.map A0c))) ?_ (lret (a:=[stm atS 1]) (b:=atS.drop 2) (lq λz=>z _ rfl))
 show(rX n (.call 79 [(.loc 0),(.loc 5),(.loc 8)]) (zF t at_ pat beg bg i kb kr (some (ps [c])) (some (pb false)) (some (pb false)) f13 f14) h).st _ (λv h1=>asgO v [13,5] _ h1)=_
 rw[call_a L q];rfl
theorem t_atO{c j:Nat}{m:Tr}{row':List Tr}(a:At t i (c::s))(A:PA h P)(L:LS h kb kr bs row)(ho:ovB pat (c::s)=false)(hc:ctB pat P.isEmpty (c::s)=false)(h1:Nat.beq c 124=false)(h2:Nat.beq c 40=false)(h3:Nat.beq c 41=false)(hb:row'.length+1<=big)
  (q:atL t i row (n+1)=.ok (.p (.tup [A0c m,nV j])) (rowH row')) (k:∀h',LS h' kb kr bs (row'++[m])->(∀x c,h[x]?=some c->x≠kr->h'[x]?=some c)->A0l n t at_ pat beg bg R j kb kr h'):A0l n t at_ pat beg bg R i kb kr h:=by
 have L1:(h.set kr (.lst (row'.map A0c)))[kr]?=some (.lst (row'.map A0c)):=A2m L.r
 have ap:∀{ρ:Lo},ρ[8]?=some (some (.ref kr))->ρ[13]?=some (some (.p (A0c m)))->runS (n+11) (cR (n+11)) (A0b (n+11)).2 (.ex (.meth (.loc 8) 13 [(.loc 13)])) ρ (h.set kr (.lst (row'.map A0c)))=.next ρ ((h.set kr (.lst (row'.map A0c))).set kr (.lst ((row'++[m]).map A0c))):=λh8 h13=>by
  rw[←A0y (f:=A0c)]
  exact A5b h8 L1 (locx h13) (by rw[Aw];exact hb)
 refine A7t a A ho hc (i':=j) (kb':=kb) (kr':=kr) (h':=(h.set kr (.lst (row'.map A0c))).set kr (.lst ((row'++[m]).map A0c))) (λf13 f14=>⟨some (ps [c]),some (pb false),some (pb false),some (.p (A0c m)),f14,A0w (xb h1 λz=>z) (A0w (xb h2 λz=>z) (A0w (xb h3 λz=>z) (lcons (c:=stm atS 0) (b:=atS.drop 1) (ρ':=zF t at_ pat beg bg j kb kr (some (ps [c])) (some (pb false)) (some (pb false)) (some (.p (A0c m))) f14) (h':=h.set kr (.lst (row'.map A0c))) ?_ (lcat (a:=[stm atS 1]) (b:=atS.drop 2) (A0w (xb A8r λz=>z) rfl) (lcons (ap rfl rfl) rfl)))))⟩) (k _ ⟨A2h (A2h L.b L.ne) L.ne,A2m L1,L.ne,L.b0,L.r0⟩ λx c e n1=>A2h (A2h e n1) n1)
 show(rX n (.call 79 [(.loc 0),(.loc 5),(.loc 8)]) (zF t at_ pat beg bg i kb kr (some (ps [c])) (some (pb false)) (some (pb false)) f13 f14) h).st _ (λv h1=>asgO v [13,5] _ h1)=_
 rw[call_a L q];rfl
end
noncomputable def cw(p:Nat->Bool)(t:List Nat)(i:Nat):Nat:=(t.drop i).countP p
noncomputable def lpC(c:Nat):Bool:=([42,43,63,123]:List Nat).contains c
noncomputable abbrev pc(t:List Nat)(i:Nat):Nat:=cw (Nat.beq 40) t i
noncomputable abbrev lc(t:List Nat)(i:Nat):Nat:=cw lpC t i
noncomputable def hm(t:List Nat)(i:Nat):Nat:=2*pc t i+lc t i
section
variable{t s:List Nat}{i j k d:Nat}{p:Nat->Bool}
theorem A3d(h:i<=j):cw p t j<=cw p t i:=by
 unfold cw
 have e:t.drop j=(t.drop i).drop (j-i):=by rw[List.drop_drop,Nat.add_sub_cancel' h]
 rw[e]
 exact List.Sublist.countP_le (List.drop_sublist _ _)
theorem cw_lt{c:Nat}(a:At t i (c::s))(h:p c=true):cw p t (i+1)+1=cw p t i:=by
 unfold cw
 rw[a,a.c1.n,List.countP_cons_of_pos h]
theorem A6b(h:i<=j):hm t j<=hm t i:=Be (B6 2 (A3d h)) (A3d h)
theorem lp_head{c:Nat}(h:isLp (c::s)=true):lpC c=true:=by
 rcases Bool.or_eq_true_iff.mp h with h | h
 ·rcases Bf.mp (A4.mp h) with rfl | h
  ·rfl
  ·rcases Bf.mp h with rfl | h
   ·rfl
   ·cases Bo.mp h;rfl
 ·cases An (bL h);rfl
end
inductive GO(t:List Nat)(i C:Nat)(E:Nat->Prop)(K:Tr->Nat->Prop):Prop
 |er (e:Nat) (lt:e<t.length) (h:E e)
 |ok (m:Tr) (k:Nat) (le:i<=k) (hb:(hh m).1+hm t k<=hm t i+C) (h:K m k)
section
variable{t s:List Nat}{i j k d at_ bg:Nat}{D:AVal}{pat beg:Bool}
noncomputable def stB(pat:Bool)(d:Nat):List Nat->Bool
 |[]=>true
 |c::_=>Nat.beq c 124|| (Nat.beq c 41|| (pat&& (A1d.contains c|| (Nat.beq d 0&& (Nat.beq c 47||Nat.beq c 36)))))
theorem A6p{n:Nat}(a:At t i s):cR (n+2) 41 [.obj 18 0] (rdH D pat t i d)=.ok (pb (stB pat d s)) (rdH D pat t i d):=by
 cases s with
 |nil=>exact ck λq=>q _ (A0f a) _ rfl _ rfl
 |cons c s=>
  show _=Rs.ok (pb (Nat.beq c 124|| (Nat.beq c 41|| (pat&& (A1d.contains c|| (Nat.beq d 0&& (Nat.beq c 47||Nat.beq c 36))))))) (rdH D pat t i d)
  cases h1:Nat.beq c 124 with
  |true=>exact ck λq=>q _ (A0f a) _ rfl _ h1 _ rfl
  |false=>
   cases h2:Nat.beq c 41 with
   |true=>exact ck λq=>q _ (A0f a) _ rfl _ h1 _ h2
   |false=>
    cases pat with
    |false=>exact ck λq=>q _ (A0f a) _ rfl _ h1 _ h2 _ rfl
    |true=>
     cases h3:A1d.contains c with
     |true=>exact ck λq=>q _ (A0f a) _ rfl _ h1 _ h2 _ rfl _ h3
     |false=>
      cases h4:Nat.beq d 0 with
      |false=>exact ck λq=>q _ (A0f a) _ rfl _ h1 _ h2 _ rfl _ h3 _ h4
      |true=>
       cases h5:Nat.beq c 47 with
       |true=>exact ck λq=>q _ (A0f a) _ rfl _ h1 _ h2 _ rfl _ h3 _ h4 _ h5
       |false=>exact ck λq=>q _ (A0f a) _ rfl _ h1 _ h2 _ rfl _ h3 _ h4 _ h5
structure LQ(t:List Nat)(h:Ht)(kb kr i:Nat)(bs row:List Tr)(P:Pile)(d:Nat):Prop where
 L:LS h kb kr bs row
 A:PA h P
 d:P.length=d
 b:bs.length<=i
 r:row.length<=i
 c:bs.length<=t.length
def Nx(t:List Nat)(at_:Nat)(pat beg:Bool)(bg n:Nat)(R:AVal)(h:Ht)(kb kr k:Nat)(bs row:List Tr)(P:Pile)(d:Nat):Prop:=∀h',LQ t h' kb kr k bs row P d->Kp h h' kb kr->A0l n t at_ pat beg bg R k kb kr h'
theorem A7c(T:TT t)(hi:i<t.length)(h:k<=i):k+1<=big:=Aa (Ah (Aa h (Aa (Ak hi) T.ts))) (nbl rfl)
theorem Kp.rf{h:Ht}{kb kr:Nat}:Kp h h kb kr:=λ_ _ e _ _ _=>e
theorem Kp.tr{h h1 h2:Ht}{kb kr:Nat}(a:Kp h h1 kb kr)(b:Kp h1 h2 kb kr):Kp h h2 kb kr:=λx c e n0 n1 n2=>b x c (a x c e n0 n1 n2) n0 n1 n2
theorem B5x{d:Nat}{c:Nat}{P:Pile}(h:stB pat d (c::s)=false)(hd:P.length=d):ovB pat (c::s)=false/\ctB pat P.isEmpty (c::s)=false/\Nat.beq c 124=false/\Nat.beq c 41=false:=by
 have h:=Bool.or_eq_false_iff.mp h
 have h2:=Bool.or_eq_false_iff.mp h.2
 have e:P.isEmpty=Nat.beq d 0:=by subst hd;cases P <;> rfl
 refine⟨?_,?_,h.1,h2.1⟩
 ·cases pat with
  |false=>rfl
  |true=>exact(Bool.or_eq_false_iff.mp h2.2).1
 ·show(P.isEmpty&& (Nat.beq c 41|| (pat&& (Nat.beq c 47||Nat.beq c 36))))=false
  rw[h2.1,e]
  cases pat with
  |false=>exact Cj _
  |true=>exact(Bool.or_eq_false_iff.mp h2.2).2
def LpK(D:AVal)(pat:Bool)(t:List Nat)(at_:Nat)(beg:Bool)(bg d:Nat)(xs:List AVal)(j:Nat)(m m':Tr)(k:Nat):Prop:=
 (isLp (t.drop k)=false/\t.length-k+sz m'<=t.length-j+sz m)/\(∀n a f3 f4,loT (lpB n) xs (oF a m f3 f4) (rdH D pat t j d)=.ret (.p (A0d m')) (rdH D pat t k d))/\
 ∀n R h kb kr bs row P,LQ t h kb kr j bs (row++[m]) P d->Nx t at_ pat beg bg n R h kb kr k bs (row++[m']) P d->A0l n t at_ pat beg bg R j kb kr h
def LpE(D:AVal)(pat:Bool)(t:List Nat)(at_:Nat)(beg:Bool)(bg d:Nat)(xs:List AVal)(j:Nat)(m:Tr)(e:Nat):Prop:=
 (∀n a f3 f4,∃ρ,loT (lpB n) xs (oF a m f3 f4) (rdH D pat t j d)=.exc ρ (posV t (Int.ofNat e)))/\
 ∀n h kb kr bs row P,LQ t h kb kr j bs (row++[m]) P d->A0l n t at_ pat beg bg (fauV e) j kb kr h
theorem lp_all(T:TT t):∀(xs:List AVal) {j:Nat} {m:Tr},lc t j<xs.length->GO t j (hh m).1 (LpE D pat t at_ beg bg d xs j m) (LpK D pat t at_ beg bg d xs j m):=by
 intro xs
 induction xs with
 |nil=>exact λh=>absurd h (Nat.not_lt_zero _)
 |cons x xs ih=>
  intro j m hx
  have a:At t j (t.drop j):=rfl
  cases hl:isLp (t.drop j) with
  |false=>exact .ok m j (Ac _) (Aj (Bg _ _)) ⟨⟨hl,Ac _⟩,λn b f3 f4=>B8a (lp_no a hl),λn R h kb kr bs row P Q N=>N h Q .rf⟩
  |true=>
   revert a hl
   generalize t.drop j=s
   intro a hl
   cases s with
   |nil=>cases hl
   |cons c s=>
    have hc:=lp_head hl
    have ct:=cw_lt a hc
    have c124:Nat.beq c 124=false/\Nat.beq c 40=false/\Nat.beq c 41=false/\A1d.contains c=false/\Nat.beq c 47=false/\Nat.beq c 36=false:=by
     have q:=A5i (p:=λc=>(!Nat.beq c 124)&& ((!Nat.beq c 40)&& ((!Nat.beq c 41)&& ((!A1d.contains c)&& ((!Nat.beq c 47)&& !Nat.beq c 36))))) (by decide+kernel:([42,43,63,123]:List Nat).all _=true) hc
     exact⟨nB' (bL q),nB' (bL (bR q)),nB' (bL (bR (bR q))),nB' (bL (bR (bR (bR q)))),nB' (bL (bR (bR (bR (bR q))))),nB' (bR (bR (bR (bR (bR q)))))⟩
    have Qk:∀{h h':Ht} {kb kr k:Nat} {bs row:List Tr} {P:Pile} {m':Tr},LQ t h kb kr j bs (row++[m]) P d->j<k->LS h' kb kr bs (row++[m'])->(∀x c,h[x]?=some c->x≠kr->h'[x]?=some c)->LQ t h' kb kr k bs (row++[m']) P d:=
     λQ lt L F=>⟨L,Q.A.rec λc e p=>⟨c,F 0 c e (Ne.symm Q.L.r0),p⟩,Q.d,Aa Q.b (Ak lt),Aa (Aj (by rw[Ae,Ae];rfl)) (Aa Q.r (Ak lt)),Q.c⟩
    have ro:∀{row:List Tr},(row++[m]).length<=j->row.length+1<=big:=λ{row} q=>Aa (Aj (Ae (as:=row) (bs:=[m])).symm) (Bl (A7c T a.lt q))
    cases lp_ex (D:=D) (pat:=pat) (d:=d) (m:=m) T a hl with
    |er e lt p l=>exact .er e lt ⟨λn b f3 f4=>⟨_,B8b (p n b x f3 f4)⟩,λn h kb kr bs row P Q=>t_atE a Q.A Q.L (A7q c124.2.2.2.1) (B8s c124.2.2.1 c124.2.2.2.2.1 c124.2.2.2.2.2) c124.1 c124.2.1 c124.2.2.1 (l row _)⟩
    |ok m' k hb lt p l=>
     have turn:∀{n:Nat} {h:Ht} {kb kr:Nat} {bs row:List Tr} {P:Pile} {R:AVal},LQ t h kb kr j bs (row++[m]) P d->(∀h',LQ t h' kb kr k bs (row++[m']) P d->Kp h h' kb kr->A0l n t at_ pat beg bg R k kb kr h')->A0l n t at_ pat beg bg R j kb kr h:=
      λQ K=>t_atO a Q.A Q.L (A7q c124.2.2.2.1) (B8s c124.2.2.1 c124.2.2.2.2.1 c124.2.2.2.2.2) c124.1 c124.2.1 c124.2.2.1 (ro Q.r) (l _ _) λh' L F=>K h' (Qk Q lt L F) λx c e _ _ n2=>F x c e n2
     have hk:lc t k+1<=lc t j:=Aa (Ah (A3d lt)) (Aj ct)
     cases ih (j:=k) (m:=m') (Ap hk (Bw hx)) with
     |er e le h=>exact .er e le ⟨λn b f3 f4=>(h.1 n b _ _).elim fun ρ w=>⟨ρ,A1a (p n b x f3 f4) w⟩,λn h0 kb kr bs row P Q=>turn Q λh' Q' _=>h.2 n h' kb kr bs row P Q'⟩
     |ok m2 k2 le2 hb2 h=>
      refine .ok m2 k2 (Aa (Ak lt) le2) (Aa hb2 ?_) ⟨⟨h.1.1,Aa h.1.2 hb.2⟩,λn b f3 f4=>A1a (p n b x f3 f4) (h.2.1 n b _ _),λn R h0 kb kr bs row P Q N=>turn Q λh' Q' F=>h.2.2 n R h' kb kr bs row P Q' λh2 L2 F2=>N h2 L2 (F.tr F2)⟩
      have q:hm t k+1<=hm t j:=Aa (Aj (A7 _ _ _)) (Be (B6 2 (A3d (Ak lt))) hk)
      exact Aa (Au hb.1 _) (Aa (Aj (Bj _ _ 1)) (Ay q _))
end
section
variable{t s:List Nat}{i j k d at_ bg:Nat}{D:AVal}{pat beg:Bool}{row:List Tr}
noncomputable abbrev xsL:List AVal:=(A0t 0 21).map .int
theorem w_looped{n:Nat}{m m':Tr}(q:LpK D pat t at_ beg bg d xsL j m m' k):cR (n+9) 44 [.obj 18 0,.p (A0d m)] (rdH D pat t j d)=.ok (.p (A0d m')) (rdH D pat t k d):=
 ck λz=>z rfl _ (q.2.1 n (.p (A0d m)) none none)
theorem B4u{n e:Nat}{m:Tr}(q:LpE D pat t at_ beg bg d xsL j m e):cR (n+9) 44 [.obj 18 0,.p (A0d m)] (rdH D pat t j d)=.exc (posV t (Int.ofNat e)):=
 (q.1 n (.p (A0d m)) none none).elim fun ρ w=>ck λz=>z rfl _ w
def ChE(D:AVal)(pat:Bool)(t:List Nat)(at_:Nat)(beg:Bool)(bg d i e:Nat):Prop:=
 (∀n,3*pc t i<=n->cR (n+14) 42 [.obj 18 0] (rdH D pat t i d)=.exc (posV t (Int.ofNat e)))/\
 ∀n h kb kr P,LQ t h kb kr i [] [] P d->A0l n t at_ pat beg bg (fauV e) i kb kr h
structure ChK(D:AVal)(pat:Bool)(t:List Nat)(at_:Nat)(beg:Bool)(bg d i:Nat)(m:Tr)(k:Nat):Prop where
 s:stB pat d (t.drop k)=true
 b:eqS ((t.drop k).take 1) [124]=false
 z:t.length-k+sz m<=t.length-i+1
 p:∀n,3*pc t i<=n->cR (n+14) 42 [.obj 18 0] (rdH D pat t i d)=.ok (.p (A0d m)) (rdH D pat t k d)
 l:∀n R h kb kr P,LQ t h kb kr i [] [] P d->(∀bs row,altA (bs++[catA row])=m->∀h' kr',LQ t h' kb kr' k bs row P d->Kp h h' kb kr->A0l n t at_ pat beg bg R k kb kr' h')->A0l n t at_ pat beg bg R i kb kr h
abbrev Ch(D:AVal)(pat:Bool)(t:List Nat)(at_:Nat)(beg:Bool)(bg d i:Nat):Prop:=GO t i 4 (ChE D pat t at_ beg bg d i) (ChK D pat t at_ beg bg d i)
def PtE(D:AVal)(pat:Bool)(t:List Nat)(at_:Nat)(beg:Bool)(bg d:Nat)(row:List Tr)(i e:Nat):Prop:=
 (∀n,3*pc t i<=n->siP D pat t i d n=.exc (posV t (Int.ofNat e)))/\
 ∀n h kb kr bs P,LQ t h kb kr i bs row P d->A0l n t at_ pat beg bg (fauV e) i kb kr h
def PtK(D:AVal)(pat:Bool)(t:List Nat)(at_:Nat)(beg:Bool)(bg d:Nat)(row:List Tr)(i:Nat)(m:Tr)(k:Nat):Prop:=
 (i<k/\t.length-k+sz m<=t.length-i)/\(∀n,3*pc t i<=n->siP D pat t i d n=.ok (.p (A0d m)) (rdH D pat t k d))/\
 ∀n R h kb kr bs P,LQ t h kb kr i bs row P d->Nx t at_ pat beg bg n R h kb kr k bs (row++[m]) P d->A0l n t at_ pat beg bg R i kb kr h
abbrev Pt(D:AVal)(pat:Bool)(t:List Nat)(at_:Nat)(beg:Bool)(bg d:Nat)(row:List Tr)(i:Nat):Prop:=GO t i 2 (PtE D pat t at_ beg bg d row i) (PtK D pat t at_ beg bg d row i)
theorem st_over(h:stB pat (d+1) s=true)(h1:eqS (s.take 1) [124]=false)(h2:eqS (s.take 1) [41]=false):ovB pat s=true:=by
 cases s with
 |nil=>rfl
 |cons c s=>
  have h:(Nat.beq c 124|| (Nat.beq c 41|| (pat&& (A1d.contains c||false))))=true:=h
  rw[show Nat.beq c 124=false from h1,show Nat.beq c 41=false from h2,Ce] at h
  exact h
theorem part_b(T:TT t)(a:At t i (40::s))(hd:d+pc t i<=20)(C:Ch D pat t at_ beg bg (d+1) (i+1)):Pt D pat t at_ beg bg d row i:=by
 have ct:pc t (i+1)+1=pc t i:=cw_lt a rfl
 have f3:∀{n:Nat},3*pc t i<=n->∃n',n=n'+3/\3*pc t (i+1)<=n':=λ{n} q=>by
  rw[←ct] at q
  exact⟨n-3,(Cw (Aa (Bb 3 _) q)).symm,Nat.le_sub_of_add_le q⟩
 have hd20:d<20:=Ap (B5 (ct▸Ar _)) hd
 have gd:Nat.beq d 20=false:=Bn.mpr λz=>B8 hd20 (An z)
 have so:∀{h:Ht} {kb kr:Nat} {bs row:List Tr} {P:Pile},LQ t h kb kr i bs row P d->∀{R:AVal} {n:Nat},(∀h' kb' kr',LQ t h' kb' kr' (i+1) [] [] (P++[(kb,kr,i)]) (d+1)->LS h' kb kr bs row->(∀x c,h[x]?=some c->x≠0->h'[x]?=some c)->h.length<=kb'->h.length<=kr'->A0l n t at_ pat beg bg R (i+1) kb' kr' h')->A0l n t at_ pat beg bg R i kb kr h:=
  λQ _ _ K=>t_open a Q.A (Q.d▸Aa hd20 (nbl rfl)) λh' kb' kr' L A F l1 l2=>K h' kb' kr' ⟨L,A,by rw[Ae,Q.d];rfl,Ag _,Ag _,Ag _⟩ ⟨F _ _ Q.L.b Q.L.b0,F _ _ Q.L.r Q.L.r0,Q.L.ne,Q.L.b0,Q.L.r0⟩ F l1 l2
 cases C with
 |er e lt q=>exact .er e lt ⟨λn hn=>by
   obtain⟨n',e',hn'⟩:=f3 hn
   subst e'
   exact ck λz=>z _ (A0m a) _ rfl _ gd _ (q.1 n' hn'),λn h kb kr bs P Q=>so Q λh' kb' kr' Q' _ _ _ _=>q.2 n h' kb' kr' _ Q'⟩
 |ok m k le hb q=>
  have h2:hm t (i+1)+2<=hm t i:=Aa (Aj (Bj _ _ _)) (Be (Aj (congrArg (2* ·) ct)) (A3d (A9 i)))
  cases he:eqS ((t.drop k).take 1) [41] with
  |false=>exact .er i a.lt ⟨λn hn=>by
    obtain⟨n',e',hn'⟩:=f3 hn
    subst e'
    exact ck λz=>z _ (A0m a) _ rfl _ gd _ (q.p n' hn') _ (A0e rfl he) _ rfl T.tl,λn h kb kr bs P Q=>so Q λh' kb' kr' Q' _ _ _ _=>q.l n _ h' kb' kr' _ Q' λbs' row' _ h2 kr2 Q2 _=>t_over rfl Q2.A (st_over q.s q.b he)⟩
  |true=>
   have a2:∃s',At t k (41::s'):=by
    revert he
    generalize hs:t.drop k=s'
    intro he
    cases s' with
    |nil=>cases he
    |cons c s'=>cases An (show Nat.beq c 41=true from he);exact⟨s',hs⟩
   obtain⟨s',a2⟩:=a2
   refine .ok m (k+1) (Ak (B1 le)) (Aa (Au (A6b (A9 k)) _) (Aa hb (Ay h2 2))) ⟨⟨B1 le,Aa (Ay (Nat.sub_le_sub_left (A9 k) _) _) (Aa q.z (Bs a.lt (Ax i)))⟩,λn hn=> ?_,λn R h kb kr bs P Q N=>so Q λh' kb' kr' Q' L0 F l1 l2=>q.l n R h' kb' kr' _ Q' λbs' row' ea h2 kr2 Q2 K2=> ?_⟩
   ·obtain⟨n',e',hn'⟩:=f3 hn
    subst e'
    exact ckt (λz=>z _ (A0m a) _ rfl _ gd _ (q.p n' hn') _ (A0j a2 rfl) _ rfl) (congrArg (λx=>(Rs.ok (V.p (A0d m)) [Cl.dct [29,30,31,32] [.obj 3 1,.p D,pb pat,.p (.int x)],curV t (k+1)]:Rs V)) (sub1 (Ar d)))
   ·have le':i<=k+1:=Ak (B1 le)
    have u:∀x c,h[x]?=some c->x≠0->h2[x]?=some c:=λx c e n0=>K2 x c (F x c e n0) n0 (lt_of e l1) (lt_of e l2)
    exact t_close a2 Q2.A Q2.L ⟨u _ _ Q.L.b Q.L.b0,u _ _ Q.L.r Q.L.r0,Q.L.ne,Q.L.b0,Q.L.r0⟩ (A7c T a2.lt Q2.b) (A7c T a.lt Q.r) λh3 L3 A3 F3=>N h3 ⟨ea▸L3,A3,Q.d,Aa Q.b le',by rw[Ae];exact Ah (Aa Q.r (Ak le)),Q.c⟩ λx c e n0 n1 n2=>F3 x c (u x c e n0) n0 n2
end
section
variable{t s:List Nat}{i j k d at_ bg G:Nat}{D:AVal}{pat beg:Bool}{row:List Tr}
abbrev Kn(D:AVal)(t:List Nat):Prop:=∀i s,At t i (123::s)->D=kwV
theorem part_ex(T:TT t)(K:Kn D t)(hs:stB pat d (t.drop i)=false)(hr:isLp (t.drop i)=true->row=[])(hd:d+pc t i<=20)(C:∀d,d+pc t (i+1)<=20->Ch D pat t at_ beg bg d (i+1)):Pt D pat t at_ beg bg d row i:=by
 have a:At t i (t.drop i):=rfl
 revert a hs hr
 generalize t.drop i=s
 intro hs hr a
 cases s with
 |nil=>cases hs
 |cons c s=>
  cases h1:Nat.beq c 40 with
  |true=>
   cases An h1
   have ct:pc t (i+1)+1=pc t i:=cw_lt a rfl
   exact part_b T a hd (C (d+1) (by rw[←ct] at hd;exact Aa (Aj (Bj _ _ _)) hd))
  |false=>
   cases w_single (D:=D) (pat:=pat) (d:=d) T (λz=>K i s (An z▸a)) a h1 hr with
   |er e lt p l=>exact .er e lt ⟨λn _=>p n,λn h kb kr bs P Q=>have o:=B5x hs Q.d;t_atE a Q.A Q.L o.1 o.2.1 o.2.2.1 h1 o.2.2.2 (l _)⟩
   |ok m j hb lt p l=>exact .ok m j (Ak lt) (Aa (Be hb.1 (A6b (Ak lt))) (Aj (Bg _ _))) ⟨⟨lt,hb.2⟩,λn _=>p n,λn R h kb kr bs P Q N=>have o:=B5x hs Q.d;t_atO a Q.A Q.L o.1 o.2.1 o.2.2.1 h1 o.2.2.2 (A7c T a.lt Q.r) (l _) λh' L F=>N h' ⟨L,Q.A.rec λc e p=>⟨c,F 0 c e (Ne.symm Q.L.r0),p⟩,Q.d,Aa Q.b (Ak lt),by rw[Ae];exact As Q.r lt,Q.c⟩ λx c e _ _ n2=>F x c e n2⟩
theorem szL_s{x:Tr}:szL (row++[x])=szL row+sz x:=by unfold szL;rw[Cp,List.sum_append];rfl
abbrev wB(D:AVal)(pat:Bool)(t:List Nat)(i d n:Nat)(row:List Tr):Ro->Prop:=WhS (n+12) (cR (n+12)) (A0b (n+12)).2 (cmC (stm b43 1)) (cmB (stm b43 1)) [some (.obj 18 0),some (.ref 2)] (rdH D pat t i d++[.lst (row.map A0d)])
inductive MO(D:AVal)(pat:Bool)(t:List Nat)(at_:Nat)(beg:Bool)(bg d G i:Nat)(row:List Tr):Prop
 |er (e:Nat) (lt:e<t.length) (p:∀n,3*pc t i<=n->∃ρ,wB D pat t i d n row (.exc ρ (posV t (Int.ofNat e))))
   (l:∀n h kb kr bs P,LQ t h kb kr i bs row P d->A0l n t at_ pat beg bg (fauV e) i kb kr h)
 |ok (row':List Tr) (k:Nat) (le:i<=k) (hb:∀x,x∈row'->(hh x).1+hm t k<=G) (s:stB pat d (t.drop k)=true) (z:t.length-k+szL row'<=t.length-i+szL row)
   (p:∀n,3*pc t i<=n->wB D pat t i d n row (.next [some (.obj 18 0),some (.ref 2)] (rdH D pat t k d++[.lst (row'.map A0d)])))
   (l:∀n R h kb kr bs P,LQ t h kb kr i bs row P d->Nx t at_ pat beg bg n R h kb kr k bs row' P d->A0l n t at_ pat beg bg R i kb kr h)
theorem B6t(T:TT t)(K:Kn D t)(hd:d+pc t j<=20)(hl:lc t j<=20)(C:∀i,j<=i->i<t.length->∀d,d+pc t (i+1)<=20->Ch D pat t at_ beg bg d (i+1)):∀(M:Nat) {i:Nat} {row:List Tr},t.length-i<=M->j<=i->hm t i+2<=G->(∀x,x∈row->(hh x).1+hm t i<=G)->row.length<=i->(isLp (t.drop i)=true->row=[])->MO D pat t at_ beg bg d G i row:=by
 intro M
 induction M with
 |zero=>
  intro i row hM ji hG hb hn hr
  have a:t.drop i=[]:=List.drop_eq_nil_of_le (Cz.mp (Nat.eq_zero_of_le_zero hM))
  exact .ok row i (Ac _) hb (by rw[a];rfl) (Ac _) (λn _=>.no (cq λz=>z _ (A6p (d:=d) (pat:=pat) (D:=D) a))) λn R h kb kr bs P Q N=>N h Q .rf
 |succ M ih=>
  intro i row hM ji hG hb hn hr
  cases hs:stB pat d (t.drop i) with
  |true=>exact .ok row i (Ac _) hb hs (Ac _) (λn _=>.no (cb (congrArg not hs) λz=>z _ (A6p rfl))) λn R h kb kr bs P Q N=>N h Q .rf
  |false=>
   have hi:i<t.length:=Nat.lt_of_not_ge λz=>by rw[List.drop_eq_nil_of_le z] at hs;cases hs
   have go:∀n,(runX (cR (n+12)) (A0b (n+12)).2 (cmC (stm b43 1)) [some (.obj 18 0),some (.ref 2)] (rdH D pat t i d++[.lst (row.map A0d)])).bind truR=.ok true (rdH D pat t i d++[.lst (row.map A0d)]):=λn=>cb (congrArg not hs) λz=>z _ (A6p rfl)
   cases part_ex (at_:=at_) (beg:=beg) (bg:=bg) T K hs hr (Aa (Au (A3d ji) d) hd) (C i ji hi) with
   |er e lt q=>exact .er e lt (λn hn=>⟨_,.ex (go n) (lq λz=>z _ (q.1 n hn))⟩) q.2
   |ok m k le hb1 q=>
    cases lp_all (D:=D) (pat:=pat) (at_:=at_) (beg:=beg) (bg:=bg) (d:=d) T xsL (j:=k) (m:=m) (Bz (Aa (A3d (Aa ji le)) hl)) with
    |er e lt u=>exact .er e lt (λn hn=>⟨_,.ex (go n) (lq λz=>z _ (q.2.1 n hn) _ (B4u u))⟩) λn h kb kr bs P Q=>q.2.2 n _ h kb kr bs P Q λh' Q' _=>u.2 n h' kb kr bs row P Q'
    |ok m' k' le' hb2 u=>
     have ik:i<k':=Ap q.1.1 le'
     have hM':t.length-k'<=M:=Bw (Ap (Bs hi ik) hM)
     have hx:(hh m').1+hm t k'<=G:=Aa hb2 (Aa (Aj (Bg _ _)) (Aa hb1 hG))
     have st:∀n,3*pc t i<=n->runL (n+12) (cR (n+12)) (A0b (n+12)).2 (cmB (stm b43 1)) [some (.obj 18 0),some (.ref 2)] (rdH D pat t i d++[.lst (row.map A0d)])=.next [some (.obj 18 0),some (.ref 2)] (rdH D pat t k' d++[.lst ((row++[m']).map A0d)]):=λn hn'=>
      lqt (λz=>z _ (q.2.1 n hn') _ (w_looped u) (apB (A7c T hi hn))) (congrArg (λx=>Ro.next [some (.obj 18 0),some (.ref 2)] (rdH D pat t k' d++[.lst x])) (A0y (f:=A0d)))
     cases ih (i:=k') (row:=row++[m']) hM' (Aa ji (Ak ik)) (Aa (Ay (A6b (Ak ik)) 2) hG) (λx hx'=>by
       rcases Cd.mp hx' with z | z
       ·exact Aa (Au (A6b (Ak ik)) _) (hb x z)
       ·cases Bo.mp z;exact hx) (by rw[Ae];exact As hn ik) (λz=>by rw[u.1.1] at z;cases z) with
     |er e lt p l=>exact .er e lt (λn hn'=>(p n (Aa (B6 3 (A3d (Ak ik))) hn')).elim fun ρ w=>⟨ρ,.go (go n) (st n hn') w⟩) λn h kb kr bs P Q=>q.2.2 n _ h kb kr bs P Q λh' Q' _=>u.2.2 n _ h' kb kr bs row P Q' λh2 Q2 _=>l n h2 kb kr bs P Q2
     |ok row' k2 le2 hb3 s z3 p l=>exact .ok row' k2 (Aa (Ak ik) le2) hb3 s (Aa z3 (Aa (Aj (by rw[szL_s,Bg (szL row),←A7])) (Ay (Aa u.1.2 q.1.2) _))) (λn hn'=>.go (go n) (st n hn') (p n (Aa (B6 3 (A3d (Ak ik))) hn'))) λn R h kb kr bs P Q N=>q.2.2 n _ h kb kr bs P Q λh' Q' F1=>u.2.2 n _ h' kb kr bs row P Q' λh2 Q2 F2=>l n R h2 kb kr bs P Q2 λh3 Q3 F3=>N h3 Q3 ((F1.tr F2).tr F3)
end
theorem alt_h{k:Nat}:∀{r:List Tr} {x:Tr},(hh x).2.2<=k->(∀m,m∈r->(hh m).1<=k)->(hh (r.foldl .alt x)).2.2<=k:=by
 intro r
 induction r with
 |nil=>exact λh _=>h
 |cons y r ih=>exact λh a=>ih (Nat.max_le.mpr ⟨h,a y (.head _)⟩) λm q=>a m (.tail _ q)
theorem catA_c{c G:Nat}{ms:List Tr}(h1:1+c<=G)(a:∀m,m∈ms->(hh m).1+c<=G):(hh (catA ms)).1+c<=G+1:=by
 have q:=catA_h (k:=G-c) (Nat.le_sub_of_add_le h1) λm z=>Nat.le_sub_of_add_le (a m z)
 exact Aa (Ay q c) (Aj ((Bj _ _ _).trans (congrArg (· +1) (Cw (Aa (Bb c 1) h1)))))
theorem altA_c{c G:Nat}{ms:List Tr}{x:Tr}(a:∀m,m∈x::ms->(hh m).1+c<=G):(hh (altA (x::ms))).1+c<=G+1:=by
 have q:=alt_h (k:=G-c) (r:=ms) (x:=x) (Aa (hh_le x).2.1 (Nat.le_sub_of_add_le (a x (.head _)))) λm z=>Nat.le_sub_of_add_le (a m (.tail _ z))
 exact Aa (Ay (Aa (hh_le _).2.2.2 (Ah q)) c) (Aj ((Bj _ _ _).trans (congrArg (· +1) (Cw (Aa (Bb c _) (a x (.head _)))))))
theorem altA_s{x y:Tr}:∀{bs:List Tr},altA (bs++[x]++[y])=.alt (altA (bs++[x])) y:=by
 intro bs
 cases bs with
 |nil=>rfl
 |cons b bs=>exact List.foldl_append
theorem altA_n{x:Tr}:∀{bs:List Tr},∃y r,bs++[x]=y::r:=by
 intro bs;cases bs <;> exact⟨_,_,rfl⟩
theorem alt_z:∀{r:List Tr} {x:Tr},sz (r.foldl .alt x)=sz x+szL r:=by
 intro r
 induction r with
 |nil=>exact rfl
 |cons y r ih=>exact ih.trans (A7 _ _ _)
theorem altA_z{x:Tr}{bs:List Tr}:sz (altA (bs++[x]))=szL (bs++[x]):=by
 obtain⟨y,r,e⟩:=altA_n (x:=x) (bs:=bs)
 rw[e];exact alt_z
theorem catA_y{a b:Nat}{row:List Tr}(h:a+szL row<=b):a+sz (catA row)<=b+1:=
 Aa (Au (catA_z (k:=szL row+1) (Ah (Ag _)) (A9 _)) a) (Ah h)
section
variable{t s:List Nat}{i j k d at_ bg G:Nat}{D:AVal}{pat beg:Bool}{row bs:List Tr}
theorem A3v{n:Nat}{row':List Tr}(p:wB D pat t i d n [] (.next [some (.obj 18 0),some (.ref 2)] (rdH D pat t k d++[.lst (row'.map A0d)]))):cR (n+13) 43 [.obj 18 0] (rdH D pat t i d)=.ok (.p (A0d (catA row'))) (rdH D pat t k d):=
 ck λz=>z _ (WhS.s p) _ (B5a (n:=n+9))
theorem A8p{n e:Nat}(p:∃ρ,wB D pat t i d n [] (.exc ρ (posV t (Int.ofNat e)))):cR (n+13) 43 [.obj 18 0] (rdH D pat t i d)=.exc (posV t (Int.ofNat e)):=
 p.elim fun ρ p=>ck λz=>z _ (WhS.s p)
abbrev wC(D:AVal)(pat:Bool)(t:List Nat)(i d n:Nat)(m:Tr):Ro->Prop:=WhS (n+13) (cR (n+13)) (A0b (n+13)).2 (cmC (stm b42 1)) (cmB (stm b42 1)) [some (.obj 18 0),some (.p (A0d m))] (rdH D pat t i d)
inductive CO(D:AVal)(pat:Bool)(t:List Nat)(at_:Nat)(beg:Bool)(bg d G i:Nat)(bs row:List Tr):Prop
 |er (e:Nat) (lt:e<t.length) (p:∀n,3*pc t i<=n->∃ρ,wC D pat t i d n (altA (bs++[catA row])) (.exc ρ (posV t (Int.ofNat e))))
   (l:∀n h kb kr P,LQ t h kb kr i bs row P d->A0l n t at_ pat beg bg (fauV e) i kb kr h)
 |ok (bs' row':List Tr) (k:Nat) (le:i<=k) (hb:∀x,x∈bs'++[catA row']->(hh x).1+hm t k<=G+1) (s:stB pat d (t.drop k)=true) (b:eqS ((t.drop k).take 1) [124]=false) (z:t.length-k+szL (bs'++[catA row'])<=t.length-i+szL (bs++[catA row]))
   (p:∀n,3*pc t i<=n->wC D pat t i d n (altA (bs++[catA row])) (.next [some (.obj 18 0),some (.p (A0d (altA (bs'++[catA row']))))] (rdH D pat t k d)))
   (l:∀n R h kb kr P,LQ t h kb kr i bs row P d->(∀h' kr',LQ t h' kb kr' k bs' row' P d->Kp h h' kb kr->A0l n t at_ pat beg bg R k kb kr' h')->A0l n t at_ pat beg bg R i kb kr h)
theorem bar_ex(T:TT t)(K:Kn D t)(hd:d+pc t j<=20)(hl:lc t j<=20)(C:∀i,j<=i->i<t.length->∀d,d+pc t (i+1)<=20->Ch D pat t at_ beg bg d (i+1)):∀(M:Nat) {i:Nat} {bs row:List Tr},t.length-i<M->j<=i->stB pat d (t.drop i)=true->hm t i+2<=G->(∀x,x∈bs++[catA row]->(hh x).1+hm t i<=G+1)->CO D pat t at_ beg bg d G i bs row:=by
 intro M
 induction M with
 |zero=>exact λh=>absurd h (Nat.not_lt_zero _)
 |succ M ih=>
  intro i bs row hM ji hs hG hb
  cases he:eqS ((t.drop i).take 1) [124] with
  |false=>exact .ok bs row i (Ac _) hb hs he (Ac _) (λn _=>.no (cq λz=>z _ (A0e rfl he))) λn R h kb kr P Q N=>N h kr Q .rf
  |true=>
   have a:∃s',At t i (124::s'):=by
    revert he
    generalize hs:t.drop i=s'
    intro he
    cases s' with
    |nil=>cases he
    |cons c s'=>cases An (show Nat.beq c 124=true from he);exact⟨s',hs⟩
   obtain⟨s',a⟩:=a
   have i1:=A9 i
   have go:∀n m,(runX (cR (n+13)) (A0b (n+13)).2 (cmC (stm b42 1)) [some (.obj 18 0),some (.p (A0d m))] (rdH D pat t i d)).bind truR=.ok true (rdH D pat t (i+1) d):=λn m=>cq λz=>z _ (A0j a rfl)
   have tb:∀{n h kb kr P R},LQ t h kb kr i bs row P d->(∀h' kr',LQ t h' kb kr' (i+1) (bs++[catA row]) [] P d->Kp h h' kb kr->h.length<=kr'->A0l n t at_ pat beg bg R (i+1) kb kr' h')->A0l n t at_ pat beg bg R i kb kr h:=
    λQ N=>t_bar a Q.A Q.L (A7c T a.lt Q.b) λh' kr' L A F ln=>N h' kr' ⟨L,A,Q.d,by rw[Ae];exact Ah Q.b,Ag _,by rw[Ae];exact As Q.b a.lt⟩ F ln
   have u3:∀{n k},i<=k->3*pc t i<=n->3*pc t k<=n:=λle q=>Aa (B6 3 (A3d le)) q
   cases B6t (at_:=at_) (beg:=beg) (bg:=bg) (pat:=pat) (G:=G) (row:=[]) T K hd hl C _ (Ac _) (Aa ji i1) (Aa (Ay (A6b i1) 2) hG) (λ_ z=>nomatch z) (Ag _) (λ_=>rfl) with
   |er e lt p l=>exact .er e lt (λn hn=>⟨_,.ex (go n _) (lq λz=>z _ (A8p (p n (u3 i1 hn))))⟩) λn h kb kr P Q=>tb Q λh' kr' Q' _ _=>l n h' kb kr' _ P Q'
   |ok row' k le hb1 s1 z1 p l=>
    have ik:i<k:=le
    have st:∀n,3*pc t i<=n->runL (n+13) (cR (n+13)) (A0b (n+13)).2 (cmB (stm b42 1)) [some (.obj 18 0),some (.p (A0d (altA (bs++[catA row]))))] (rdH D pat t (i+1) d)=.next [some (.obj 18 0),some (.p (A0d (altA (bs++[catA row]++[catA row']))))] (rdH D pat t k d):=λn hn=>
     lqt (λz=>z _ (A3v (p n (u3 i1 hn))) _ (w_alt (n:=n+11))) (congrArg (λx=>Ro.next [some (.obj 18 0),some (.p (A0d x))] (rdH D pat t k d)) altA_s.symm)
    cases ih (i:=k) (bs:=bs++[catA row]) (row:=row') (Ap (Bs a.lt ik) (Bw hM)) (Aa ji (Ak ik)) s1 (Aa (Ay (A6b (Ak ik)) 2) hG) (λx hx=>by
      rcases Cd.mp hx with z | z
      ·exact Aa (Au (A6b (Ak ik)) _) (hb x z)
      ·cases Bo.mp z
       exact catA_c (Aa (Aj (Bg _ _)) (Bl (Aa (Ay (A6b (Ak ik)) 2) hG))) hb1) with
    |er e lt p2 l2=>exact .er e lt (λn hn=>(p2 n (u3 (Ak ik) hn)).elim fun ρ w=>⟨ρ,.go (go n _) (st n hn) w⟩) λn h kb kr P Q=>tb Q λh' kr' Q' _ _=>l n _ h' kb kr' _ P Q' λh2 Q2 _=>l2 n h2 kb kr' P Q2
    |ok bs2 row2 k2 le2 hb2 s2 b2 z2 p2 l2=>exact .ok bs2 row2 k2 (Aa (Ak ik) le2) hb2 s2 b2 (Aa z2 (Aa (Aj (by rw[szL_s (x:=catA row'),Bg (szL _),←A7])) (Ay (Aa (catA_y z1) (Bs a.lt (Ax i))) _))) (λn hn=>.go (go n _) (st n hn) (p2 n (u3 (Ak ik) hn))) λn R h kb kr P Q N=>tb Q λh' kr' Q' F1 ln=>l n R h' kb kr' _ P Q' λh2 Q2 F2=>l2 n R h2 kb kr' P Q2 λh3 kr3 Q3 F3=>N h3 kr3 Q3 λx c e n0 n1 n2=>(F2.tr F3) x c (F1 x c e n0 n1 n2) n0 n1 (lt_of e ln)
theorem ch_ex(T:TT t)(K:Kn D t):∀(M:Nat) {i d:Nat},t.length-i<M->d+pc t i<=20->lc t i<=20->Ch D pat t at_ beg bg d i:=by
 intro M
 induction M with
 |zero=>exact λh=>absurd h (Nat.not_lt_zero _)
 |succ M ih=>
  intro i d hM hd hl
  have C:∀i',i<=i'->i'<t.length->∀d,d+pc t (i'+1)<=20->Ch D pat t at_ beg bg d (i'+1):=λi' le lt d hd=>ih (Ap (Bs (As le lt) (Bz le)) (Bw hM)) hd (Aa (A3d (Az le)) hl)
  have u3:∀{n k},i<=k->3*pc t i<=n->3*pc t k<=n:=λle q=>Aa (B6 3 (A3d le)) q
  cases B6t (at_:=at_) (beg:=beg) (bg:=bg) (pat:=pat) (G:=hm t i+2) (row:=[]) T K hd hl C _ (Ac _) (Ac _) (Ac _) (λ_ z=>nomatch z) (Ag _) (λ_=>rfl) with
  |er e lt p l=>exact .er e lt ⟨λn hn=>ck λz=>z _ (A8p (p n hn)),λn h kb kr P Q=>l n h kb kr _ P Q⟩
  |ok row' k le hb1 s1 z1 p l=>
   cases bar_ex (at_:=at_) (beg:=beg) (bg:=bg) (pat:=pat) (G:=hm t i+2) (i:=k) (bs:=[]) (row:=row') T K hd hl C _ (Ax _) le s1 (Ay (A6b le) 2) (λx hx=>by
     cases Bo.mp hx
     exact catA_c (Aa (Aj (Bg _ _)) (Az (Ah (A6b le)))) hb1) with
   |er e lt p2 l2=>exact .er e lt ⟨λn hn=>(p2 n (u3 le hn)).elim fun ρ w=>ck λz=>z _ (A3v (p n hn)) _ (WhS.s w),λn h kb kr P Q=>l n _ h kb kr _ P Q λh2 Q2 _=>l2 n h2 kb kr P Q2⟩
   |ok bs2 row2 k2 le2 hb2 s2 b2 z2 p2 l2=>
    refine .ok (altA (bs2++[catA row2])) k2 (Aa le le2) ?_ ⟨s2,b2,Aa (Aj (congrArg (t.length-k2+ ·) altA_z)) (Aa z2 (catA_y z1)),λn hn=>ck λz=>z _ (A3v (p n hn)) _ (WhS.s (p2 n (u3 le hn))),λn R h kb kr P Q N=>l n R h kb kr _ P Q λh2 Q2 F2=>l2 n R h2 kb kr P Q2 λh3 kr3 Q3 F3=>N bs2 row2 rfl h3 kr3 Q3 (F2.tr F3)⟩
    obtain⟨y,r,e⟩:=altA_n (x:=catA row2) (bs:=bs2)
    rw[e] at hb2 ⊢
    exact altA_c hb2
end
section
variable{t s:List Nat}{n i j k d at_ bg:Nat}{D:AVal}{pat beg:Bool}{row bs:List Tr}{h:Ht}{o oi:Ob}{ρ:Lo}{R:AVal}{kb kr:Nat}{P:Pile}
theorem A5q(a:At t i s):cR (n+2) 40 [.obj 18 0] (rdH D pat t i d)=.ok (pb (ovB true s)) (rdH D pat t i d):=by
 cases s with
 |nil=>exact ck λq=>q _ (A0f a) _ rfl
 |cons c s=>exact ck λq=>q _ (A0f a) _ rfl
theorem B4y:cR (n+1) 3 [.obj 3 0,ps t,pi i] [.dct [] []]=.ok (.p .none) [curV t i]:=ck λq=>q
theorem A2p:cR (n+3) 39 [.obj 18 0,ps t,pi i,.p D,pb pat] [.dct [] []]=.ok (.p .none) (rdH D pat t i 0):=ck λq=>q _ (B4y (n:=n))
noncomputable def bgN(b:Bool)(i:Nat):Nat:=match b with | true=>i+1 | false=>i
noncomputable abbrev h4:Ht:=[.lst [],.lst [],.lst [],.lst []]
theorem law_run(a:At t at_ s)(hb:(pat&&eqS (s.take 1) [94])=beg)(r:A0l n t at_ pat beg (bgN beg at_) R (bgN beg at_) 1 2 h4):cR (n+12) 80 [ps t,pi at_,pb pat] []=.ok (.p R) []:=by
 obtain⟨h',w⟩:=r none none none none none
 cases pat with
 |false=>cases hb;exact ck λq=>q _ rfl _ rfl _ (WhS.s w)
 |true=>
  subst hb
  cases e:eqS (s.take 1) [94] with
  |false=>
   rw[show bgN (true&&eqS (s.take 1) [94]) at_=at_ from by rw[e];rfl] at w
   exact ck λq=>q _ rfl _ (slc (a.cut 1)) _ e _ (WhS.s w)
  |true=>
   rw[show bgN (true&&eqS (s.take 1) [94]) at_=at_+1 from by rw[e];rfl] at w
   exact ck λq=>q _ rfl _ (slc (a.cut 1)) _ e _ (WhS.s w)
end
section
variable{o oi:Ob}{n i j k:Nat}{h h1:Ht}{ρ:Lo}{a b c e e1:Ex}{u v w:AVal}{xs:List AVal}{P:Pile}{r:Rs V}{q:Bool}
theorem or_f(hx:runX o oi e ρ h=.ok (pb false) h):runX o oi (.or [e,e1]) ρ h=runX o oi e1 ρ h:=by
 show(runX o oi e ρ h).bind (λv h1=>onB (truV h1 v) (.ok v h1) (runX o oi e1 ρ h1))=_
 rw[hx];rfl
theorem or_t(hx:runX o oi e ρ h=.ok (pb true) h):runX o oi (.or [e,e1]) ρ h=.ok (pb true) h:=by
 show(runX o oi e ρ h).bind (λv h1=>onB (truV h1 v) (.ok v h1) (runX o oi e1 ρ h1))=_
 rw[hx];rfl
theorem xs_c{v:V}{vs:List V}{es:List Ex}(ha:runX o oi a ρ h=.ok v h)(hb:A1l o oi es ρ h=.ok vs h):A1l o oi (a::es) ρ h=.ok (v::vs) h:=by
 show(runX o oi a ρ h).bind (λv h1=>(A1l o oi es ρ h1).bind λvs h2=>Rs.ok (v::vs) h2)=_
 rw[ha]
 show(A1l o oi es ρ h).bind (λvs h2=>Rs.ok (v::vs) h2)=_
 rw[hb];rfl
theorem xtup{vs:List V}{ps:List AVal}{es:List Ex}(hs:A1l o oi es ρ h=.ok vs h)(hp:allP vs=some ps):runX o oi (.tup es) ρ h=.ok (.p (.tup ps)) h:=by
 show(A1l o oi es ρ h).bind (λvs h1=>match allP vs with | some ps=>(Rs.ok (V.p (AVal.tup ps)) h1:Rs V) | none=>Rs.ok (V.tup vs) h1)=_
 rw[hs]
 show(match allP vs with | some ps=>(Rs.ok (V.p (AVal.tup ps)) h:Rs V) | none=>Rs.ok (V.tup vs) h)=_
 rw[hp]
theorem xtup2(ha:runX o oi a ρ h=.ok (.p u) h)(hb:runX o oi b ρ h=.ok (.p v) h):runX o oi (.tup [a,b]) ρ h=.ok (.p (.tup [u,v])) h:=xtup (xs_c ha (xs_c hb rfl)) rfl
theorem xtup3(ha:runX o oi a ρ h=.ok (.p u) h)(hb:runX o oi b ρ h=.ok (.p v) h)(hc:runX o oi c ρ h=.ok (.p w) h):runX o oi (.tup [a,b,c]) ρ h=.ok (.p (.tup [u,v,w])) h:=xtup (xs_c ha (xs_c hb (xs_c hc rfl))) rfl
theorem pa_e(A:PA h P):isE h (.ref 0)=some P.isEmpty:=by
 obtain⟨c,hk,pc⟩:=A
 show(match h[0]? with | some c=>(match c with | .lst xs=>some xs.isEmpty | .lstR xs=>some xs.isEmpty | .dct _ _=>none) | none=>none)=_
 rw[hk]
 cases pc with
 |e=>rfl
 |r=>cases P <;> rfl
theorem li_e(hk:h[k]?=some (.lst xs)):isE h (.ref k)=some xs.isEmpty:=by
 show(match h[k]? with | some c=>(match c with | .lst xs=>some xs.isEmpty | .lstR xs=>some xs.isEmpty | .dct _ _=>none) | none=>none)=_
 rw[hk]
theorem emp_eq(hj:ρ[j]?=some (some (.ref k)))(hi:isE h (.ref k)=some q):runX o oi (.cmp .eq (.loc j) (.flist [])) ρ h=.ok (pb q) h:=by
 show((runX o oi (.loc j) ρ h).bind λx h1=>(Rs.ok (V.p (.lst [])) h1).bind λy h2=>(cmpO .eq x y h2).run)=_
 rw[locx hj]
 show(emO (isE h (.ref k)) (.p (.lst [])) h false).run=_
 rw[hi];rfl
theorem B2o(hj:ρ[j]?=some (some (.ref k)))(hi:isE h (.ref k)=some q):runX o oi (.cmp .ne (.loc j) (.flist [])) ρ h=.ok (pb (!q)) h:=by
 show((runX o oi (.loc j) ρ h).bind λx h1=>(Rs.ok (V.p (.lst [])) h1).bind λy h2=>(cmpO .ne x y h2).run)=_
 rw[locx hj]
 show(emO (isE h (.ref k)) (.p (.lst [])) h true).run=_
 rw[hi];rfl
theorem sub_k(hj:ρ[j]?=some (some (.ref k)))(hk:h[k]?=some (.lst xs))(hi:xs[i]?=some w):runX o oi (.sub (.loc j) (.lit (.int (Int.ofNat i)))) ρ h=.ok (.p w) h:=by
 show(runX o oi (.loc j) ρ h).bind (λv h1=>(subO v (pi i) h1).run)=_
 rw[locx hj]
 show O.run (match h[k]? with | some c=>(match c with | .lst xs=>O.oa (atI xs (Int.ofNat i)) h | .lstR xs=>O.ov (atI xs (Int.ofNat i)) h | .dct _ _=>O.bad) | none=>O.bad)=_
 rw[hk]
 show(match xs[i]? with | some n=>Rs.ok (V.p n) h | none=>Rs.bad)=_
 rw[hi]
theorem len_k(hj:ρ[j]?=some (some (.ref k)))(hk:h[k]?=some (.lst xs)):runX o oi (.bi .len [(.loc j)]) ρ h=.ok (pi xs.length) h:=by
 show(A1l o oi [.loc j] ρ h).bind (λvs h1=>(biO .len vs h1).run)=_
 rw[xs_c (locx hj) rfl]
 have e:sqV h (.ref k)=some xs:=by
  show(match h[k]? with | some c=>(match c with | .lst xs=>some xs | .lstR _=>none | .dct _ _=>none) | none=>none)=_
  rw[hk]
 show O.run (match sqV h (.ref k) with | some xs=>pvO (.int (Int.ofNat xs.length)) h | none=>O.bad)=_
 rw[e];rfl
theorem B3l{v:V}(hx:runX o oi e ρ h=.ok v h1):runS n o oi (.ret e) ρ h=.ret v h1:=by
 show(runX o oi e ρ h).st ρ (λv h1=>Ro.ret v h1)=_
 rw[hx];rfl
end
section
variable{o oi:Ob}{n:Nat}{h h':Ht}{ρ ρ':Lo}{a b c:Ex}{r:Rs V}{s1 s2:List Cm}
theorem xite_t(hc:runX o oi c ρ h=.ok (pb true) h):runX o oi (.ite c a b) ρ h=runX o oi a ρ h:=by
 show(runX o oi c ρ h).bind (λv h1=>onB (truV h1 v) (runX o oi a ρ h1) (runX o oi b ρ h1))=_
 rw[hc];rfl
theorem xite_f(hc:runX o oi c ρ h=.ok (pb false) h):runX o oi (.ite c a b) ρ h=runX o oi b ρ h:=by
 show(runX o oi c ρ h).bind (λv h1=>onB (truV h1 v) (runX o oi a ρ h1) (runX o oi b ρ h1))=_
 rw[hc];rfl
theorem lco(e:runL n o oi s1 ρ h=.cont ρ' h'):runL n o oi (s1++s2) ρ h=.cont ρ' h':=by rw[A5m,e];rfl
end
section
variable{t s:List Nat}{n i at_ bg kb kr:Nat}{pat beg ov ct:Bool}{h h':Ht}{bs row ms:List Tr}{R:AVal}{r:Ro}{f13 f14:Option V}
noncomputable abbrev zT:List Cm:=cmT (stm b80w 3)
noncomputable abbrev zE(t:List Nat)(at_:Nat)(pat beg:Bool)(bg i kb kr:Nat)(s:List Nat)(ov ct:Bool)(f13 f14:Option V):Lo:=zF t at_ pat beg bg i kb kr (some (ps (s.take 1))) (some (pb ov)) (some (pb ct)) f13 f14
noncomputable abbrev nodW:AVal:=.str [110,111,100,101]
theorem cond_A{oi o:Ob}(hoc:(ov||ct)=true):runX o oi (.or [(.loc 11),(.loc 12)]) (zE t at_ pat beg bg i kb kr s ov ct f13 f14) h=.ok (pb true) h:=by
 cases ov with
 |true=>exact or_t (locx rfl)
 |false=>cases ct with
  |true=>exact(or_f (locx rfl)).trans (locx rfl)
  |false=>cases hoc
theorem A8d(a:At t i s)(A:PA h [])(ho:ovB pat s=ov)(hc:ctB pat true s=ct)(hoc:(ov||ct)=true)(e:∀f13 f14,rL n (zT.drop 1) (zE t at_ pat beg bg i kb kr s ov ct f13 f14) h=.ret (.p R) h'):A0l n t at_ pat beg bg R i kb kr h:=
 A8c a A λf13 f14=>by
  rw[ho,show ctB pat ([]:Pile).isEmpty s=ct from hc]
  exact lret (a:=[stm b80w 3]) (b:=b80w.drop 4) (A1x (cond_A hoc) (lcat (a:=zT.take 1) (b:=zT.drop 1) (A0w (B2o rfl (pa_e A)) rfl) (e f13 f14)))
theorem cont_A{bg' i' kb' kr':Nat}(a:At t i s)(A:PA h [])(ho:ovB pat s=ov)(hc:ctB pat true s=ct)(hoc:(ov||ct)=true)(e:∀f13 f14,∃g10 g11 g12 g13 g14,rL n (zT.drop 1) (zE t at_ pat beg bg i kb kr s ov ct f13 f14) h=.cont (zF t at_ pat beg bg' i' kb' kr' g10 g11 g12 g13 g14) h')
  (k:A0l n t at_ pat beg bg' R i' kb' kr' h'):A0l n t at_ pat beg bg R i kb kr h:=λf10 f11 f12 f13 f14=>by
 obtain⟨g10,g11,g12,g13,g14,e⟩:=e f13 f14
 obtain⟨h2,w⟩:=k g10 g11 g12 g13 g14
 have tp:=top (n:=n) (at_:=at_) (beg:=beg) (bg:=bg) (kb:=kb) (kr:=kr) (f10:=f10) (f11:=f11) (f12:=f12) (f13:=f13) (f14:=f14) (pat:=pat) a A
 rw[ho,show ctB pat ([]:Pile).isEmpty s=ct from hc] at tp
 exact⟨h2,.co (cq λz=>z) (lcat (a:=b80w.take 3) (b:=[stm b80w 3]++b80w.drop 4) tp (lco (A1x (cond_A hoc) (lcat (a:=zT.take 1) (b:=zT.drop 1) (A0w (B2o rfl (pa_e A)) rfl) e)))) w⟩
theorem st_oc(hs:stB pat 0 s=true)(hb:eqS (s.take 1) [124]=false):(ovB pat s||ctB pat true s)=true:=by
 cases s with
 |nil=>rfl
 |cons c s=>
  have hs:(Nat.beq c 124|| (Nat.beq c 41|| (pat&& (A1d.contains c|| (Nat.beq c 47||Nat.beq c 36)))))=true:=hs
  rw[show Nat.beq c 124=false from hb] at hs
  show((pat&&A1d.contains c)|| (Nat.beq c 41|| (pat&& (Nat.beq c 47||Nat.beq c 36))))=true
  revert hs
  cases pat <;> cases Nat.beq c 41 <;> cases A1d.contains c <;> exact id
theorem e_none(a:At t bg s)(A:PA h [])(B:h[3]?=some (.lst []))(hs:(ovB true s||ctB true true s)=true):A0l n t at_ true beg bg (fauV bg) bg kb kr h:=
 A8d a A rfl rfl hs λf13 f14=>lret (a:=(zT.drop 1).take 1) (b:=zT.drop 2) (A1x (xb (Nat.beq_refl bg) λz=>z _ rfl) (lrt (B3l (xtup2 (xq λz=>z) ((xite_t (emp_eq rfl (li_e B))).trans (locx rfl))))))
theorem e_none1{x:AVal}{xs:List AVal}(a:At t (i+1) s)(A:PA h [])(B:h[3]?=some (.lst (x::xs)))(hs:(ovB true s||ctB true true s)=true):A0l n t at_ true beg (i+1) (fauV i) (i+1) kb kr h:=
 A8d a A rfl rfl hs λf13 f14=>lret (a:=(zT.drop 1).take 1) (b:=zT.drop 2) (A1x (xb (Nat.beq_refl (i+1)) λz=>z _ rfl) (lrt (B3l (xtup2 (xq λz=>z) ((xite_f (emp_eq rfl (li_e B))).trans (Eq.trans (b:=Rs.ok (V.p (.int (Int.ofNat (i+1)-1))) h) (xq λz=>z) (congrArg (λx=>Rs.ok (V.p (.int x)) h) (sub1 (Ar i)))))))))
theorem e_node(a:At t i [])(A:PA h [])(L:LS h kb kr bs row)(hb:bs.length+1<=big):A0l n t at_ false beg bg (.tup [nodW,A0c (altA (bs++[catA row]))]) i kb kr h:=
 A8d a A rfl rfl rfl λf13 f14=>lcat (a:=(zT.drop 1).take 1) (b:=zT.drop 2) (A0w (xq λz=>z _ rfl) rfl) (lret (a:=(zT.drop 2).take 1) (b:=zT.drop 3) (A1x (xq λz=>z _ rfl) (lrt (B3l (xtup2 (xq λz=>z) (call2x (j1:=7) (j2:=8) rfl rfl L.b L.r L.ne (A5r (n:=n+8) hb)))))))
theorem s12(hn:(pat&&Nat.beq i bg)=false)(hp:(ov&& !pat)=false)(e:rL n (zT.drop 3) (zE t at_ pat beg bg i kb kr s ov ct f13 f14) h=r):rL n (zT.drop 1) (zE t at_ pat beg bg i kb kr s ov ct f13 f14) h=r:=by
 refine lcat (a:=(zT.drop 1).take 1) (b:=zT.drop 2) (h':=h) (A0w (h1:=h) ?_ rfl) (lcat (a:=(zT.drop 2).take 1) (b:=zT.drop 3) (h':=h) (A0w (h1:=h) ?_ rfl) e)
 ·cases pat with
  |false=>exact xq λz=>z _ rfl
  |true=>exact xb hn λz=>z _ rfl
 ·cases ov with
  |false=>exact xq λz=>z _ rfl
  |true=>cases pat with
   |false=>cases hp
   |true=>exact xq λz=>z _ rfl
theorem e_par(a:At t i (41::s))(A:PA h [])(hn:(pat&&Nat.beq i bg)=false):A0l n t at_ pat beg bg (fauV i) i kb kr h:=
 A8d (ov:=false) (ct:=true) a A (A7q rfl) rfl rfl λf13 f14=>s12 hn rfl (lret (a:=(zT.drop 3).take 1) (b:=zT.drop 4) (A1x (or_t (xq λz=>z)) (lq λz=>z)))
theorem eq41{o oi:Ob}{q:Bool}(h41:eqS (s.take 1) [41]=q):runX o oi (.cmp .eq (.loc 10) (.lit (.str [41]))) (zE t at_ pat beg bg i kb kr s ov ct f13 f14) h=.ok (pb q) h:=xb h41 λz=>z
theorem e_ct{x:AVal}{xs:List AVal}(a:At t i s)(A:PA h [])(B:h[3]?=some (.lst (x::xs)))(hn:Nat.beq i bg=false)(hc:ctB true true s=true)(ho:ovB true s=false):A0l n t at_ true beg bg (fauV i) i kb kr h:=
 A8d a A ho hc rfl λf13 f14=>s12 hn rfl (lret (a:=(zT.drop 3).take 1) (b:=zT.drop 4) (A1x (by
  cases h41:eqS (s.take 1) [41] with
  |true=>exact or_t (eq41 h41)
  |false=>exact(or_f (eq41 h41)).trans ((and_t (locx rfl)).trans (B2o rfl (li_e B)))) (lq λz=>z)))
theorem s34(L:LS h kb kr bs row)(hb:bs.length+1<=big)(n3:kb≠3)(B:h[3]?=some (.lst (ms.map A0c)))(hm:ms.length+1<=big)(hn:Nat.beq i bg=false)(h41:eqS (s.take 1) [41]=false)(hct:(ct&& !ms.isEmpty)=false)(e:rL n (zT.drop 5) (zE t at_ true beg bg i kb kr s ov ct f13 f14) (h.set 3 (.lst ((ms++[altA (bs++[catA row])]).map A0c)))=r):rL n (zT.drop 1) (zE t at_ true beg bg i kb kr s ov ct f13 f14) h=r:=by
 refine s12 hn (Cj _) (lcat (a:=(zT.drop 3).take 1) (b:=zT.drop 4) (A0w ((or_f (eq41 h41)).trans ?_) rfl) (lcons (A5b (j:=9) rfl B (call2x (j1:=7) (j2:=8) rfl rfl L.b L.r L.ne (A5r (n:=n+8) hb)) (by rw[Aw];exact hm)) (A0y (f:=A0c)▸e)))
 cases ct with
 |false=>exact and_f (locx rfl)
 |true=>
  refine(and_t (locx rfl)).trans ((B2o rfl (li_e B)).trans ?_)
  cases ms with
  |nil=>rfl
  |cons=>cases hct
end
section
variable{t s:List Nat}{n i at_ bg kb kr:Nat}{pat beg ov ct:Bool}{h h':Ht}{bs row ms:List Tr}{R x y:AVal}{r:Ro}{f13 f14:Option V}
theorem fin1(B:h[3]?=some (.lst [x])):rL n (zT.drop 7) (zE t at_ pat beg bg i kb kr s ov ct f13 f14) h=.ret (.p (.tup [nodW,.tup [.bool beg,x,.none],nV i])) h:=by
 have g:rX n (.cmp .gt (.bi .len [(.loc 9)]) (.lit (.int 1))) (zE t at_ pat beg bg i kb kr s ov ct f13 f14) h=.ok (pb false) h:=by
  show(rX n (.bi .len [(.loc 9)]) (zE t at_ pat beg bg i kb kr s ov ct f13 f14) h).bind (λx h1=>(Rs.ok (pi 1) h1).bind λy h2=>(cmpO .gt x y h2).run)=_
  rw[show rX n (.bi .len [(.loc 9)]) (zE t at_ pat beg bg i kb kr s ov ct f13 f14) h=_ from len_k rfl B];rfl
 exact lrt (B3l (xtup3 (xq λz=>z) (xtup3 (locx rfl) (sub_k (i:=0) rfl B rfl) ((xite_f g).trans (xq λz=>z))) (locx rfl)))
theorem fin2(B:h[3]?=some (.lst [x,y])):rL n (zT.drop 7) (zE t at_ pat beg bg i kb kr s ov ct f13 f14) h=.ret (.p (.tup [nodW,.tup [.bool beg,x,y],nV i])) h:=by
 have g:rX n (.cmp .gt (.bi .len [(.loc 9)]) (.lit (.int 1))) (zE t at_ pat beg bg i kb kr s ov ct f13 f14) h=.ok (pb true) h:=by
  show(rX n (.bi .len [(.loc 9)]) (zE t at_ pat beg bg i kb kr s ov ct f13 f14) h).bind (λx h1=>(Rs.ok (pi 1) h1).bind λy h2=>(cmpO .gt x y h2).run)=_
  rw[show rX n (.bi .len [(.loc 9)]) (zE t at_ pat beg bg i kb kr s ov ct f13 f14) h=_ from len_k rfl B];rfl
 exact lrt (B3l (xtup3 (xq λz=>z) (xtup3 (locx rfl) (sub_k (i:=0) rfl B rfl) ((xite_t g).trans (sub_k (i:=1) rfl B rfl))) (locx rfl)))
theorem A9z:(2:Nat)<=big:=nbl rfl
theorem e_slash(a:At t i (47::s))(A:PA h [])(L:LS h kb kr bs row)(hb:bs.length+1<=big)(n3:kb≠3)(B:h[3]?=some (.lst []))(hn:Nat.beq i bg=false)
  (k:∀h' kb' kr',LS h' kb' kr' [] []->PA h' []->h'[3]?=some (.lst [A0c (altA (bs++[catA row]))])->3<kb'->3<kr'->A0l n t at_ true beg (i+1) R (i+1) kb' kr' h'):A0l n t at_ true beg bg R i kb kr h:=by
 have l3:3<h.length:=(Bm.mp B).1
 have hl:(h.set 3 (.lst [A0c (altA (bs++[catA row]))])).length=h.length:=Cq ..
 have hl2:(h.set 3 (.lst [A0c (altA (bs++[catA row]))])++[Cl.lst []]).length=h.length+1:=by rw[Ae,hl];rfl
 refine cont_A (ov:=false) (ct:=true) (bg':=i+1) (i':=i+1) (kb':=(h.set 3 (.lst [A0c (altA (bs++[catA row]))])).length) (kr':=(h.set 3 (.lst [A0c (altA (bs++[catA row]))])++[Cl.lst []]).length) (h':=h.set 3 (.lst [A0c (altA (bs++[catA row]))])++[Cl.lst []]++[Cl.lst []]) a A (A7q rfl) rfl rfl (λf13 f14=>⟨_,_,_,_,_,s34 (ms:=[]) L hb n3 B (Bl A9z) hn rfl rfl (lco (s1:=(zT.drop 5).take 1) (s2:=zT.drop 6) (A1x (xq λz=>z) (lq λz=>z)))⟩) (k _ _ _ ⟨A1q A6d,A6d,?_,?_,?_⟩ ?_ (A1q (A1q (A2m B))) (hl.symm▸l3) (hl2.symm▸B1 l3))
 ·rw[hl,hl2];exact B8 (Ax _)
 ·rw[hl];exact Nat.ne_of_gt (Nat.zero_lt_of_lt l3)
 ·rw[hl2];exact Nat.succ_ne_zero _
 ·exact A.rec λc e p=>⟨c,A1q (A1q (A2h e (by decide))),p⟩
theorem nl_b:([[],[32],[9],[10]]:List (List Nat)).contains (s.take 1)=ovB true s:=by
 cases s with
 |nil=>rfl
 |cons c s=>
  show(([c]==[])|| (((c==32)&&true)|| (((c==9)&&true)|| (((c==10)&&true)||false))))=((c==32)|| ((c==9)|| ((c==10)||false)))
  rw[Bool.and_true,Bool.and_true,Bool.and_true];rfl
theorem A7r{w:Nat}(ho:ovB true s=true)(hw:A1d.contains w=false):eqS (s.take 1) [w]=false:=by
 cases s with
 |nil=>rfl
 |cons c s=>
  show Nat.beq c w=false
  refine Bn.mpr λz=> ?_
  cases An z
  exact Bool.noConfusion (hw.symm.trans ho)
theorem ov_ct(ho:ovB true s=true):ctB true true s=false:=by
 cases s with
 |nil=>rfl
 |cons c s=>exact B8s (A7r ho rfl) (A7r ho rfl) (A7r ho rfl)
theorem e_over0(a:At t i s)(A:PA h [])(L:LS h kb kr bs row)(hb:bs.length+1<=big)(n3:kb≠3)(B:h[3]?=some (.lst []))(hn:Nat.beq i bg=false)(ho:ovB true s=true):
  A0l n t at_ true beg bg (.tup [nodW,.tup [.bool beg,A0c (altA (bs++[catA row])),.none],nV i]) i kb kr h:=
 A8d (ov:=true) (ct:=false) a A ho (ov_ct ho) rfl λf13 f14=>s34 (ms:=[]) L hb n3 B (Bl A9z) hn (A7r ho rfl) rfl (lcat (a:=(zT.drop 5).take 1) (b:=zT.drop 6) (A0w (xb (A7r ho rfl) λz=>z) rfl) (lcat (a:=(zT.drop 6).take 1) (b:=zT.drop 7) (A0w (xb (A7r ho rfl) λz=>z) rfl) (fin1 (A2m B))))
theorem e_over1{m:Tr}(a:At t i s)(A:PA h [])(L:LS h kb kr bs row)(hb:bs.length+1<=big)(n3:kb≠3)(B:h[3]?=some (.lst [A0c m]))(hn:Nat.beq i bg=false)(ho:ovB true s=true):
  A0l n t at_ true beg bg (.tup [nodW,.tup [.bool beg,A0c m,A0c (altA (bs++[catA row]))],nV i]) i kb kr h:=
 A8d (ov:=true) (ct:=false) a A ho (ov_ct ho) rfl λf13 f14=>s34 (ms:=[m]) L hb n3 B A9z hn (A7r ho rfl) rfl (lcat (a:=(zT.drop 5).take 1) (b:=zT.drop 6) (A0w (xb (A7r ho rfl) λz=>z) rfl) (lcat (a:=(zT.drop 6).take 1) (b:=zT.drop 7) (A0w (xb (A7r ho rfl) λz=>z) rfl) (fin2 (A2m B))))
theorem B8n(a:At t i (36::s))(A:PA h [])(L:LS h kb kr bs row)(hb:bs.length+1<=big)(n3:kb≠3)(B:h[3]?=some (.lst []))(hn:Nat.beq i bg=false)(ho:ovB true s=true):
  A0l n t at_ true beg bg (.tup [nodW,.tup [.bool beg,A0c (altA (bs++[catA row])),A0c (.chars [(10,10)])],nV (i+1)]) i kb kr h:=by
 refine A8d (ov:=false) (ct:=true) a A (A7q rfl) rfl rfl (λf13 f14=>s34 (ms:=[]) L hb n3 B (Bl A9z) hn rfl rfl (lcat (a:=(zT.drop 5).take 1) (b:=zT.drop 6) (A0w (xq λz=>z) rfl) (lcat (a:=(zT.drop 6).take 1) (b:=zT.drop 7) (A1x (xq λz=>z) (lcons (A8h (i:=5) (v:=pi (i+1)) (h1:=h.set 3 (.lst [A0c (altA (bs++[catA row]))])) (xq λz=>z)) (lcons (A5b (j:=9) (k:=3) (xs:=[A0c (altA (bs++[catA row]))]) (w:=A0c (.chars [(10,10)])) rfl (A2m B) (xq λz=>z) A9z) (A0w (xb (congrArg not (nl_b.trans ho)) λz=>z _ (slc (a.c1.n.cut 1))) rfl)))) (fin2 (s:=36::s) (ov:=false) (ct:=true) (f13:=f13) (f14:=f14) (i:=i+1) (A2m (A2m B))))))
theorem B8o(a:At t i (36::s))(A:PA h [])(L:LS h kb kr bs row)(hb:bs.length+1<=big)(n3:kb≠3)(B:h[3]?=some (.lst []))(hn:Nat.beq i bg=false)(ho:ovB true s=false):
  A0l n t at_ true beg bg (fauV i) i kb kr h:=by
 refine A8d (ov:=false) (ct:=true) a A (A7q rfl) rfl rfl (λf13 f14=>s34 (ms:=[]) L hb n3 B (Bl A9z) hn rfl rfl (lcat (a:=(zT.drop 5).take 1) (b:=zT.drop 6) (A0w (xq λz=>z) rfl) (lret (a:=(zT.drop 6).take 1) (b:=zT.drop 7) (A1x (xq λz=>z) (lcons (A8h (i:=5) (v:=pi (i+1)) (h1:=h.set 3 (.lst [A0c (altA (bs++[catA row]))])) (xq λz=>z)) (lcons (A5b (j:=9) (k:=3) (xs:=[A0c (altA (bs++[catA row]))]) (w:=A0c (.chars [(10,10)])) rfl (A2m B) (xq λz=>z) A9z) (A1x (xb (congrArg not (nl_b.trans ho)) λz=>z _ (slc (a.c1.n.cut 1))) (lrt (B3l (xtup2 (xq λz=>z) (Eq.trans (b:=Rs.ok (V.p (.int (Int.ofNat (i+1)-1))) _) (xq λz=>z) (congrArg (λx=>Rs.ok (V.p (.int x)) _) (sub1 (Ar i))))))))))))))
end
section
variable{t s:List Nat}{n i at_ bg kb kr d:Nat}{D:AVal}{pat beg:Bool}{h h':Ht}{bs row:List Tr}{P:Pile}
theorem LQ.big(T:TT t)(Q:LQ t h kb kr i bs row P d):bs.length+1<=big:=Aa (Ah (Aa Q.c T.ts)) (nbl rfl)
theorem lq0:LQ t h4 1 2 i [] [] [] 0:=⟨⟨rfl,rfl,by decide,by decide,by decide⟩,⟨_,rfl,.e⟩,rfl,Ag _,Ag _,Ag _⟩
theorem at0:At t 0 t:=rfl
inductive FR(t:List Nat)(D:AVal):Prop
 |er (e:Nat) (lt:e<t.length) (p:∀n,cR (n+75) 55 [ps t,.p D] []=.exc (posV t (Int.ofNat e))) (l:∀n,cR (n+12) 80 [ps t,pi 0,pb false] []=.ok (.p (fauV e)) [])
 |ok (m:Tr) (hb:(hh m).1<=hm t 0+4/\sz m<=t.length+1) (p:∀n,cR (n+75) 55 [ps t,.p D] []=.ok (.p (A0d m)) []) (l:∀n,cR (n+12) 80 [ps t,pi 0,pb false] []=.ok (.p (.tup [nodW,A0c m])) [])
theorem reg_ex(T:TT t)(K:Kn D t)(hp:pc t 0<=20)(hl:lc t 0<=20):FR t D:=by
 have f:∀n,3*pc t 0<=n+60:=λn=>Aa (B6 3 hp) (Bb 60 n)
 cases ch_ex (D:=D) (pat:=false) (at_:=0) (beg:=false) (bg:=0) T K _ (i:=0) (d:=0) (Ax _) ((Bc _).symm▸hp) hl with
 |er e lt q=>exact .er e lt (λn=>ck λz=>z _ (A2p (n:=n+70)) _ (q.1 (n+60) (f n))) λn=>law_run at0 rfl (q.2 n h4 1 2 [] lq0)
 |ok m k le hb q=>
  have a:At t k (t.drop k):=rfl
  have qs:=q.s
  have qb:=q.b
  have ql:=q.l
  have qp:=q.p
  have qz:=q.z
  revert a qs qb
  generalize t.drop k=s
  intro a qs qb
  cases s with
  |nil=>exact .ok m ⟨Aa (Ao _ _) hb,Aa (Bb _ _) qz⟩ (λn=>ck λz=>z _ (A2p (n:=n+70)) _ (qp (n+60) (f n)) _ (A1m a) _ rfl) λn=>law_run at0 rfl (ql n _ h4 1 2 [] lq0 λbs row ea h' kr' Q _=>ea▸e_node a Q.A Q.L (Q.big T))
  |cons c s=>
   have h41:Nat.beq c 41=true:=by
    have qs:(Nat.beq c 124|| (Nat.beq c 41||false))=true:=qs
    rw[show Nat.beq c 124=false from qb,Ce] at qs
    exact qs
   cases An h41
   exact .er k a.lt (λn=>ck λz=>z _ (A2p (n:=n+70)) _ (qp (n+60) (f n)) _ (A1m a) _ rfl T.tl) λn=>law_run at0 rfl (ql n _ h4 1 2 [] lq0 λbs row ea h' kr' Q _=>e_par a Q.A rfl)
end
noncomputable def trN:Option Tr->AVal
 |none=>.none
 |some m=>A0d m
noncomputable def trT:Option Tr->AVal
 |none=>.none
 |some m=>A0c m
noncomputable abbrev patV(m:Tr)(b:Bool)(tr:Option Tr):AVal:=.inst 17 [22,27,28] [A0d m,.bool b,trN tr]
section
variable{t s:List Nat}{n i k at_ bg kb kr d:Nat}{D:AVal}{pat beg:Bool}{h h':Ht}{bs row:List Tr}{P:Pile}{m:Tr}
inductive FP(t:List Nat)(at_:Nat)(D:AVal):Prop
 |er (e:Nat) (le:e<=t.length) (p:∀n,cR (n+75) 56 [ps t,pi at_,.p D] []=.exc (posV t (Int.ofNat e))) (l:∀n,cR (n+12) 80 [ps t,pi at_,pb true] []=.ok (.p (fauV e)) [])
 |ok (m:Tr) (tr:Option Tr) (b:Bool) (k:Nat) (hb:(hh m).1<=hm t 0+4/\sz m<=t.length+1) (hc:∀m,tr=some m->(hh m).1<=hm t 0+4/\sz m<=t.length+1) (p:∀n,cR (n+75) 56 [ps t,pi at_,.p D] []=.ok (.p (.tup [patV m b tr,nV k])) [])
   (l:∀n,cR (n+12) 80 [ps t,pi at_,pb true] []=.ok (.p (.tup [nodW,.tup [.bool b,A0c m,trT tr],nV k])) [])
theorem A5p{v w:AVal}{b:Bool}:cR (n+1) 35 [.obj 17 0,.p v,pb b,.p w] [.dct [] []]=.ok (.p .none) [.dct [22,27,28] [.p v,pb b,.p w]]:=ck λq=>q
theorem B4v:cR (n+5) 37 [] []=.ok (.p (A0d (.chars [(10,10)]))) []:=ck λq=>q _ (w_of (n:=n) (by decide)) _ (A3g (n:=n+2))
noncomputable abbrev F0(t:List Nat)(at_:Nat)(D:AVal)(beg:Bool)(bg:Nat):Lo:=[some (ps t),some (pi at_),some (.p D),some (.obj 18 0),some (.obj 3 1),some (pb beg),some (pi bg),none,none,none,none]
noncomputable abbrev rP(n:Nat):List Cm->Lo->Ht->Ro:=runL (n+74) (cR (n+74)) (A0b (n+74)).2
theorem pat0(a:At t at_ s)(hb:eqS (s.take 1) [94]=beg):rP n (b56.take 4) (A1v 56 [ps t,pi at_,.p D]) []=.next (F0 t at_ D beg (bgN beg at_)) (rdH D true t (bgN beg at_) 0):=by
 cases beg with
 |true=>exact lq λz=>z _ (A2p (n:=n+70)) _ (A0j a hb)
 |false=>exact lq λz=>z _ (A2p (n:=n+70)) _ (A0e a hb)
theorem B7q{w:Nat}(e:eqS (s.take 1) [w]=true):∃s',s=w::s':=by
 cases s with
 |nil=>cases e
 |cons c s=>cases An (show Nat.beq c w=true from e);exact⟨s,rfl⟩
theorem A9e{m:Tr}:isNone (A0d m)=false:=by cases m <;> rfl
theorem only41(oc:(ovB true s||ctB true true s)=true)(ho:ovB true s=false)(h1:eqS (s.take 1) [47]=false)(h2:eqS (s.take 1) [36]=false):eqS (s.take 1) [41]=true:=by
 cases s with
 |nil=>cases ho
 |cons c s=>
  have oc:(A1d.contains c|| (Nat.beq c 41|| (Nat.beq c 47||Nat.beq c 36)))=true:=oc
  rw[show A1d.contains c=false from ho,show Nat.beq c 47=false from h1,show Nat.beq c 36=false from h2,Ce,Ce,Bool.false_or] at oc
  exact oc
theorem pat_ex(T:TT t)(K:Kn D t)(hp:pc t 0<=20)(hl:lc t 0<=20)(hat:at_<=t.length):FP t at_ D:=by
 generalize hb:eqS ((t.drop at_).take 1) [94]=beg
 have bl:bgN beg at_<=t.length:=by
  cases beg with
  |false=>exact hat
  |true=>exact(B7q hb).elim λs' e=>At.lt e
 have p0:∀n,_:=λn=>pat0 (n:=n) (D:=D) rfl hb
 have l0:∀{n R},A0l n t at_ true beg (bgN beg at_) R (bgN beg at_) 1 2 h4->cR (n+12) 80 [ps t,pi at_,pb true] []=.ok (.p R) []:=λr=>law_run rfl hb r
 revert bl p0 l0
 generalize bgN beg at_=bg
 intro bl p0 l0
 have f:∀k n,3*pc t k<=n+60:=λk n=>Aa (B6 3 (Aa (A3d (Ag k)) hp)) (Bb 60 n)
 have er:∀e,e<=t.length->(∀n,∃ρ,rP n (b56.drop 4) (F0 t at_ D beg bg) (rdH D true t bg 0)=.exc ρ (posV t (Int.ofNat e)))->(∀n,A0l n t at_ true beg bg (fauV e) bg 1 2 h4)->FP t at_ D:=
  λe le p l=>.er e le (λn=>(p n).elim fun ρ w=>ck2 (a:=b56.take 4) (b:=b56.drop 4) rfl (p0 n) w rfl) λn=>l0 (l n)
 have ok:∀m tr k,((hh m).1<=hm t 0+4/\sz m<=t.length+1)->(∀m,tr=some m->(hh m).1<=hm t 0+4/\sz m<=t.length+1)->(∀n,∃h',rP n (b56.drop 4) (F0 t at_ D beg bg) (rdH D true t bg 0)=.ret (.p (.tup [patV m beg tr,nV k])) h')->(∀n,A0l n t at_ true beg bg (.tup [nodW,.tup [.bool beg,A0c m,trT tr],nV k]) bg 1 2 h4)->FP t at_ D:=
  λm tr k h1 h2 p l=>.ok m tr beg k h1 h2 (λn=>(p n).elim fun ρ w=>ck2 (a:=b56.take 4) (b:=b56.drop 4) rfl (p0 n) w rfl) λn=>l0 (l n)
 have hx:∀{m k i},(hh m).1+hm t k<=hm t i+4->t.length-k+sz m<=t.length-i+1->(hh m).1<=hm t 0+4/\sz m<=t.length+1:=λe z=>⟨Aa (Ao _ _) (Aa e (Ay (A6b (Ag _)) 4)),Aa (Bb _ _) (Aa z (Ah (Nat.sub_le _ _)))⟩
 cases ch_ex (D:=D) (pat:=true) (at_:=at_) (beg:=beg) (bg:=bg) T K _ (i:=bg) (d:=0) (Ax _) ((Bc _).symm▸Aa (A3d (Ag _)) hp) (Aa (A3d (Ag _)) hl) with
 |er e lt q=>exact er e (Ak lt) (λn=>⟨_,lq λz=>z _ (q.1 (n+60) (f _ n))⟩) λn=>q.2 n h4 1 2 [] lq0
 |ok m k le hb1 q=>
  have go:∀{R n},(∀bs row,altA (bs++[catA row])=m->∀h' kr',LQ t h' 1 kr' k bs row [] 0->h'[3]?=some (.lst [])->A0l n t at_ true beg bg R k 1 kr' h')->A0l n t at_ true beg bg R bg 1 2 h4:=λ{R n} w=>q.l n R h4 1 2 [] lq0 λbs row ea h' kr' Q F=>w bs row ea h' kr' Q (F 3 _ rfl (by decide) (by decide) (by decide))
  have oc:=st_oc q.s q.b
  have qp:=λn=>q.p (n+60) (f _ n)
  have a:At t k (t.drop k):=rfl
  revert a oc
  generalize t.drop k=s
  intro oc a
  cases hk:Nat.beq k bg with
  |true=>
   cases An hk
   exact er bg bl (λn=>⟨_,lq λz=>z _ (qp n) _ hk T.tl⟩) λn=>go λbs row ea h' kr' Q B=>e_none a Q.A B oc
  |false=>
   cases h47:eqS (s.take 1) [47] with
   |true=>
    obtain⟨s',e⟩:=B7q h47
    subst e
    have hk1:pc t (k+1)<=20:=Aa (A3d (Ag _)) hp
    have go2:∀{R n},(∀h' kb' kr',LQ t h' kb' kr' (k+1) [] [] [] 0->h'[3]?=some (.lst [A0c m])->3≠kb'->3≠kr'->A0l n t at_ true beg (k+1) R (k+1) kb' kr' h')->A0l n t at_ true beg bg R bg 1 2 h4:=
     λw=>go λbs row ea h' kr' Q B=>e_slash a Q.A Q.L (Q.big T) (by decide) B hk λh2 kb2 kr2 L2 A2 B2 n1 n2=>w h2 kb2 kr2 ⟨L2,A2,rfl,Ag _,Ag _,Ag _⟩ (ea▸B2) (B8 n1) (B8 n2)
    cases ch_ex (D:=D) (pat:=true) (at_:=at_) (beg:=beg) (bg:=k+1) T K _ (i:=k+1) (d:=0) (Ax _) ((Bc _).symm▸hk1) (Aa (A3d (Ag _)) hl) with
    |er e lt q2=>exact er e (Ak lt) (λn=>⟨_,lq λz=>z _ (qp n) _ hk _ (A0j a rfl) _ rfl _ (q2.1 (n+60) (f _ n))⟩) λn=>go2 λh' kb' kr' Q _ _ _=>q2.2 n h' kb' kr' [] Q
    |ok m2 k2 le2 hb2 q2=>
     have go3:∀{R n},(∀bs row,altA (bs++[catA row])=m2->∀h' kb' kr',LQ t h' kb' kr' k2 bs row [] 0->kb'≠3->h'[3]?=some (.lst [A0c m])->A0l n t at_ true beg (k+1) R k2 kb' kr' h')->A0l n t at_ true beg bg R bg 1 2 h4:=
      λ{R n} w=>go2 λh' kb' kr' Q B n1 n2=>q2.l n R h' kb' kr' [] Q λbs row ea h2 kr2 Q2 F=>w bs row ea h2 kb' kr2 Q2 (Ne.symm n1) (F 3 _ B (by decide) n1 n2)
     have oc2:=st_oc q2.s q2.b
     have qp2:=λn=>q2.p (n+60) (f _ n)
     have a2:At t k2 (t.drop k2):=rfl
     revert a2 oc2
     generalize t.drop k2=s2
     intro oc2 a2
     cases hk2:Nat.beq k2 (k+1) with
     |true=>
      cases An hk2
      exact er k (Ak a.lt) (λn=>⟨_,lq λz=>z _ (qp n) _ hk _ (A0j a rfl) _ rfl _ (qp2 n) _ hk2 T.tl⟩) λn=>go3 λbs row ea h' kb' kr' Q n3 B=>e_none1 a2 Q.A B oc2
     |false=>
      cases h36:eqS (s2.take 1) [36] with
      |true=>
       obtain⟨s3,e⟩:=B7q h36
       subst e
       exact er k2 (Ak a2.lt) (λn=>⟨_,lq λz=>z _ (qp n) _ hk _ (A0j a rfl) _ rfl _ (qp2 n) _ hk2 _ (A0j a2 rfl) _ rfl _ (congrArg not A9e) T.tl⟩) λn=>go3 λbs row ea h' kb' kr' Q n3 B=>e_ct a2 Q.A B hk2 rfl rfl
      |false=>
       cases ho:ovB true s2 with
       |true=>exact ok m (some m2) k2 (hx hb1 q.z) (λ_ z=>by cases z;exact hx hb2 q2.z) (λn=>⟨_,lq λz=>z _ (qp n) _ hk _ (A0j a rfl) _ rfl _ (qp2 n) _ hk2 _ (A0e a2 h36) _ rfl _ (A5q a2) _ (congrArg not ho) _ (A5p (n:=n+72))⟩) λn=>go3 λbs row ea h' kb' kr' Q n3 B=>ea▸e_over1 a2 Q.A Q.L (Q.big T) n3 B hk2 ho
       |false=>
        cases s2 with
        |nil=>cases ho
        |cons c s2=>exact er k2 (Ak a2.lt) (λn=>⟨_,lq λz=>z _ (qp n) _ hk _ (A0j a rfl) _ rfl _ (qp2 n) _ hk2 _ (A0e a2 h36) _ rfl _ (A5q a2) _ (congrArg not ho) _ (A0f a2) rfl rfl T.tl⟩) λn=>go3 λbs row ea h' kb' kr' Q n3 B=>e_ct a2 Q.A B hk2 (by rw[ho,Bool.false_or] at oc2;exact oc2) ho
   |false=>
    cases h36:eqS (s.take 1) [36] with
    |true=>
     obtain⟨s',e⟩:=B7q h36
     subst e
     have a1:=a.c1.n
     cases ho:ovB true s' with
     |false=>exact er k (Ak a.lt) (λn=>⟨_,lq λz=>z _ (qp n) _ hk _ (A0e a h47) _ rfl _ (A0j a rfl) _ rfl _ rfl _ (A5q a1) _ (congrArg not ho) T.tl⟩) λn=>go λbs row ea h' kr' Q B=>B8o a Q.A Q.L (Q.big T) (by decide) B hk ho
     |true=>exact ok m (some (.chars [(10,10)])) (k+1) (hx hb1 q.z) (λ_ z=>by cases z;exact⟨Ah (Ag _),Ah (Ag _)⟩) (λn=>⟨_,lq λz=>z _ (qp n) _ hk _ (A0e a h47) _ rfl _ (A0j a rfl) _ rfl _ rfl _ (A5q a1) _ (congrArg not ho) _ (B4v (n:=n+69)) _ (A5q a1) _ (congrArg not ho) _ (A5p (n:=n+72))⟩) λn=>go λbs row ea h' kr' Q B=>ea▸B8n a Q.A Q.L (Q.big T) (by decide) B hk ho
    |false=>
     cases ho:ovB true s with
     |true=>exact ok m none k (hx hb1 q.z) (λ_ z=>nomatch z) (λn=>⟨_,lq λz=>z _ (qp n) _ hk _ (A0e a h47) _ rfl _ (A0e a h36) _ rfl _ (A5q a) _ (congrArg not ho) _ (A5p (n:=n+72))⟩) λn=>go λbs row ea h' kr' Q B=>ea▸e_over0 a Q.A Q.L (Q.big T) (by decide) B hk ho
     |false=>
      obtain⟨s',e⟩:=B7q (only41 oc ho h47 h36)
      subst e
      exact er k (Ak a.lt) (λn=>⟨_,lq λz=>z _ (qp n) _ hk _ (A0e a rfl) _ rfl _ (A0e a rfl) _ rfl _ (A5q a) _ rfl _ (A0f a) rfl rfl T.tl⟩) λn=>go λbs row ea h' kr' Q B=>e_par a Q.A hk
end
noncomputable def tF:Tr->Nat
 |.empty=>23
 |.never=>23
 |.chars _=>25
 |.cat _ _=>27
 |.alt _ _=>27
 |.rep _ _ _=>31
 |_=>29
theorem A6o{m:Tr}{h:Ht}:mfn (.p (A0d m)) 21 h=some (tF m):=by cases m <;> rfl
noncomputable def bn:Bool->Tr->Tr->Tr
 |true,l,r=>.cat l r
 |false,l,r=>.alt l r
noncomputable def rt(b:Bool):Tr->List Tr×Tr
 |.cat l r=>(match b with | true=>(r::(rt b l).1,(rt b l).2) | false=>([],.cat l r))
 |.alt l r=>(match b with | true=>([],.alt l r) | false=>(r::(rt b l).1,(rt b l).2))
 |m=>([],m)
section
variable{n:Nat}{b:Bool}{x y:Tr}
theorem A5t{m:Tr}:1<=sz m:=by
 induction m with
 |cat l r ih _=>exact Nat.le_add_right_of_le ih
 |alt l r ih _=>exact Nat.le_add_right_of_le ih
 |star _ ih=>exact Az ih
 |plus _ ih=>exact Az ih
 |opt _ ih=>exact Az ih
 |rep _ _ _ ih=>exact Az ih
 |_=>exact Ac 1
abbrev spS(n:Nat)(b:Bool)(x y m:Tr)(acc:List AVal):Ro->Prop:=WhS n (cR n) (A0b n).2 (cmC (stm b32 2)) (cmB (stm b32 2)) [some (.p (A0d (bn b x y))),some (.ref 0),some (.p (A0d m))] [.lst acc]
theorem sp_no{m:Tr}{acc:List AVal}(e:spS n b x y m acc (.next [some (.p (A0d (bn b x y))),some (.ref 0),some (.p (A0d m))] [.lst acc])):spS n b x y m acc (.next [some (.p (A0d (bn b x y))),some (.ref 0),some (.p (A0d m))] [.lst (acc++[])]):=(A6 acc).symm▸e
theorem sp_go{l r:Tr}{acc:List AVal}{R:Ro}(h:acc.length+(sz l+sz r)<=big)(k:spS n b x y l (acc++[A0d r]) R):spS n b x y (bn b l r) acc R:=by
 have g:Nat.ble (acc.length+1) big=true:=A0k (Aa (Au (Aa (A5t (m:=r)) (Bb _ _)) _) h)
 cases b with
 |true=>exact .go (cq λz=>z _ rfl _ rfl) (lq λz=>z g) k
 |false=>exact .go (cq λz=>z _ rfl _ rfl) (lq λz=>z g) k
theorem sp_loop:∀(m:Tr) {acc:List AVal},acc.length+sz m<=big->spS n b x y m acc (.next [some (.p (A0d (bn b x y))),some (.ref 0),some (.p (A0d (rt b m).2))] [.lst (acc++(rt b m).1.map A0d)]):=by
 intro m
 have nx:∀{acc:List AVal} {l r:Tr},acc.length+(sz l+sz r)<=big->(acc++[A0d r]).length+sz l<=big:=λ{acc l r} h=>by
  rw[Ae,A7,Bg _ (sz l)]
  exact Aa (Au (Au A5t _) _) h
 induction m with
 |cat l r ihl _=>
  intro acc h
  cases b with
  |false=>exact sp_no (.no (cq λz=>z _ rfl))
  |true=>exact sp_go (b:=true) h (by have q:=ihl (nx h);rw[Ai] at q;exact q)
 |alt l r ihl _=>
  intro acc h
  cases b with
  |true=>exact sp_no (.no (cq λz=>z _ rfl))
  |false=>exact sp_go (b:=false) h (by have q:=ihl (nx h);rw[Ai] at q;exact q)
 |_=>exact λ_=>by cases b <;> exact sp_no (.no (cq λz=>z _ rfl))
theorem w_spine(h:0+sz (bn b x y)<=big)(g:((rt b (bn b x y)).1.map A0d).length+1<=big):cR (n+1) 32 [.p (A0d (bn b x y))] []=.ok (.p (.lst ((rt b (bn b x y)).1.map A0d++[A0d (rt b (bn b x y)).2]).reverse)) []:=
 ck λz=>z _ (WhS.s (sp_loop (n:=n) (bn b x y) (acc:=[]) h)) (A0k g)
end
def To(k:Nat)(m:Tr):Prop:=∀n,k<=n->cR (n+1) (tF m) [.p (A0d m)] []=.ok (.p (A0c m)) []
section
variable{n k:Nat}{b:Bool}{x y:Tr}{a:V}
theorem to_for(hk:k<=n):∀{r:List Tr} {m:Tr} {f:Option V},(∀z,z∈r->To k z)->∃g,loT (A2w (n+1) (cR (n+1)) (A0b (n+1)).2 3 (cmB (stm b27 2))) (r.map A0d) [some (.p (A0d (bn b x y))),some a,some (.p (A0c m)),f] []=.next [some (.p (A0d (bn b x y))),some a,some (.p (A0c (r.foldl (bn b) m))),g] []:=by
 intro r
 induction r with
 |nil=>exact λ{m f} _=>⟨f,A0v⟩
 |cons z r ih=>exact λ{m f} h=>(ih (m:=bn b m z) (f:=some (.p (A0d z))) λz q=>h z (.tail _ q)).elim λg e=>⟨g,A1a (by cases b <;> exact lq λq=>q _ A6o _ (h z (.head _) n hk)) e⟩
theorem to_pair{l:Tr}{r:List Tr}(sp:cR (n+1) 32 [.p (A0d (bn b x y))] []=.ok (.p (.lst (A0d l::r.map A0d))) [])(hk:k<=n)(hl:To k l)(hr:∀z,z∈r->To k z)(e:r.foldl (bn b) l=bn b x y):cR (n+2) 27 [.p (A0d (bn b x y))] []=.ok (.p (A0c (bn b x y))) []:=by
 obtain⟨g,q⟩:=to_for (a:=.p (.lst (A0d l::r.map A0d))) (b:=b) (x:=x) (y:=y) hk (r:=r) (m:=l) (f:=none) hr
 rw[e] at q
 exact ck λz=>z _ sp _ rfl _ A6o _ (hl n hk) _ (lsc cut1) _ q
noncomputable def lv:Bool->Tr->Nat
 |true,m=>(hh m).2.1
 |false,m=>(hh m).2.2
theorem To.up{k k':Nat}{m:Tr}(t:To k m)(h:k<=k'):To k' m:=λn q=>t n (Aa h q)
structure Tq(m:Tr):Prop where
 t:To (hh m).1 m
 p:∀b,(∀z,z∈(rt b m).1->To (lv b m) z)/\To (lv b m) (rt b m).2/\(rt b m).1.reverse.foldl (bn b) (rt b m).2=m
 n:∀b,(rt b m).1.length<=sz m
theorem tq_1{m:Tr}(h:∀b,rt b m=([],m)/\lv b m=(hh m).1)(t:To (hh m).1 m):Tq m:=
 ⟨t,λb=>by rw[(h b).1,(h b).2];exact⟨λ_ q=>(nomatch q),t,rfl⟩,λb=>by rw[(h b).1];exact Ag _⟩
theorem tq_2{l r:Tr}(hz:sz (bn b l r)+1<=big)(T:Tq l)(tr:To (hh r).1 r)(e1:rt b (bn b l r)=(r::(rt b l).1,(rt b l).2))(e2:lv b (bn b l r)=Nat.max (lv b l) (hh r).1)(e3:(hh (bn b l r)).1=lv b (bn b l r)+1)(e4:rt (!b) (bn b l r)=([],bn b l r))(e5:lv (!b) (bn b l r)=(hh (bn b l r)).1)(e6:sz (bn b l r)=sz l+sz r)(e7:tF (bn b l r)=27):Tq (bn b l r):=by
 have P:=T.p b
 have ab:(∀z,z∈(rt b (bn b l r)).1->To (lv b (bn b l r)) z)/\To (lv b (bn b l r)) (rt b (bn b l r)).2/\(rt b (bn b l r)).1.reverse.foldl (bn b) (rt b (bn b l r)).2=bn b l r:=by
  rw[e1,e2]
  refine⟨λz q=> ?_,P.2.1.up (Nat.le_max_left _ _),?_⟩
  ·rcases Bf.mp q with rfl | q
   ·exact tr.up (Nat.le_max_right _ _)
   ·exact(P.1 z q).up (Nat.le_max_left _ _)
  ·show(r::(rt b l).1).reverse.foldl (bn b) (rt b l).2=_
   rw[List.reverse_cons,List.foldl_append,P.2.2];rfl
 have hn:(rt b (bn b l r)).1.length<=sz (bn b l r):=by
  rw[e1,e6]
  exact Be (T.n b) A5t
 have t:To (hh (bn b l r)).1 (bn b l r):=λn q=>by
  rw[e3] at q
  obtain⟨n',e⟩:∃n',n=n'+1:=⟨n-1,(Cw (Aa (Bb 1 _) q)).symm⟩
  subst e
  rw[e7]
  refine to_pair ?_ (Nat.le_of_succ_le_succ q) ab.2.1 (λz q=>ab.1 z (Cc.mp q)) ab.2.2
  have w:=w_spine (n:=n') (b:=b) (x:=l) (y:=r) ((Bc _).symm▸Bl hz) (by rw[Aw];exact Aa (Ah hn) hz)
  rw[Cu,←List.map_reverse] at w
  exact w
 exact⟨t,λc=>by
  by_cases q:c=b
  ·subst q;exact ab
  ·have:c= !b:=by cases c <;> cases b <;> first | rfl | exact absurd rfl q
   rw[this,e4,e5];exact⟨λ_ q=>(nomatch q),t,rfl⟩,λc=>by
  by_cases q:c=b
  ·subst q;exact hn
  ·have:c= !b:=by cases c <;> cases b <;> first | rfl | exact absurd rfl q
   rw[this,e4];exact Ag _⟩
theorem to_s{m:Tr}(h:∀n,k<=n->cR (n+2) (tF m) [.p (A0d m)] []=.ok (.p (A0c m)) []):To (k+1) m:=by
 intro n q
 cases n with
 |zero=>exact absurd q (Nat.not_succ_le_zero _)
 |succ n=>exact h n (Nat.le_of_succ_le_succ q)
theorem w_spans{s:List (Nat×Nat)}:cR (n+1) 21 [.p (csV s)] []=.ok (.p (spsN s)) []:=ck λz=>z
theorem told_all:∀m,sz m+1<=big->Tq m:=by
 intro m
 induction m with
 |cat l r il ir=>exact λh=>tq_2 (b:=true) h (il (Aa (Ah (Ao _ _)) h)) (ir (Aa (Ah (Bb _ _)) h)).t rfl rfl rfl rfl rfl rfl rfl
 |alt l r il ir=>exact λh=>tq_2 (b:=false) h (il (Aa (Ah (Ao _ _)) h)) (ir (Aa (Ah (Bb _ _)) h)).t rfl rfl rfl rfl rfl rfl rfl
 |chars s=>exact λ_=>tq_1 (λb=>by cases b <;> exact⟨rfl,rfl⟩) (to_s (k:=0) λn _=>ck λz=>z _ rfl _ w_spans)
 |star m ih=>exact λh=>tq_1 (λb=>by cases b <;> exact⟨rfl,rfl⟩) (to_s λn q=>ck λz=>z _ A6o _ ((ih (Bl h)).t n q))
 |plus m ih=>exact λh=>tq_1 (λb=>by cases b <;> exact⟨rfl,rfl⟩) (to_s λn q=>ck λz=>z _ A6o _ ((ih (Bl h)).t n q))
 |opt m ih=>exact λh=>tq_1 (λb=>by cases b <;> exact⟨rfl,rfl⟩) (to_s λn q=>ck λz=>z _ A6o _ ((ih (Bl h)).t n q))
 |rep m lo hi ih=>exact λh=>tq_1 (λb=>by cases b <;> exact⟨rfl,rfl⟩) (to_s λn q=>ck λz=>z _ A6o _ ((ih (Bl h)).t n q))
 |_=>exact λ_=>tq_1 (λb=>by cases b <;> exact⟨rfl,rfl⟩) λn _=>ck λz=>z
end
section
variable{n k:Nat}{m:Tr}{tr:Option Tr}{b:Bool}
theorem B4p(t:To k m)(h:∀x,tr=some x->To k x)(hk:k<=n):cR (n+2) 36 [.p (patV m b tr)] []=.ok (.p (.tup [.bool b,A0c m,trT tr])) []:=by
 cases tr with
 |none=>exact ck λz=>z _ rfl _ A6o _ (t n hk)
 |some x=>exact ck λz=>z _ (congrArg not A9e) _ A6o _ (h x rfl n hk) _ A6o _ (t n hk)
end
noncomputable def colN(t:List Nat):Nat:=(t.reverse.takeWhile (· ≠10)).length
section
variable{l t:List Nat}{c:Nat}{o:Int}
theorem B7d:A1o (l++[10])=A1o l+1:=by unfold A1o;rw[List.filter_append,Ae];rfl
theorem B7c(h:c≠10):A1o (l++[c])=A1o l:=by unfold A1o;rw[List.filter_append,Ae,List.filter_cons_of_neg (by simpa using h)];rfl
theorem col_10:colN (l++[10])=0:=by unfold colN;rw[Cu];rfl
theorem col_ne(h:c≠10):colN (l++[c])=colN l+1:=by unfold colN;rw[Cu,List.reverse_singleton,List.singleton_append,List.takeWhile_cons_of_pos (by simpa using h)];rfl
noncomputable abbrev poF(t:List Nat)(o:Int)(k ln bg:Nat)(f:Option V):Lo:=[some (ps t),some (.p (.int o)),some (pi k),some (pi ln),some (pi bg),f]
theorem pos_for{n k:Nat}{h:Ht}:∀(m:Nat) {j bg:Nat} {f:Option V},j+m<=t.length->bg+colN (t.take j)=j->∃bg' g,bg'+colN (t.take (j+m))=j+m/\loT (A2w n (cR n) (A0b n).2 5 (cmB (stm b2 3))) ((List.range' j m).map nV) (poF t o k (A1o (t.take j)) bg f) h=.next (poF t o k (A1o (t.take (j+m))) bg' g) h:=by
 intro m
 induction m with
 |zero=>exact λ{j bg f} _ e=>⟨bg,f,e,A0v⟩
 |succ m ih=>
  intro j bg f hj e
  have lt:j<t.length:=Ap (B5 (Ar m)) hj
  have a:At t j (t[j]::t.drop (j+1)):=(List.drop_eq_getElem_cons lt)
  have tk:t.take (j+1)=t.take j++[t[j]]:=List.take_succ_eq_append_getElem lt
  have ha:j+(m+1)=j+1+m:=by rw[A7,Bg 1 m]
  by_cases q:t[j]=10
  ·have e2:(j+1)+colN (t.take (j+1))=j+1:=by rw[tk,q,col_10]
   obtain⟨b',g,w,z⟩:=ih (j:=j+1) (bg:=j+1) (f:=some (pi j)) (ha▸hj) e2
   rw[←ha] at w z
   rw[tk,q,B7d] at z
   exact⟨b',g,w,A1a (lq λz=>z _ a.c1.e _ (show Nat.beq t[j] 10=true from by rw[q];rfl)) z⟩
  ·have e2:bg+colN (t.take (j+1))=j+1:=by rw[tk,col_ne q,←A7,e]
   obtain⟨b',g,w,z⟩:=ih (j:=j+1) (bg:=bg) (f:=some (pi j)) (ha▸hj) e2
   rw[←ha] at w z
   rw[tk,B7c q] at z
   exact⟨b',g,w,A1a (lq λz=>z _ a.c1.e _ (show Nat.beq t[j] 10=false from Bn.mpr λy=>q (An y))) z⟩
theorem rng{k:Nat}:(A0t 0 (Int.ofNat k)).map AVal.int=(List.range' 0 k).map nV:=by
 unfold A0t
 rw[List.map_map,show(Int.ofNat k-0).toNat=k from by rw[Int.sub_zero];rfl,List.range_eq_range']
 exact List.map_congr_left λx _=>by show AVal.int (0+(x:Int))=_;rw[Int.zero_add];rfl
theorem B4o{n:Nat}{a b c:AVal}:cR (n+1) 0 [.obj 0 0,.p a,.p b,.p c] [.dct [] []]=.ok (.p .none) [.dct [0,1,2] [.p a,.p b,.p c]]:=ck λq=>q
theorem pos_ok(n:Nat)(t:List Nat)(i:Int)(ht:t.length+1<=big):(A0b (n+3)).1 2 [.p (.str t),.p (.int i)] []=.ok (.p (posV t i)) []:=by
 obtain⟨k,hk,e⟩:∃k:Nat,k<=t.length/\min (max i 0) (t.length:Int)=Int.ofNat k:=⟨(min (max i 0) (t.length:Int)).toNat,Int.toNat_le.mpr (Int.min_le_right _ _),(Int.toNat_of_nonneg (Int.le_min.mpr ⟨Int.le_max_right _ _,By _⟩)).symm⟩
 obtain⟨bg,g,w,z⟩:=pos_for (n:=n+2) (o:=i) (k:=k) (t:=t) (h:=[]) k (j:=0) (bg:=0) (f:=none) (by rw[Bc];exact hk) rfl
 have ep:posV t i=.inst 0 [0,1,2] [nV k,nV (A1o (t.take k)),nV (B0u (t.take k))]:=by unfold posV;rw[e];rfl
 rw[ep]
 rw[Bc] at w z
 have cg:Int.ofNat k-Int.ofNat bg+1=Int.ofNat (B0u (t.take k)):=by
  show(k:Int)- (bg:Int)+1=((colN (t.take k)+1:Nat):Int)
  have w2:(k:Int)=(bg:Int)+(colN (t.take k):Int):=(congrArg Int.ofNat w).symm
  rw[w2,Int.add_comm (bg:Int),Int.add_sub_cancel];rfl
 have mm:(Rs.ok (.p (.int (min (max i 0) (Int.ofNat t.length)))) []:Rs V)=.ok (pi k) []:=by rw[show min (max i 0) (Int.ofNat t.length)=Int.ofNat k from e]
 have gk:decide (-(2^20)<Int.ofNat k/\Int.ofNat k<2^20)=true:=A8 ⟨Int.lt_of_lt_of_le (by decide) (By k),Int.ofNat_lt.mpr (As hk ht)⟩
 rw[←rng] at z
 have q:cR (n+3) 2 [ps t,.p (.int i)] []=.ok (.p (.inst 0 [0,1,2] [nV k,nV (A1o (t.take k)),.int (Int.ofNat k-Int.ofNat bg+1)])) []:=ck λz'=>z' _ rfl _ mm gk _ z _ (B4o (n:=n))
 rw[cg] at q
 exact q
end
section
variable{l t:List Nat}{c:Nat}
theorem spl_c{c:Nat}{r:List Nat}:A0n (c::r)=(match Nat.beq c 10 with | true=> []::A0n r | false=>(match A0n r with | l::ls=>(c::l)::ls | []=> [[c]])):=by
 by_cases h:c=10
 ·subst h;exact if_pos rfl
 ·rw[show Nat.beq c 10=false from Bn.mpr λy=>h (An y)];exact if_neg h
theorem spl_all:∀(l:List Nat) {p:List Nat},∃ini las,A0n l=ini++[las]/\ini.length+A1o p=A1o (p++l)/\((ini=[]/\las.length+colN p=colN (p++l))∨(ini≠[]/\las.length=colN (p++l))):=by
 intro l
 induction l with
 |nil=>exact λ{p}=>⟨[],[],rfl,by rw[A6];exact Bc _,.inl ⟨rfl,by rw[A6];exact Bc _⟩⟩
 |cons c r ih=>
  intro p
  obtain⟨ini,las,e,h1,h2⟩:=ih (p:=p++[c])
  rw[Ai] at h1 h2
  rw[spl_c,e]
  cases q:Nat.beq c 10 with
  |true=>
   cases An q
   rw[B7d,Bg (A1o p),←A7] at h1
   rw[col_10] at h2
   exact⟨[]::ini,las,rfl,h1,.inr ⟨List.cons_ne_nil _ _,h2.elim (λz=>z.2) λz=>z.2⟩⟩
  |false=>
   have hc:c≠10:=λz=>by subst z;cases q
   rw[B7c hc] at h1
   rw[col_ne hc] at h2
   cases ini with
   |nil=>exact⟨[],c::las,rfl,h1,.inl ⟨rfl,h2.elim (λz=>(Cr _ _).trans z.2) λz=>absurd rfl z.1⟩⟩
   |cons x xs=>exact⟨(c::x)::xs,las,rfl,h1,.inr ⟨List.cons_ne_nil _ _,h2.elim (λz=>nomatch z.1) λz=>z.2⟩⟩
theorem spl_end:∃ini las,A0n l=ini++[las]/\ini.length+1=A1o l/\las.length+1=B0u l:=by
 obtain⟨ini,las,e,h1,h2⟩:=spl_all l (p:=[])
 exact⟨ini,las,e,h1,congrArg (· +1) (h2.elim (λz=>z.2) λz=>z.2)⟩
end
section
variable{a b:AVal}{m:Tr}{k:Nat}
structure Pd(k:Nat)(a:AVal):Prop where
 p:A3n a=true
 d:A3q a<=k
theorem Pd.up{k':Nat}(h:Pd k a)(q:k<=k'):Pd k' a:=⟨h.p,Aa h.d q⟩
structure Pds(k:Nat)(xs:List AVal):Prop where
 p:A3n.plainVs xs=true
 d:A3q.depthVs xs<=k
theorem Pds.nil:Pds k []:=⟨rfl,Ag _⟩
theorem Pds.cons{xs:List AVal}(h:Pd k a)(t:Pds k xs):Pds k (a::xs):=⟨(congrArg (· &&_) h.p).trans t.p,Nat.max_le.mpr ⟨h.d,t.d⟩⟩
theorem Pds.tup{xs:List AVal}(h:Pds k xs):Pd (k+1) (.tup xs):=⟨h.p,Ah h.d⟩
theorem pd_nm{c:Nat}:Pd k (nmV c):=⟨rfl,Ag _⟩
theorem pd_nV{c:Nat}:Pd k (nV c):=⟨rfl,Ag _⟩
theorem pd_1{c:Nat}(h:Pd k a):Pd (k+1) (.tup [nmV c,a]):=(Pds.cons pd_nm (.cons h .nil)).tup
theorem pds_sp:∀{s:List (Nat×Nat)},Pds 1 (s.map spN):=λ{s}=>s.rec .nil λp s ih=>.cons ⟨rfl,Ac 1⟩ ih
theorem pd_2{c x y:Nat}(h:Pd (x+2) a)(g:Pd (y+2) b)(hx:1<=x)(hy:1<=y):Pd (x+y+2) (.tup [nmV c,a,b]):=
 (Pds.cons (k:=x+y+1) pd_nm (.cons (h.up (Ah (Au hy x))) (.cons (g.up (Ah (Bg y x▸Au hx y))) .nil))).tup
theorem pd_told(m:Tr):Pd (sz m+2) (A0c m):=by
 induction m with
 |empty=>exact⟨rfl,by decide⟩
 |never=>exact⟨rfl,by decide⟩
 |chars s=>exact pd_1 pds_sp.tup
 |cat l r il ir=>exact pd_2 il ir A5t A5t
 |alt l r il ir=>exact pd_2 il ir A5t A5t
 |star b ih=>exact pd_1 ih
 |plus b ih=>exact pd_1 ih
 |opt b ih=>exact pd_1 ih
 |rep b lo hi ih=>exact(Pds.cons (k:=sz b+2) pd_nm (.cons ih (.cons pd_nV (.cons (by cases hi <;> exact⟨rfl,Ag _⟩) .nil)))).tup
end
section
variable{t:List Nat}{n e k at_:Nat}{D:AVal}{pat:Bool}{R:AVal}
noncomputable abbrev poA(t:List Nat)(e:Nat):AVal:=.inst 0 [0,1,2] [nV e,nV (A1o (t.take e)),nV (B0u (t.take e))]
theorem pos_at(h:e<=t.length):posV t (Int.ofNat e)=poA t e:=by
 have w:(min (max (Int.ofNat e) 0) (t.length:Int)).toNat=e:=
  (congrArg Int.toNat ((congrArg (min · (t.length:Int)) (Int.max_eq_left (By e))).trans (Int.min_eq_left (B7.mpr h)))).trans rfl
 unfold posV
 rw[w];rfl
theorem w_potold:cR (n+1) 1 [.p (poA t e)] []=.ok (.p (.tup [nV (A1o (t.take e)),nV (B0u (t.take e))])) []:=ck λz=>z
theorem told_f(T:t.length<=big){f5 f6 f7:Option V}:runL (n+2) (cR (n+2)) (A0b (n+2)).2 (b81.drop 2) [some (ps t),some (pi at_),some (pb pat),some (.p D),some (.p (poA t e)),f5,f6,f7,none,none] []=.ret (.p (fauV e)) []:=by
 obtain⟨ini,las,q,h1,h2⟩:=spl_end (l:=t.take e)
 have g:Nat.ble (t.take e).length big=true:=A0k (Aa (by rw[Co];exact Nat.min_le_right _ _) T)
 have a:atI ((A0n (t.take e)).map AVal.str) (.negSucc 0)=some (.str las):=by
  rw[q,Cp]
  show(match Nat.ble 1 (ini.map AVal.str++[AVal.str las]).length with | true=>_ | false=>_)=_
  rw[show Nat.ble 1 (ini.map AVal.str++[AVal.str las]).length=true from A0k (Ae▸Bb 1 _)]
  exact(congrArg (λi=>(ini.map AVal.str++[AVal.str las])[i]?) (show(ini.map AVal.str++[AVal.str las]).length-1=(ini.map AVal.str).length from by rw[Ae];rfl)).trans List.getElem?_concat_length
 have b:tupB [nV (A1o (t.take e)),nV (B0u (t.take e))] [.int (Int.ofNat ((A0n (t.take e)).map AVal.str).length),.int (Int.ofNat las.length+1)]=true:=B5i ⟨by
  rw[←h1,←h2,q,Aw,Ae];rfl,rfl,by show 0+1<=1000;decide⟩
 exact lq λz=>z _ rfl _ rfl g _ rfl _ w_potold _ a b _ rfl
inductive So(t:List Nat)(at_:Nat)(pat:Bool)(D:AVal):Prop
 |mk (R:List AVal) (d:Pd 1000 (.tup R)) (x:∀n,cR (n+77) 81 [ps t,pi at_,pb pat,.p D] []=.ok (.p (.tup R)) []) (y:∀n,cR (n+12) 80 [ps t,pi at_,pb pat] []=.ok (.p (.tup R)) [])
theorem pd_fau:Pd 1000 (fauV e):=⟨rfl,by show 0+1<=1000;decide⟩
section
variable{m:Tr}
theorem hm_60(hp:pc t 0<=20)(hl:lc t 0<=20):hm t 0+4<=64:=Ay (Be (B6 2 hp) hl) 4
theorem to_64(hp:pc t 0<=20)(hl:lc t 0<=20)(hs:t.length<=900)(h:(hh m).1<=hm t 0+4/\sz m<=t.length+1):To 64 m:=
 (told_all m (Aa (Ah (Aa h.2 (Ah hs))) (nbl rfl))).t.up (Aa h.1 (hm_60 hp hl))
theorem pd_m(hs:t.length<=900)(h:(hh m).1<=hm t 0+4/\sz m<=t.length+1):Pd 990 (A0c m):=(pd_told m).up (Aa (Ay (Aa h.2 (Ah hs)) 2) (nbl rfl))
end
theorem tl_b(hs:t.length<=900):t.length<=big:=Aa hs (nbl rfl)
theorem so_reg(T:TT t)(K:Kn D t)(hs:t.length<=900)(hp:pc t 0<=20)(hl:lc t 0<=20):So t 0 false D:=by
 cases reg_ex T K hp hl with
 |er e lt p l=>exact .mk _ pd_fau (λn=>ck2 (a:=b81.take 2) (b:=b81.drop 2) rfl (lq λz=>z _ rfl _ ((p (n+1)).trans (congrArg Rs.exc (pos_at (Ak lt))))) (told_f (tl_b hs)) rfl) l
 |ok m hb p l=>exact .mk _ (Pds.cons (k:=990) ⟨rfl,Ag _⟩ (.cons (pd_m hs hb) .nil) |>.tup |>.up (nbl rfl)) (λn=>ck λz=>z _ rfl _ (p (n+1)) _ A6o _ (to_64 hp hl hs hb (n+75) (Bb 64 (n+11))) _ rfl) l
theorem so_pat(T:TT t)(K:Kn D t)(hs:t.length<=900)(hp:pc t 0<=20)(hl:lc t 0<=20)(ha:at_<=t.length):So t at_ true D:=by
 cases pat_ex T K hp hl ha with
 |er e le p l=>exact .mk _ pd_fau (λn=>ck2 (a:=b81.take 2) (b:=b81.drop 2) rfl (lq λz=>z _ rfl _ ((p (n+1)).trans (congrArg Rs.exc (pos_at le)))) (told_f (tl_b hs)) rfl) l
 |ok m tr b k hb hc p l=>
  refine .mk _ ?_ (λn=>ck λz=>z _ rfl _ (p (n+1)) _ rfl _ (B4p (n:=n+74) (to_64 hp hl hs hb) (λx q=>to_64 hp hl hs (hc x q)) (Bb 64 (n+10))) _ rfl) l
  refine Pds.tup (k:=999) (.cons ⟨rfl,Ag _⟩ (.cons (Pds.tup (k:=998) (.cons ⟨rfl,Ag _⟩ (.cons ((pd_m hs hb).up (nbl rfl)) (.cons ?_ .nil)))) (.cons pd_nV .nil)))
  cases tr with
  |none=>exact⟨rfl,Ag _⟩
  |some x=>exact(pd_m hs (hc x rfl)).up (nbl rfl)
end
section
variable{t s:List Nat}{n i d:Nat}{D:AVal}{c:Nat}
theorem w_pl(h:At t i (c::s))(hc:c=97∨c=98):cR (n+12) 47 [.obj 18 0] (rdH D false t i d)=.ok (.p (A0d (.chars [(c,c)]))) (rdH D false t (i+1) d):=by
 have co:cR (n+11) 48 [.obj 18 0,ps [c],pi i] (rdH D false t (i+1) d)=.ok (pi c) (rdH D false t (i+1) d):=by
  rcases hc with rfl | rfl <;> exact ck λq=>q _ rfl _ rfl
 have b:c<=127:=by rcases hc with rfl | rfl <;> decide
 rcases hc with rfl | rfl <;> exact ck λq=>q _ (A0m h) _ rfl _ rfl _ rfl _ rfl _ rfl _ rfl _ co _ (B4n (n:=n+7) b) _ (A3g (n:=n+9))
theorem w_pl1(h:At t i (c::s))(hc:c=97∨c=98)(ht:stB false d s=true)(hl:isLp s=false):cR (n+13) 43 [.obj 18 0] (rdH D false t i d)=.ok (.p (A0d (.chars [(c,c)]))) (rdH D false t (i+1) d):=by
 have q:stB false d (c::s)=false:=by rcases hc with rfl | rfl <;> rfl
 have lo:cR (n+12) 44 [.obj 18 0,.p (A0d (.chars [(c,c)]))] (rdH D false t (i+1) d)=.ok (.p (A0d (.chars [(c,c)]))) (rdH D false t (i+1) d):=ck λz=>z rfl _ (B8a (lp_no h.c1.n hl))
 exact A3v (row':=[.chars [(c,c)]]) (.go (cb (congrArg not q) λz=>z _ (A6p h)) (lq λz=>z _ (w_pl h hc) _ lo rfl) (.no (cb (congrArg not ht) λz=>z _ (A6p h.c1.n))))
theorem w_ab:cR (n+75) 55 [ps [97,124,98]] []=.ok (.p (A0d (.alt (.chars [(97,97)]) (.chars [(98,98)])))) []:=by
 have w:wC .none false [97,124,98] 1 0 (n+60) (.chars [(97,97)]) (.next [some (.obj 18 0),some (.p (A0d (.alt (.chars [(97,97)]) (.chars [(98,98)]))))] (rdH .none false [97,124,98] 3 0)):=
  .go (cq λz=>z _ (A0j (n:=n+71) (s:=[124,98]) rfl rfl)) (lq λz=>z _ (w_pl1 (n:=n+60) (c:=98) (s:=[]) rfl (.inr rfl) rfl rfl) _ (w_alt (n:=n+71))) (.no (cq λz=>z _ (A0e (n:=n+71) (s:=[]) rfl rfl)))
 have ch:cR (n+74) 42 [.obj 18 0] (rdH .none false [97,124,98] 0 0)=.ok (.p (A0d (.alt (.chars [(97,97)]) (.chars [(98,98)])))) (rdH .none false [97,124,98] 3 0):=
  ck λz=>z _ (w_pl1 (n:=n+60) (c:=97) (s:=[124,98]) rfl (.inl rfl) rfl rfl) _ (WhS.s w)
 exact ck λz=>z _ (A2p (n:=n+70)) _ ch _ (A1m (s:=[]) rfl) _ rfl
theorem w_em:cR (n+75) 55 [ps []] []=.ok (.p (A0d .empty)) []:=by
 have br:cR (n+73) 43 [.obj 18 0] (rdH .none false [] 0 0)=.ok (.p (A0d .empty)) (rdH .none false [] 0 0):=A3v (row':=[]) (.no (cq λz=>z _ (A6p (s:=[]) rfl)))
 have ch:cR (n+74) 42 [.obj 18 0] (rdH .none false [] 0 0)=.ok (.p (A0d .empty)) (rdH .none false [] 0 0):=ck λz=>z _ br _ (WhS.s (.no (cq λz=>z _ (A0e (s:=[]) rfl rfl))))
 exact ck λz=>z _ (A2p (n:=n+70)) _ ch _ (A1m (s:=[]) rfl) _ rfl
end
section
variable{i j:Int}{a b k m:Nat}
abbrev Ib(k:Nat)(i:Int):Prop:=i.natAbs<=2^k
theorem Ib.add(h:Ib k i)(g:Ib k j):Ib (k+1) (i+j):=Aa (Int.natAbs_add_le i j) (Aa (Be h g) (Aj ((Nat.mul_two _).symm.trans (Nat.pow_succ 2 _).symm)))
theorem Ib.mul(h:Ib a i)(g:Ib b j):Ib (a+b) (i*j):=Aa (Aj (Int.natAbs_mul i j)) (Aa (Nat.mul_le_mul h g) (Aj (Nat.pow_add 2 a b).symm))
theorem Ib.up(h:Ib a i)(q:a<=b):Ib b i:=Aa h (Nat.pow_le_pow_right (Ar 1) q)
theorem mod_n(i:Int)(h:0<m):∃d,d<m/\i%Int.ofNat m=Int.ofNat d:=
 have p:0<=i%Int.ofNat m:=Int.emod_nonneg i (Int.ne_of_gt (Int.ofNat_lt.mpr h))
 have e:((i%Int.ofNat m).toNat:Int)=i%Int.ofNat m:=Int.toNat_of_nonneg p
 ⟨(i%Int.ofNat m).toNat,Int.ofNat_lt.mp (e▸Int.emod_lt_of_pos i (Int.ofNat_lt.mpr h)),e.symm⟩
theorem Ib.mod(h:0<m)(q:m<=2^k):Ib k (i%Int.ofNat m):=(mod_n i h).elim λd z=>by rw[Ib,z.2];exact Aa (Ak z.1) q
theorem mu_g(h:Ib 100 i)(g:Ib 100 j):decide (i.natAbs<2^2000/\j.natAbs<2^2000)=true:=
 A8 ⟨As h (Nat.pow_lt_pow_right (Ac 2) (nbl rfl)),As g (Nat.pow_lt_pow_right (Ac 2) (nbl rfl))⟩
theorem po_g(h:Ib 100 i)(g:0<=j/\j<=18):decide (i.natAbs<2^200/\0<=j/\j<=18)=true:=
 A8 ⟨As h (Nat.pow_lt_pow_right (Ac 2) (nbl rfl)),g⟩
theorem md_g(h:0<m):decide (0<Int.ofNat m)=true:=A8 (Int.ofNat_lt.mpr h)
theorem dv_g(h:0<m)(g:m<1000):decide (0<Int.ofNat m/\Int.ofNat m<2^29)=true:=A8 ⟨Int.ofNat_lt.mpr h,Int.lt_trans (Int.ofNat_lt.mpr g) (by decide)⟩
end
noncomputable abbrev pnV(l:List Int)(s d:Nat):Cl:=.lst [.lst (l.map .int),nV s,nV d]
inductive Dr(l:List Int)(m s d:Nat):Prop
 |mk (v s' d':Nat) (lt:v<m) (le:s'<=s+1) (w:∀n,cR (n+1) 64 [.ref 0,pi m] [pnV l s d]=.ok (pi v) [pnV l s' d'])
section
variable{l:List Int}{m s d n:Nat}
noncomputable abbrev drF(m s:Nat)(c:Int)(f5 f6:Option V):Lo:=[some (.ref 0),some (pi m),none,some (pi s),some (.p (.int c)),f5,f6]
theorem dr_1:∃c,∀n,runL n (cR n) (A0b n).2 (b64.take 5) [some (.ref 0),some (pi m),none,none,none,none,none] [pnV l s 0]=.next (drF m s c none none) [pnV l (s+1) 0]:=by
 cases l with
 |nil=>exact⟨0,λn=>lq λq=>q _ rfl _ rfl _ rfl _ rfl _ rfl _ rfl⟩
 |cons x l=>
  have lt:s% (l.length+1)<((x::l).map AVal.int).length:=Aw (f:=AVal.int) (as:=x::l)▸Nat.mod_lt s (Ar l.length)
  have e:((x::l).map AVal.int)[s% ((x::l).map AVal.int).length]?=some (.int ((x::l)[s% (l.length+1)]'(Nat.mod_lt s (Ar l.length)))):=by
   rw[Aw,List.getElem?_map]
   exact congrArg (Option.map AVal.int) (B4 _)
  exact⟨_,λn=>lq λq=>q _ rfl _ rfl _ rfl _ rfl _ rfl _ rfl _ rfl _ rfl (md_g (Ar _)) _ e⟩
theorem dr_3{c:Int}(hm:0<m)(hs:s<2^20)(f5:Option V):∃v,v<m/\∀n,runL n (cR n) (A0b n).2 (b64.drop 6) (drF m s c f5 none) [pnV l (s+1) d]=.ret (pi v) [pnV l (s+1) d]:=by
 have bs:Ib 20 (Int.ofNat s):=Ak hs
 have k:∀z:Int,Nat.ble z.natAbs (2^20)=true->Ib 20 z:=λ_ h=>nbl h
 have u:∀{a b:Nat} {z:Int},Ib a z->Nat.ble a b=true->Ib b z:=λh q=>h.up (nbl q)
 have m1:Ib 40 (c%Int.ofNat 2147483587):=Ib.mod (Ar _) (nbl rfl)
 have a1:Ib 40 (20011*Int.ofNat s):=(k 20011 rfl).mul bs
 have a2:Ib 100 (c%Int.ofNat 2147483587+20011*Int.ofNat s+7001):=u ((m1.add a1).add (u (k 7001 rfl) rfl)) rfl
 generalize hx:(c%Int.ofNat 2147483587+20011*Int.ofNat s+7001)^ (5:Int).toNat%Int.ofNat 2147483629=x
 have m2:Ib 40 x:=hx▸Ib.mod (Ar _) (nbl rfl)
 have c1:Ib 41 (2*Int.ofNat s+4021):=((k 2 rfl).mul bs).add (u (k 4021 rfl) rfl)
 have c2:Ib 81 (x*(2*Int.ofNat s+4021)):=m2.mul c1
 have d1:Ib 40 (811*Int.ofNat s):=(k 811 rfl).mul bs
 have d2:Ib 60 (811*Int.ofNat s*Int.ofNat s):=d1.mul bs
 have c3:Ib 100 (x*(2*Int.ofNat s+4021)+811*Int.ofNat s*Int.ofNat s+31):=u ((c2.add (u d2 rfl)).add (u (k 31 rfl) rfl)) rfl
 have r1:∀n,runL n (cR n) (A0b n).2 ((b64.drop 6).take 1) (drF m s c f5 none) [pnV l (s+1) d]=.next (drF m s c f5 (some (.p (.int x)))) [pnV l (s+1) d]:=λn=>
  lqt (λq=>q rfl (mu_g (u (k 20011 rfl) rfl) (u bs rfl)) (po_g a2 (by decide)) rfl) (congrArg (λx=>Ro.next (drF m s c f5 (some (.p (.int x)))) [pnV l (s+1) d]) hx)
 obtain⟨v,lt,e⟩:=mod_n (((x*(2*Int.ofNat s+4021)+811*Int.ofNat s*Int.ofNat s+31)^ (3:Int).toNat%Int.ofNat 2147483579)/32) hm
 exact⟨v,lt,λn=>lcat (a:=(b64.drop 6).take 1) (b:=b64.drop 7) (r1 n) (lqt (λq=>q (mu_g (u (k 2 rfl) rfl) (u bs rfl)) (mu_g (u m2 rfl) (u c1 rfl)) (mu_g (u (k 811 rfl) rfl) (u bs rfl)) (mu_g (u d1 rfl) (u bs rfl)) (po_g c3 (by decide)) rfl rfl (md_g hm)) (congrArg (λx=>Ro.ret (V.p (.int x)) [pnV l (s+1) d]) e))⟩
theorem A2e(hm:0<m)(h1:m<1000)(hs:s<2^20):Dr l m s d:=by
 cases d with
 |succ d=>exact .mk ((d+1)%m) s ((d+1)/m) (Nat.mod_lt _ hm) (A9 s) λn=>ck λq=>q _ rfl _ rfl _ rfl (md_g hm) _ rfl (dv_g hm h1) _ rfl
 |zero=>
  obtain⟨c,w1⟩:=dr_1 (l:=l) (m:=m) (s:=s)
  obtain⟨v,lt,w3⟩:=dr_3 (l:=l) (d:=0) (c:=c) hm hs none
  have go:(∀n,runL n (cR n) (A0b n).2 ((b64.drop 5).take 1) (drF m s c none none) [pnV l (s+1) 0]=.next (drF m s c none none) [pnV l (s+1) 0])->Dr l m s 0:=λw2=>
   .mk v (s+1) 0 lt (Ac _) λn=>ck2 (a:=b64.take 5) (b:=b64.drop 5) rfl (w1 n) (lcat (a:=(b64.drop 5).take 1) (b:=b64.drop 6) (w2 n) (w3 n)) rfl
  cases q1:ltB (Int.ofNat s) (Int.ofNat (l.map AVal.int).length) with
  |false=>exact go λn=>lq λq=>q _ rfl _ q1 _ rfl
  |true=>
   cases q2:leB (10^ (18:Int).toNat) (Int.ofNat c.natAbs) with
   |false=>exact go λn=>lq λq=>q _ rfl _ q1 (po_g (nbl rfl) (by decide)) _ q2
   |true=>
    obtain⟨g,e⟩:=Int.eq_ofNat_of_zero_le (Int.sub_nonneg.mpr (Ba ((B7f _ _).symm.trans q2)))
    exact .mk (g%m) (s+1) (g/m) (Nat.mod_lt _ hm) (Ac _) λn=>ck2 (a:=b64.take 5) (b:=b64.drop 5) rfl (w1 n)
     (lqt (λq=>q _ rfl _ q1 (po_g (nbl rfl) (by decide)) _ q2 (po_g (nbl rfl) (by decide)) (dv_g hm h1) _ rfl (md_g hm)) (congrArg (λE=>Ro.ret (V.p (.int (E%Int.ofNat m))) [.lst [.lst (l.map .int),nV (s+1),.int (E/Int.ofNat m)]]) e)) rfl
end
noncomputable def mp:Nat->Nat->Bool
 |0=>λ_=>true
 |1=>Nat.beq 40
 |2=>lpC
 |_+3=>A4y.contains
noncomputable abbrev M(k:Nat)(t:List Nat):Nat:=t.countP (mp k)
noncomputable def wt:Nat->Nat
 |0=>20
 |1=>1
 |2=>1
 |_+3=>10
abbrev Bd(j:Nat)(t:List Nat):Prop:=∀k,M k t<=j*wt k
noncomputable def pcB(t:List Nat):Bool:=Nat.ble (M 0 t) 20&& (Nat.ble (M 1 t) 1&& (Nat.ble (M 2 t) 1&&Nat.ble (M 3 t) 10))
section
variable{t u:List Nat}{i j k a e:Nat}
theorem M0:M 0 t=t.length:=List.countP_true.symm▸rfl
theorem A4l:M k (t++u)=M k t+M k u:=List.countP_append
theorem B3q(h:pcB t=true)(j:Nat)(hj:1<=j):Bd j t:=λk=>Aa (m:=wt k) (match k with
 |0=>nbl (bL h)
 |1=>nbl (bL (bR h))
 |2=>nbl (bL (bR (bR h)))
 |_+3=>nbl (bR (bR (bR h)))) (Nat.le_mul_of_pos_left _ hj)
theorem Bd.app(h:Bd i t)(g:Bd j u):Bd (i+j) (t++u):=λk=>A4l▸(Nat.add_mul i j (wt k)).symm▸Be (h k) (g k)
theorem Bd.up(h:Bd i t)(q:i<=j):Bd j t:=λk=>Aa (h k) (Nat.mul_le_mul_right _ q)
theorem Bd.len(h:Bd j t):t.length<=j*20:=M0▸h 0
theorem Bd.le(h:Bd j t)(q:M k u<=M k t):M k u<=j*wt k:=Aa q (h k)
theorem M_put:M k (cut 0 a t++u++cut (a+e) t.length t)<=M k t+M k u:=by
 have q:M k (t.take a)+M k (t.drop a)=M k t:=A4l.symm.trans (congrArg (M k) (C0 a t))
 have r:M k (cut (a+e) t.length t)<=M k (t.drop a):=by
  unfold cut
  rw[List.take_length,←List.drop_drop]
  exact List.Sublist.countP_le (List.drop_sublist _ _)
 rw[A4l,A4l,show cut 0 a t=t.take a from rfl,Bj]
 exact Ay (q▸Au r _) _
theorem Bd.put(h:Bd i t)(g:Bd j u):Bd (i+j) (cut 0 a t++u++cut (a+e) t.length t):=λk=>Aa M_put ((Nat.add_mul i j (wt k)).symm▸Be (h k) (g k))
end
noncomputable def litS:Ex->List Nat
 |.lit (.str s)=>s
 |_=> []
noncomputable def tb:List Cm->List (List Nat)
 |.ret (.flist es)::_=>es.map litS
 |_=> []
theorem tb_ok:((tb b57).all pcB&& ((tb b58).all pcB&& ((tb b59).all pcB&& (tb b60).all pcB)))=true:=by decide+kernel
section
variable{l:List Int}{n s d k:Nat}{T:List (List Nat)}
theorem w57:cR (n+1) 57 [] []=.ok (.p (.lst ((tb b57).map .str))) []:=ck λq=>q
theorem w58:cR (n+1) 58 [] []=.ok (.p (.lst ((tb b58).map .str))) []:=ck λq=>q
theorem w59:cR (n+1) 59 [] []=.ok (.p (.lst ((tb b59).map .str))) []:=ck λq=>q
theorem w60:cR (n+1) 60 [] []=.ok (.p (.lst ((tb b60).map .str))) []:=ck λq=>q
inductive Tb(l:List Int)(T:List (List Nat))(s d:Nat):Prop
 |mk (u:List Nat) (v s' d':Nat) (h:u∈T) (le:s'<=s+1) (e:(T.map AVal.str)[v]?=some (.str u)) (w:∀n,cR (n+1) 64 [.ref 0,pi (T.map AVal.str).length] [pnV l s d]=.ok (pi v) [pnV l s' d'])
theorem A8s(g:(Nat.ble 1 T.length&&Nat.ble (T.length+1) 1000)=true)(hs:s<2^20):Tb l T s d:=by
 have e:(T.map AVal.str).length=T.length:=Aw _
 cases A2e (l:=l) (m:=(T.map AVal.str).length) (s:=s) (d:=d) (e▸nbl (bL g)) (e▸nbl (bR g)) hs with
 |mk v s' d' lt le w=>
  have lt':v<T.length:=e▸lt
  exact .mk (T[v]'lt') v s' d' (List.getElem_mem lt') le (List.getElem?_map.trans (congrArg (Option.map AVal.str) (B4 lt'))) w
end
theorem A7z{n:Nat}{o oi:Ob}{c:Ex}{a b:List Cm}{ρ:Lo}{h h1:Ht}{x:Bool}{r:Ro}(hc:runX o oi c ρ h=.ok (pb x) h1)(k:cond x (runL n o oi a ρ h1) (runL n o oi b ρ h1)=r):runL n o oi [.ite c a b] ρ h=r:=by
 refine .trans (b:=runS n o oi (.ite c a b) ρ h) B0d ?_
 show(runX o oi c ρ h).st ρ (λv h1=>ifB (truV h1 v) (runL n o oi a ρ h1) (runL n o oi b ρ h1))=r
 rw[hc]
 cases x <;> exact k
noncomputable abbrev Rb(j:Nat)(t:List Nat)(p:Nat):Prop:=∀k,M k t+M k (List.replicate p 41)<=j*wt k
noncomputable abbrev rwF(t:List Nat)(p:Nat)(f3 f4 f5:Option V):Lo:=[some (.ref 0),some (ps t),some (pi p),f3,f4,f5]
noncomputable abbrev rwB:List Cm:=cmB (stm b65 2)
noncomputable abbrev rwR(n:Nat)(b:List Cm)(ρ:Lo)(h:Ht):Ro:=runL (n+1) (cR (n+1)) (A0b (n+1)).2 b ρ h
section
variable{l:List Int}{n s d k p j S:Nat}{t u:List Nat}{b:Bool}
theorem Rb.one(h:Rb j t p):Rb (j+1) t p:=λk=>Aa (h k) (Nat.mul_le_mul_right _ (A9 j))
theorem Rb.app(h:Rb j t p)(g:pcB u=true):Rb (j+1) (t++u) p:=λk=>by
 rw[A4l,Bj,Nat.add_mul]
 exact Be (h k) (B3q g 1 (Ac 1) k)
theorem M_rep:M k (List.replicate (p+1) 41)=M k [41]+M k (List.replicate p 41):=(congrArg (M k) (List.replicate_succ (n:=p) (a:=41))).trans (A4l (t:=[41]))
theorem Rb.op(h:Rb j t p):Rb (j+1) (t++[40]) (p+1):=λk=>by
 rw[A4l,M_rep,Nat.add_add_add_comm,Bg (M k [40]),←Nat.add_add_add_comm,Bg (M k [41]),←A4l (t:=[40]),Nat.add_mul]
 exact Be (h k) (B3q (t:=[40,41]) rfl 1 (Ac 1) k)
theorem Rb.cl(h:Rb j t (p+1)):Rb (j+1) (t++[41]) p:=λk=>by
 rw[A4l,A7,←M_rep]
 exact h.one k
theorem ap_g(h:t.length<=1000)(g:u.length<=1000):Nat.ble (t.length+u.length) big=true:=A0k (Aa (Be h g) (nbl rfl))
theorem pc_len(h:pcB u=true):u.length<=1000:=Aa (Bd.len (B3q h 1 (Ac 1))) (nbl rfl)
theorem bg_ex:∃b,∀(n:Nat) (f3 f4 f5:Option V) (h:Ht),rwR n ((rwB.drop 1).take 1) (rwF t p f3 f4 f5) h=.next (rwF t p f3 f4 (some (pb b))) h:=by
 cases t with
 |nil=>exact⟨_,λn f3 f4 f5 h=>lq λq=>q _ rfl⟩
 |cons c r=>
  have e:atI (c::r) (.negSucc 0)=some ((c::r)[r.length]'(Ax _)):=(B4 (l:=c::r) (Ax r.length))
  exact⟨_,λn f3 f4 f5 h=>lq λq=>q _ rfl _ e⟩
theorem c1_ex{w:Nat}:∃c,∀(n:Nat) (f3:Option V) (h:Ht),runX (cR (n+1)) (A0b (n+1)).2 (.and [(.cmp2 .le .le (.lit (.int 4)) (.loc 4) (.lit (.int 5))),(.loc 5)]) (rwF t p f3 (some (pi w)) (some (pb b))) h=.ok (pb c) h:=by
 cases q1:leB 4 (Int.ofNat w) with
 |false=>exact⟨false,λn f3 h=>xq λq=>q _ q1 _ rfl⟩
 |true=>
  cases q2:leB (Int.ofNat w) 5 with
  |false=>exact⟨false,λn f3 h=>xq λq=>q _ q1 _ q2⟩
  |true=>exact⟨b,λn f3 h=>xq λq=>q _ q1 _ q2⟩
inductive RT(l:List Int)(t:List Nat)(p s d:Nat):Prop
 |mk (t':List Nat) (p' s' d':Nat) (hb:∀j,Rb j t p->Rb (j+1) t' p') (le:s'<=s+3) (w:∀n f3 f4 f5,∃g4 g5,rwR n rwB (rwF t p f3 f4 f5) [pnV l s d]=.next (rwF t' p' f3 g4 g5) [pnV l s' d'])
noncomputable abbrev rwI:Cm:=stm rwB 2
inductive TF | t | f
noncomputable def iteB:TF->Cm->List Cm
 |.t,.ite _ b _=>b
 |.f,.ite _ _ b=>b
 |_,_=> []
noncomputable abbrev rwC(x:TF):List Cm:=iteB x (stm (iteB .f (stm (iteB .f (stm (iteB .f rwI) 0)) 0)) 0)
theorem rt_ex(ht:t.length<=1000)(hs:s+3<2^20):RT l t p s d:=by
 have l2:∀{a b:Nat},a<=b+1->b<=s+1->a<=s+2:=λh g=>Aa h (Ah g)
 have l3:∀{a b:Nat},a<=b+1->b<=s+2->a<=s+3:=λh g=>Aa h (Ah g)
 have le3:∀{a:Nat},a<=s+2->a<=s+3:=Az
 have lt:∀{a:Nat},a<=s+3->a<2^20:=λh=>As h hs
 obtain⟨b,hA⟩:=bg_ex (t:=t) (p:=p)
 cases A2e (l:=l) (m:=8) (s:=s) (d:=d) (Ar _) (nbl rfl) (lt (Ao s 3)) with
 |mk w s1 d1 lw e1 w1=>
  obtain⟨c,hC⟩:=c1_ex (t:=t) (p:=p) (w:=w) (b:=b)
  have h1:s1<2^20:=lt (le3 (Az e1))
  have fin:∀{t':List Nat} {p' s' d':Nat},(∀j,Rb j t p->Rb (j+1) t' p')->s'<=s+3->(∀n f3,rwR n [rwI] (rwF t p f3 (some (pi w)) (some (pb b))) [pnV l s1 d1]=.next (rwF t' p' f3 (some (pi w)) (some (pb b))) [pnV l s' d'])->RT l t p s d:=λhb le k=>
   .mk _ _ _ _ hb le λn f3 f4 f5=>⟨_,_,lcat (a:=rwB.take 1) (b:=rwB.drop 1) (lq λz=>z _ (w1 (n:=n))) (lcat (a:=(rwB.drop 1).take 1) (b:=[rwI]) (hA n f3 _ f5 _) (k n f3))⟩
  cases c with
  |true=>
   cases A8s (l:=l) (T:=tb b58) (s:=s1) (d:=d1) rfl h1 with
   |mk u v s2 d2 hu le e w2=>
    have hu:=Av.mp (bL (bR tb_ok)) _ hu
    exact fin (λj h=>h.app hu) (le3 (l2 le e1)) λn f3=>A7z (hC n f3 _) (lq λz=>z _ w58 _ w58 _ (w2 n) _ e (ap_g ht (pc_len hu)))
  |false=>
   cases q6:eqI (Int.ofNat w) 6 with
   |true=>
    cases A2e (l:=l) (m:=2) (s:=s1) (d:=d1) (Ar _) (nbl rfl) h1 with
    |mk v s2 d2 lv le w2=>
     cases q0:eqI (Int.ofNat v) 0 with
     |true=>exact fin (λj h=>h.op) (le3 (l2 le e1)) λn f3=>A7z (hC n f3 _) (A7z (x:=true) (xb q0 λz=>z _ q6 _ (w2 n)) (lq λz=>z (ap_g ht (nbl rfl))))
     |false=>exact fin (λj h=>h.app (u:=[124]) rfl) (le3 (l2 le e1)) λn f3=>A7z (hC n f3 _) (A7z (x:=false) (xb q0 λz=>z _ q6 _ (w2 n)) (lq λz=>z _ q6 (ap_g ht (nbl rfl))))
   |false=>
    have go:∀{x:Bool} {n:Nat} {f3:Option V} {h:Ht} {r:Ro},runX (cR (n+1)) (A0b (n+1)).2 (.and [(.cmp .eq (.loc 4) (.lit (.int 7))),(.cmp .gt (.loc 2) (.lit (.int 0)))]) (rwF t p f3 (some (pi w)) (some (pb b))) h=.ok (pb x) h->cond x (rwR n (rwC .t) (rwF t p f3 (some (pi w)) (some (pb b))) h) (rwR n (rwC .f) (rwF t p f3 (some (pi w)) (some (pb b))) h)=r->rwR n [rwI] (rwF t p f3 (some (pi w)) (some (pb b))) h=r:=
     λ{x n f3 h r} cd k=>A7z (hC n f3 h) (A7z (x:=false) (xq λz=>z _ q6) (A7z (xb q6 λz=>z) (A7z cd k)))
    have dr:(∀(n:Nat) (f3:Option V) (h:Ht),runX (cR (n+1)) (A0b (n+1)).2 (.and [(.cmp .eq (.loc 4) (.lit (.int 7))),(.cmp .gt (.loc 2) (.lit (.int 0)))]) (rwF t p f3 (some (pi w)) (some (pb b))) h=.ok (pb false) h)->RT l t p s d:=λcd=>by
     cases A8s (l:=l) (T:=tb b57) (s:=s1) (d:=d1) rfl h1 with
     |mk u v s2 d2 hu le e w2=>
      have hu:=Av.mp (bL tb_ok) _ hu
      exact fin (λj h=>h.app hu) (le3 (l2 le e1)) λn f3=>go (cd n f3 _) (lq λz=>z _ w57 _ w57 _ (w2 n) _ e (ap_g ht (pc_len hu)))
    cases q7:eqI (Int.ofNat w) 7 with
    |false=>exact dr λn f3 h=>xq λz=>z _ q7
    |true=>
     cases p with
     |zero=>exact dr λn f3 h=>xq λz=>z _ q7
     |succ p=>exact fin (λj h=>h.cl) (le3 (Az e1)) λn f3=>go (x:=true) (xq λz=>z _ q7) (lqt (λz=>z (ap_g ht (nbl rfl))) (congrArg (λx=>Ro.next [some (.ref 0),some (ps (t++[41])),some (.p (.int x)),f3,some (pi w),some (pb b)] [pnV l s1 d1]) (sub1 (Ar p))))
end
inductive Tx(l:List Int)(j S:Nat)(x:Nat->Rs V):Prop
 |mk (t:List Nat) (s' d':Nat) (hb:Bd j t) (le:s'<=S) (w:∀n,x n=.ok (ps t) [pnV l s' d'])
inductive RO(l:List Int)(xs:List AVal)(t:List Nat)(p s d S:Nat):Prop
 |mk (t':List Nat) (p' s' d':Nat) (hb:Rb 7 t' p') (le:s'<=S) (w:∀n f3 f4 f5,∃g3 g4 g5,loT (A2w (n+1) (cR (n+1)) (A0b (n+1)).2 3 rwB) xs (rwF t p f3 f4 f5) [pnV l s d]=.next (rwF t' p' g3 g4 g5) [pnV l s' d'])
section
variable{l:List Int}{n s d k p j S:Nat}{t u:List Nat}
theorem rb_t(h:Rb j t p)(hj:j<=7):t.length<=140:=M0▸Aa (Ao _ _) (Aa (h 0) (Nat.mul_le_mul_right 20 hj))
theorem row_for(hS:S<2^20):∀(xs:List AVal) {j:Nat} {t:List Nat} {p s d:Nat},j+xs.length<=7->Rb j t p->s+3*xs.length<=S->RO l xs t p s d S:=by
 intro xs
 induction xs with
 |nil=>exact λ{j t p s d} hj h hs=>.mk t p s d (λk=>Aa (h k) (Nat.mul_le_mul_right _ hj)) hs λn f3 f4 f5=>⟨_,_,_,A0v⟩
 |cons x xs ih=>
  intro j t p s d hj h hs
  have hj':j+1+xs.length<=7:=Aa (Aj (Bj j 1 _)) hj
  have hs':s+3+3*xs.length<=S:=Aa (Aj (Bj s 3 _)) hs
  cases rt_ex (l:=l) (t:=t) (p:=p) (s:=s) (d:=d) (Aa (rb_t h (Aa (Ao _ _) hj)) (nbl rfl)) (As (Aa (Ao _ _) hs') hS) with
  |mk t1 p1 s1 d1 hb le w=>
   cases ih (d:=d1) hj' (hb j h) (Aa (Ay le _) hs') with
   |mk t2 p2 s2 d2 hb2 le2 w2=>exact .mk t2 p2 s2 d2 hb2 le2 λn f3 f4 f5=>(w n (some (.p x)) f4 f5).elim λg4 q=>q.elim λg5 e=>(w2 n (some (.p x)) g4 g5).elim λa q=>q.elim λb q=>q.elim λc q=>⟨a,b,c,A1a e q⟩
theorem rg_g(h:k<2^20):decide (-(2^20)<Int.ofNat k/\Int.ofNat k<2^20)=true:=A8 ⟨Int.lt_of_lt_of_le (by decide) (By k),Int.ofNat_lt.mpr h⟩
theorem B6f:((A0t 0 (Int.ofNat k)).map AVal.int).length=k:=by rw[rng,Aw,List.length_range']
theorem row_ex(h:s+22<=S)(hS:S<2^20):Tx l 7 S λn=>cR (n+2) 65 [.ref 0] [pnV l s d]:=by
 cases A2e (l:=l) (m:=6) (s:=s) (d:=d) (Ar _) (nbl rfl) (As (Aa (Ao _ _) h) hS) with
 |mk v s1 d1 lt le w=>
  have e:((A0t 0 (Int.ofNat (2+v))).map AVal.int).length=2+v:=B6f
  have hv:2+v<=7:=Au (Bw lt) 2
  cases row_for (l:=l) (t:=[]) (p:=0) (j:=0) (s:=s1) (d:=d1) hS _ (by rw[e,Bc];exact hv) (λk=>Ag _) (by rw[e];exact Aa (Be le (B6 3 hv)) h) with
  |mk t p s2 d2 hb le2 w2=>
   have hp:p<=140:=Aa (Aj (by rw[M0,List.length_replicate])) (Aa (Bb (M 0 (List.replicate p 41)) (M 0 t)) (hb 0))
   have ef:(List.replicate p [41]).flatten=List.replicate p 41:=List.flatten_replicate_singleton
   refine .mk (t++(List.replicate p [41]).flatten) s2 d2 (λk=>by rw[ef,A4l];exact hb k) le2 λn=>(w2 n none none none).elim λg3 q=>q.elim λg4 q=>q.elim λg5 q=> ?_
   have g1:decide (0<=Int.ofNat p/\Int.ofNat p<=big/\1*p<=big)=true:=A8 ⟨By p,B7.mpr (Aa hp (nbl rfl)),Aa (Aj (Nat.one_mul p)) (Aa hp (nbl rfl))⟩
   exact ck λz=>z _ (w (n:=n)) (rg_g (k:=2+v) (As hv (nbl rfl))) _ q g1 (ap_g (Aa (rb_t hb (Ac 7)) (nbl rfl)) (by show(List.replicate p [41]).flatten.length<=1000;rw[ef,List.length_replicate];exact Aa hp (nbl rfl)))
end
noncomputable abbrev spB:List Cm:=cmB (stm b66 0)
noncomputable abbrev spF(t:List Nat)(f2 f3 f4 f5:Option V):Lo:=[some (.ref 0),some (ps t),f2,f3,f4,f5]
inductive SpT(l:List Int)(t:List Nat)(s d:Nat):Prop
 |mk (t':List Nat) (s' d':Nat) (hb:∀j,Bd j t->Bd (j+1) t') (le:s'<=s+4) (w:∀n f2 f3 f4 f5,∃g3 g4 g5,rwR n spB (spF t f2 f3 f4 f5) [pnV l s d]=.next (spF t' f2 g3 g4 g5) [pnV l s' d'])
section
variable{l:List Int}{n s d k p j S a:Nat}{t u:List Nat}
theorem B8r{b:Nat}:(cut a b t).length<=t.length:=Aa (List.Sublist.length_le (List.drop_sublist _ _)) (Aa (Aj Co) (Nat.min_le_right _ _))
theorem meta_ok:B0k.all (λc=>pcB [c])=true:=by decide+kernel
theorem sp_put{w:Nat}(ht:t.length<=500)(hu:u.length<=500):∃e,∀n f2 h,rwR n (spB.drop 5) (spF t f2 (some (pi a)) (some (pi w)) (some (ps u))) h=.next (spF (cut 0 a t++u++cut (a+e) t.length t) f2 (some (pi a)) (some (pi w)) (some (ps u))) h:=by
 have b5:500<=1000:=nbl rfl
 have g1:(cut 0 a t).length<=500:=Aa B8r ht
 have g2:(cut 0 a t++u).length<=1000:=Ae▸Be g1 hu
 have g3:∀e,(cut (a+e) t.length t).length<=1000:=λe=>Aa B8r (Aa ht b5)
 cases q:ltB 1 (Int.ofNat w) with
 |true=>exact⟨1,λn f2 h=>lq λz=>z _ rfl (ap_g (Aa g1 b5) (Aa hu b5)) _ q _ rfl (ap_g g2 (g3 1))⟩
 |false=>exact⟨0,λn f2 h=>lq λz=>z _ rfl (ap_g (Aa g1 b5) (Aa hu b5)) _ q _ rfl (ap_g g2 (g3 0))⟩
theorem spt_ex(ht:t.length<=500)(hs:s+4<2^20):SpT l t s d:=by
 have lt:∀{a b:Nat},a<=b+1->b+1<=s+4->a<2^20:=λh g=>As (Aa h g) hs
 have up:∀{a b c:Nat},a<=b+1->b<=s+c->a<=s+(c+1):=λh g=>Aa h (Ah g)
 have p4:∀{c:Nat},Nat.ble (c+1) 4=true->s+c+1<=s+4:=λh=>Au (nbl h) s
 cases A2e (l:=l) (m:=t.length+1) (s:=s) (d:=d) (Ar _) (As (Ah ht) (nbl rfl)) (As (Ao _ _) hs) with
 |mk v1 s1 d1 _ e1 w1=>
  have e1:s1<=s+0+1:=e1
  cases A2e (l:=l) (m:=4) (s:=s1) (d:=d1) (Ar _) (nbl rfl) (lt e1 (p4 (c:=0) rfl)) with
  |mk v2 s2 d2 _ e2 w2=>
   have e2:=up e2 e1
   cases A2e (l:=l) (m:=B0k.length) (s:=s2) (d:=d2) (nbl rfl) (nbl rfl) (lt e2 (p4 (c:=1) rfl)) with
   |mk v3 s3 d3 l3 e3 w3=>
    have e3:=up e3 e2
    have h1:∀n f2 f3 f4 f5,rwR n (spB.take 3) (spF t f2 f3 f4 f5) [pnV l s d]=.next (spF t f2 (some (pi v1)) (some (pi v2)) (some (ps [B0k[v3]]))) [pnV l s3 d3]:=λn f2 f3 f4 f5=>lq λz=>z _ (w1 n) _ (w2 n) _ (w3 n) _ (B4 l3)
    have fin:∀{u:List Nat} {s' d':Nat},pcB u=true->s'<=s+4->(∀n f2,rwR n ((spB.drop 3).take 2) (spF t f2 (some (pi v1)) (some (pi v2)) (some (ps [B0k[v3]]))) [pnV l s3 d3]=.next (spF t f2 (some (pi v1)) (some (pi v2)) (some (ps u))) [pnV l s' d'])->SpT l t s d:=λ{u s' d'} hu le k=>by
     obtain⟨e,q⟩:=sp_put (t:=t) (a:=v1) (w:=v2) ht (Aa (Bd.len (B3q hu 1 (Ac 1))) (nbl rfl))
     exact .mk _ _ _ (λj h=>h.put (B3q hu 1 (Ac 1))) le λn f2 f3 f4 f5=>⟨_,_,_,lcat (a:=spB.take 3) (b:=spB.drop 3) (h1 n f2 f3 f4 f5) (lcat (a:=(spB.drop 3).take 2) (b:=spB.drop 5) (k n f2) (q n f2 _))⟩
    cases q3:eqI (Int.ofNat v2) 3 with
    |true=>
     cases q0:eqI (Int.ofNat v2) 0 with
     |true=>
      cases A8s (l:=l) (T:=tb b59) (s:=s3) (d:=d3) rfl (lt e3 (p4 (c:=2) rfl)) with
      |mk u v4 s4 d4 hu e4 e w4=>
       have hu:=Av.mp (bL (bR (bR tb_ok))) _ hu
       exact fin (u:=[]) rfl (up e4 e3) λn f2=>lq λz=>z _ q0 _ w59 _ w59 _ (w4 n) _ e _ q3
     |false=>exact fin (u:=[]) rfl (Az e3) λn f2=>lq λz=>z _ q0 _ q3
    |false=>
     cases q0:eqI (Int.ofNat v2) 0 with
     |true=>
      cases A8s (l:=l) (T:=tb b59) (s:=s3) (d:=d3) rfl (lt e3 (p4 (c:=2) rfl)) with
      |mk u v4 s4 d4 hu e4 e w4=>
       have hu:=Av.mp (bL (bR (bR tb_ok))) _ hu
       exact fin hu (up e4 e3) λn f2=>lq λz=>z _ q0 _ w59 _ w59 _ (w4 n) _ e _ q3
     |false=>exact fin (Av.mp meta_ok _ (List.getElem_mem l3)) (Az e3) λn f2=>lq λz=>z _ q0 _ q3
end
inductive SO(l:List Int)(xs:List AVal)(t:List Nat)(s d S:Nat):Prop
 |mk (t':List Nat) (s' d':Nat) (hb:Bd 9 t') (le:s'<=S) (w:∀n f2 f3 f4 f5,∃g2 g3 g4 g5,loT (A2w (n+1) (cR (n+1)) (A0b (n+1)).2 2 spB) xs (spF t f2 f3 f4 f5) [pnV l s d]=.next (spF t' g2 g3 g4 g5) [pnV l s' d'])
section
variable{l:List Int}{n s d k p j S a:Nat}{t u:List Nat}
theorem sp_for(hS:S<2^20):∀(xs:List AVal) {j:Nat} {t:List Nat} {s d:Nat},j+xs.length<=9->Bd j t->s+4*xs.length<=S->SO l xs t s d S:=by
 intro xs
 induction xs with
 |nil=>exact λ{j t s d} hj h hs=>.mk t s d (h.up hj) hs λn f2 f3 f4 f5=>⟨_,_,_,_,A0v⟩
 |cons x xs ih=>
  intro j t s d hj h hs
  have hj':j+1+xs.length<=9:=Aa (Aj (Bj j 1 _)) hj
  have hs':s+4+4*xs.length<=S:=Aa (Aj (Bj s 4 _)) hs
  cases spt_ex (l:=l) (t:=t) (s:=s) (d:=d) (Aa (h.up (Aa (Ao _ _) hj)).len (nbl rfl)) (As (Aa (Ao _ _) hs') hS) with
  |mk t1 s1 d1 hb le w=>
   cases ih (d:=d1) hj' (hb j h) (Aa (Ay le _) hs') with
   |mk t2 s2 d2 hb2 le2 w2=>exact .mk t2 s2 d2 hb2 le2 λn f2 f3 f4 f5=>(w n (some (.p x)) f3 f4 f5).elim λg3 q=>q.elim λg4 q=>q.elim λg5 e=>(w2 n (some (.p x)) g3 g4 g5).elim λa q=>q.elim λb q=>q.elim λc q=>q.elim λz q=>⟨a,b,c,z,A1a e q⟩
theorem B5z(hb:Bd 7 t)(h:s+9<=S)(hS:S<2^20):Tx l 9 S λn=>cR (n+2) 66 [.ref 0,ps t] [pnV l s d]:=by
 cases A2e (l:=l) (m:=4) (s:=s) (d:=d) (Ar _) (nbl rfl) (As (Aa (Ao _ _) h) hS) with
 |mk v s1 d1 lt le w=>
  obtain⟨N,hN,e⟩:∃N,N<=2/\([.int 0,.int 0,.int 1,.int 2]:List AVal)[v]?=some (nV N):=match v,lt with
   |0,_=>⟨0,Ag _,rfl⟩
   |1,_=>⟨0,Ag _,rfl⟩
   |2,_=>⟨1,A9 1,rfl⟩
   |3,_=>⟨2,Ac 2,rfl⟩
  have el:((A0t 0 (Int.ofNat N)).map AVal.int).length=N:=B6f
  cases sp_for (l:=l) (t:=t) (s:=s1) (d:=d1) hS _ (j:=7) (by rw[el];exact Au hN 7) hb (by rw[el];exact Aa (Be le (B6 4 hN)) h) with
  |mk t2 s2 d2 hb2 le2 w2=>exact .mk t2 s2 d2 hb2 le2 λn=>(w2 n none none none none).elim λg2 q=>q.elim λg3 q=>q.elim λg4 q=>q.elim λg5 q=>ck λz=>z _ (w (n:=n)) _ e (rg_g (As hN (nbl rfl))) _ q
theorem co_gh{fe fc:AVal->Ht->Rs V}{chk:Ht->Prop}{x a:AVal}{xs acc:List AVal}{h h':Ht}{r:Rs V}(hc:chk h)(h1:fc x h=.ok (pb true) h)(h2:fe x h=.ok (.p a) h')(k:coR fe fc chk xs (acc++[a]) h'=r):coR fe fc chk (x::xs) acc h=r:=(if_pos hc).trans (by rw[h1];show(fe x h).must _=r;rw[h2];exact k)
noncomputable abbrev mtX:Ex:=.sub (.glob 12) (.call 64 [(.loc 0),(.bi .len [(.glob 12)])])
noncomputable abbrev mtR(n:Nat)(xs acc:List AVal)(h:Ht):Rs V:=coR (λx h2=>runX (cR (n+2)) (A0b (n+2)).2 mtX [some (.ref 0),some (.p x)] h2) (λx h2=>runX (cR (n+2)) (A0b (n+2)).2 (.lit (.bool true)) [some (.ref 0),some (.p x)] h2) (λ_=>True) xs acc h
inductive MtO(l:List Int)(xs:List AVal)(acc:List Nat)(s d S:Nat):Prop
 |mk (u:List Nat) (s' d':Nat) (hl:u.length=acc.length+xs.length) (le:s'<=S) (w:∀n,mtR n xs (acc.map sg) [pnV l s d]=.ok (.p (.lst (u.map sg))) [pnV l s' d'])
theorem mt_ex(hS:S<2^20):∀(xs:List AVal) {acc:List Nat} {s d:Nat},s+xs.length<=S->MtO l xs acc s d S:=by
 intro xs
 induction xs with
 |nil=>exact λ{acc s d} h=>.mk acc s d rfl h λn=>B8u trivial
 |cons x xs ih=>
  intro acc s d h
  have h':s+1+xs.length<=S:=Aa (Aj (Bj s 1 _)) h
  cases A2e (l:=l) (m:=B0k.length) (s:=s) (d:=d) (nbl rfl) (nbl rfl) (As (Aa (Ao _ _) h) hS) with
  |mk v s1 d1 lt le w=>
   cases ih (acc:=acc++[B0k[v]]) (d:=d1) (Aa (Ay le _) h') with
   |mk u s2 d2 hl le2 w2=>
    exact .mk u s2 d2 (hl.trans (by rw[Ae];exact Bj _ 1 _)) le2 λn=>co_gh trivial rfl (xq λz=>z _ (w (n+1)) _ (B4 lt)) ((congrArg (λy=>mtR n xs y [pnV l s1 d1]) Cp.symm).trans (w2 n))
theorem B2p(h:s+40<=S)(hS:S<2^20):Tx l 9 S λn=>cR (n+3) 67 [.ref 0] [pnV l s d]:=by
 have l1:∀{a c e:Nat},a<=s+c->Nat.ble (c+e) 40=true->a+e<=S:=λh1 h2=>Aa (Ay h1 _) (Aa (Aa (Aj (A7 _ _ _)) (Au (nbl h2) s)) h)
 have l2:∀{a c:Nat},a<=s+c->Nat.ble c 40=true->a<2^20:=λh1 h2=>As (l1 (e:=0) h1 h2) hS
 cases A2e (l:=l) (m:=5) (s:=s) (d:=d) (Ar _) (nbl rfl) (l2 (c:=0) (Ac s) rfl) with
 |mk v s1 d1 lv e1 w1=>
  cases q4:eqI (Int.ofNat v) 4 with
  |true=>
   cases A2e (l:=l) (m:=9) (s:=s1) (d:=d1) (Ar _) (nbl rfl) (l2 e1 rfl) with
   |mk k s2 d2 lk e2 w2=>
    have e2:s2<=s+2:=Aa e2 (Ah e1)
    have el:((A0t 0 (Int.ofNat k)).map AVal.int).length=k:=B6f
    have hk:k<=8:=Bw lk
    cases mt_ex (l:=l) (acc:=[]) (s:=s2) (d:=d2) hS ((A0t 0 (Int.ofNat k)).map AVal.int) (by rw[el];exact Aa (Au hk s2) (l1 e2 rfl)) with
    |mk u s3 d3 hl le w3=>
     have hu:u.length<=8:=Aa (Aj (hl.trans ((Bc _).trans el))) hk
     refine .mk u s3 d3 (λk=>Aa (Aa List.countP_le_length hu) (Aa (nbl rfl:8<=9*1) (B6 9 (match k with | 0=>nbl rfl | 1=>Ac 1 | 2=>Ac 1 | _+3=>nbl rfl)))) le λn=> ?_
     exact ck λz=>z _ (w1 (n:=n+1)) _ q4 _ (w2 (n:=n+1)) (rg_g (As hk (nbl rfl))) (A0k (Aa (Aj el) (Aa hk (nbl rfl)))) _ (w3 n) _ (B5t u) (jn_at (Aa hu (nbl rfl))) _ (B0n u)
  |false=>
   cases row_ex (l:=l) (s:=s1) (d:=d1) (S:=s+23) (Ay e1 22) (l2 (Ac _) rfl) with
   |mk t s2 d2 hb e2 w2=>
    cases B5z (l:=l) (s:=s2) (d:=d2) (S:=S) hb (l1 e2 rfl) hS with
    |mk u s3 d3 hb3 e3 w3=>exact .mk u s3 d3 hb3 e3 λn=>ck λz=>z _ (w1 (n:=n+1)) _ q4 _ (w2 n) _ (w3 n)
end
section
variable{s t u e:List Nat}{c:Nat}
theorem ru_of(h:M 3 t<=98):Ru t:=λk=>by
 have w:(wdN (t.drop k)).length=(wdN (t.drop k)).countP A4y.contains:=(List.countP_eq_length.mpr λx hx=>Av.mp List.all_takeWhile x hx).symm
 rw[w]
 exact Aa (List.Sublist.countP_le ((List.takeWhile_sublist _).trans (List.drop_sublist k t))) h
theorem A8x(h:Ru t)(g:Ru u)(hc:A4y.contains c=false):Ru (t++c::u):=λk=>by
 by_cases q:k<=t.length
 ·rw[List.drop_append_of_le_length q]
  refine Aa (Aj (congrArg List.length ?_)) (h k)
  generalize t.drop k=x
  unfold wdN
  induction x with
  |nil=>exact List.takeWhile_cons_of_neg (Bn.mp hc)
  |cons y x ih=>
   rw[List.cons_append,Bq,Bq,ih]
 ·have q:k=t.length+(1+(k- (t.length+1))):=by rw[←A7];exact(Nat.add_sub_cancel' (Nat.lt_of_not_ge q)).symm
  rw[q,←List.drop_drop,List.drop_left,←List.drop_drop]
  exact g _
theorem B1m(h:t.length<=98):Ru t:=ru_of (Aa List.countP_le_length h)
structure Ld(u:List Nat):Prop where
 r:∀s,Ru s->Ru (u++s)
 l:u.length<=2
 a:M 1 u=0
 b:M 2 u=0
theorem ld_nil:Ld []:=⟨λ_ h=>h,Ag _,rfl,rfl⟩
theorem ld_m:u∈[[],[32],[97,10]]->Ld u:=λh=>by
 rcases Bf.mp h with rfl | h
 ·exact ld_nil
 ·rcases Bf.mp h with rfl | h
  ·exact⟨λs r=>A8x (t:=[]) (B1m (Ag _)) r rfl,A9 1,rfl,rfl⟩
  ·cases Bo.mp h
   exact⟨λs r=>A8x (t:=[97]) (B1m (nbl rfl)) r rfl,Ac 2,rfl,rfl⟩
theorem hat_m:u∈[[],[94]]->Ld u:=λh=>by
 rcases Bf.mp h with rfl | h
 ·exact ld_nil
 ·cases Bo.mp h
  exact⟨λs r=>A8x (t:=[]) (B1m (Ag _)) r rfl,A9 1,rfl,rfl⟩
structure En(t u:List Nat):Prop where
 r:Ru (t++u)
 l:u.length<=200
 k:∀k,k=1∨k=2->M k u<=9
noncomputable def enB:List Nat->Bool
 |[]=>true
 |c::e=>(!A4y.contains c)&&Nat.ble e.length 4
theorem en_1(h:Bd 9 t):enB u=true->En t u:=by
 have rt:Ru t:=ru_of (Aa (h 3) (nbl rfl))
 cases u with
 |nil=>exact λ_=>⟨(A6 t).symm▸rt,Ag _,λk _=>Ag _⟩
 |cons c e=>
  intro q
  have l:e.length<=4:=nbl (bR q)
  exact⟨A8x rt (B1m (Aa l (nbl rfl))) (nB' (bL q)),Aa (Ah l) (nbl rfl),λk _=>Aa List.countP_le_length (Aa (Ah l) (nbl rfl))⟩
theorem en_2(h:Bd 9 t):En t (47::t):=by
 have rt:Ru t:=ru_of (Aa (h 3) (nbl rfl))
 refine⟨A8x rt rt rfl,Nat.succ_le_of_lt (As h.len (nbl rfl)),λk q=> ?_⟩
 rcases q with rfl | rfl
 ·exact h 1
 ·exact h 2
noncomputable abbrev enT(t:List Nat):List (List Nat):=[[],[36],[47,97],[32,120],[47]++t,[36,32],[9],[47],[47,32],[36,47,97],[47,97,36],[47,97,47,98],[41],[47,124],[124,36],[40,47,97],[40,97,32]]
theorem en_m(h:Bd 9 t)(q:u∈enT t):En t u:=by
 rcases Cd.mp (show u∈[[],[36],[47,97],[32,120]]++((47::t)::[[36,32],[9],[47],[47,32],[36,47,97],[47,97,36],[47,97,47,98],[41],[47,124],[124,36],[40,47,97],[40,97,32]]) from q) with q | q
 ·exact en_1 h (Av.mp (by decide+kernel) _ q)
 ·rcases Bf.mp q with rfl | q
  ·exact en_2 h
  ·exact en_1 h (Av.mp (by decide+kernel) _ q)
theorem tl_m:(tb b60).all (λu=>pcB u&&Nat.ble (M 3 u) 8)=true:=by decide+kernel
variable{D:AVal}{a b:List Nat}
theorem tt_of(h:t.length<=900)(r:Ru t):TT t:=⟨A0k (Aa (Ah h) (nbl rfl)),Aa h (nbl rfl),r⟩
theorem so_even(h:Bd 9 t)(hu:(pcB u&&Nat.ble (M 3 u) 8)=true):So (t++u) 0 false kwV/\(t++u).length<=900:=by
 have q:=h.app (B3q (bL hu) 1 (Ac 1))
 have l:(t++u).length<=900:=Aa q.len (nbl rfl)
 exact⟨so_reg (tt_of l (ru_of (A4l▸Be (h 3) (nbl (bR hu))))) (λ_ _ _=>rfl) l (Aa (q 1) (nbl rfl)) (Aa (q 2) (nbl rfl)),l⟩
theorem so_odd(h:Bd 9 t)(ha:Ld a)(hb:Ld b)(he:En t u):So (a++b++t++u) a.length true kwV:=by
 have l:(a++b++t++u).length<=900:=by
  rw[Ae,Ae,Ae]
  exact Aa (Be (Be (Be ha.l hb.l) h.len) he.l) (nbl rfl)
 have m:∀k,k=1∨k=2->M k (a++b++t++u)<=20:=λk q=>by
  have ka:M k a=0/\M k b=0/\M k t<=9:=by rcases q with rfl | rfl <;> first | exact⟨ha.a,hb.a,h 1⟩ | exact⟨ha.b,hb.b,h 2⟩
  rw[A4l,A4l,A4l,ka.1,ka.2.1,Bc]
  exact Aa (Be ka.2.2 (he.k k q)) (nbl rfl)
 have r:Ru (a++b++t++u):=by
  rw[Ai,Ai]
  exact ha.r _ (hb.r _ he.r)
 exact so_pat (tt_of l r) (λ_ _ _=>rfl) l (m 1 (.inl rfl)) (m 2 (.inr rfl)) (by rw[Ai,Ai,Ae];exact Ao _ _)
end
noncomputable abbrev lwB:List Cm:=cmB (stm b82 2)
noncomputable abbrev lwF(v:V)(i:Int)(f4 f5 f6:Option V):Lo:=[some v,some (.ref 0),some (.p kwV),some (.p (.int i)),f4,f5,f6]
noncomputable abbrev lwR(n:Nat)(b:List Cm)(ρ:Lo)(h:Ht):Ro:=runL (n+77) (cR (n+77)) (A0b (n+77)).2 b ρ h
inductive TO(l:List Int)(i:Int)(s d:Nat):Prop
 |mk (s' d':Nat) (le:s'<=s+50) (w:∀n v f4 f5 f6,∃g4 g5 g6,lwR n lwB (lwF v i f4 f5 f6) [pnV l s d]=.next (lwF v i g4 g5 g6) [pnV l s' d'])
section
variable{l:List Int}{n s d k at_ S:Nat}{t u x:List Nat}{i:Int}{v:V}{f4 f5 f6:Option V}{h:Ht}
theorem w_same(q:So x at_ (eqI (i%2) 1) kwV):lwR n (lwB.drop 3) (lwF v i (some (ps x)) (some (pi at_)) f6) h=.next (lwF v i (some (ps x)) (some (pi at_)) f6) h:=by
 cases q with
 |mk R d w y=>exact lq λz=>z rfl _ (w n) rfl _ (y (n+65)) (B5i ⟨rfl,d.p,d.d⟩) _ rfl
theorem B5l(hi:i%2=0)(hs:s+50<2^20):TO l i s d:=by
 have hc:eqI (i%2) 0=true:=(congrArg (eqI · _) hi).trans rfl
 have hp:eqI (i%2) 1=false:=(congrArg (eqI · _) hi).trans rfl
 cases B2p (l:=l) (s:=s) (d:=d) (S:=s+40) (Ac _) (As (Au (nbl rfl) s) hs) with
 |mk t s1 d1 hb e1 w1=>
  cases A8s (l:=l) (T:=tb b60) (s:=s1) (d:=d1) rfl (As (Aa e1 (Au (nbl rfl) s)) hs) with
  |mk u k s2 d2 hu e2 e w2=>
   have q:=so_even hb (Av.mp tl_m _ hu)
   have g:Nat.ble (t.length+u.length) big=true:=A0k (Ae (as:=t) (bs:=u)▸tl_b q.2)
   exact .mk s2 d2 (Aa e2 (Aa (Ah e1) (Au (nbl rfl:41<=50) s))) λn v f4 f5 f6=>⟨_,_,_,lcat (a:=lwB.take 3) (b:=lwB.drop 3) (lq λz=>z _ (w1 (n+74)) rfl _ hc _ w60 _ w60 _ (w2 (n+76)) _ e g) (w_same (hp.symm▸q.1))⟩
theorem to_odd(hi:i%2=1)(hs:s+50<2^20):TO l i s d:=by
 have hc:eqI (i%2) 0=false:=(congrArg (eqI · _) hi).trans rfl
 have hp:eqI (i%2) 1=true:=(congrArg (eqI · _) hi).trans rfl
 have lt:∀{a c:Nat},a<=s+c->Nat.ble c 50=true->a<2^20:=λh q=>As (Aa h (Au (nbl q) s)) hs
 cases B2p (l:=l) (s:=s) (d:=d) (S:=s+40) (Ac _) (lt (c:=40) (Ac _) rfl) with
 |mk t s1 d1 hb e1 w1=>
  cases A8s (l:=l) (T:=[[],[32],[97,10]]) (s:=s1) (d:=d1) rfl (lt (c:=40) e1 rfl) with
  |mk a k2 s2 d2 ha e2 q2 w2=>
   have e2:=Aa e2 (Ah e1)
   cases A8s (l:=l) (T:=[[],[94]]) (s:=s2) (d:=d2) rfl (lt (c:=41) e2 rfl) with
   |mk b k3 s3 d3 hb3 e3 q3 w3=>
    have e3:=Aa e3 (Ah e2)
    cases A8s (l:=l) (T:=enT t) (s:=s3) (d:=d3) rfl (lt (c:=42) e3 rfl) with
    |mk u k4 s4 d4 hu e4 q4 w4=>
     have e4:=Aa e4 (Ah e3)
     have A:=ld_m ha
     have B:=hat_m hb3
     have E:=en_m hb hu
     have b2:2<=500:=nbl rfl
     have bt:t.length<=500:=Aa hb.len (nbl rfl)
     have g1:(a++b).length<=4:=Ae▸Be A.l B.l
     have g2:(a++b++t).length<=504:=(Ae (as:=a++b) (bs:=t)).symm▸Be g1 bt
     have b3:∀{x:Nat},x<=500->x<=1000:=λh=>Aa h (nbl rfl)
     exact .mk s4 d4 (Aa e4 (Au (nbl rfl:43<=50) s)) λn v f4 f5 f6=>⟨_,_,_,lcat (a:=lwB.take 3) (b:=lwB.drop 3)
      (lq λz=>z _ (w1 (n+74)) rfl _ hc _ (w2 (n+76)) _ q2 _ (w3 (n+76)) _ q3 (ap_g (b3 (Aa A.l b2)) (b3 (Aa B.l b2))) (ap_g (b3 (Aa g1 (nbl rfl))) (b3 bt)) (ap_g (t:=[47]) (nbl rfl) (b3 bt)) _ (w4 (n+76)) _ q4 (ap_g (Aa g2 (nbl rfl)) (b3 (Aa E.l (nbl rfl))))) (w_same (hp.symm▸so_odd hb A B E))⟩
theorem w_pen:cR (n+1) 63 [.p (.lst (l.map .int))] []=.ok (.ref 0) [pnV (l.take 63) 0 0]:=by
 have e:(Rs.ok (.p (.lst (cut 0 63 (l.map AVal.int)))) []:Rs V)=.ok (.p (.lst ((l.take 63).map .int))) []:=lsc List.map_take.symm
 have g:Nat.ble ((l.take 63).map AVal.int).length big=true:=A0k (by rw[Aw,Co];exact Aa (Nat.min_le_left _ _) (nbl rfl))
 exact ck λz=>z _ e g _ (A8e (f:=AVal.int) (g:=AVal.int) (acc:=[]) trivial (λ_ _=>rfl) λ_ _=>xq λz=>z)
theorem B7g:cR (n+78) 82 [.p (.lst (l.map .int))] []=.ok (pb true) []:=by
 cases B5l (l:=l.take 63) (i:=0) (s:=0) (d:=0) rfl (nbl rfl) with
 |mk s1 d1 e1 w1=>
  cases to_odd (l:=l.take 63) (i:=1) (s:=s1) (d:=d1) rfl (As (Ay e1 50) (nbl rfl)) with
  |mk s2 d2 e2 w2=>
   have e2:s2<=100:=Aa e2 (Ay e1 50)
   cases B5l (l:=l.take 63) (i:=2) (s:=s2) (d:=d2) rfl (As (Ay e2 50) (nbl rfl)) with
   |mk s3 d3 e3 w3=>
    have e3:s3<=150:=Aa e3 (Ay e2 50)
    cases to_odd (l:=l.take 63) (i:=3) (s:=s3) (d:=d3) rfl (As (Ay e3 50) (nbl rfl)) with
    |mk s4 d4 e4 w4=>
     obtain⟨a,b,c,q1⟩:=w1 n (.p (.lst (l.map .int))) none none none
     obtain⟨a,b,c,q2⟩:=w2 n (.p (.lst (l.map .int))) a b c
     obtain⟨a,b,c,q3⟩:=w3 n (.p (.lst (l.map .int))) a b c
     obtain⟨a,b,c,q4⟩:=w4 n (.p (.lst (l.map .int))) a b c
     exact ck λz=>z _ w_pen _ (w_ab (n:=n+2)) _ (w_em (n:=n+2)) rfl _ (A1a q1 (A1a q2 (A1a q3 (A1a q4 A0v))))
end
end Mine
end
section
open PySem PySem.W PyProof.Rows
namespace Mine
abbrev pw:Program:=PySem.Challenge.pw_nn0398_01
structure Cx where
 w:World
 K:Frag
 os:OsState
 fa:Nat->Addr
 ca:Nat->Addr
noncomputable def aNm(a:Nat):Str:=B9k.getD a Str.empty
abbrev GM:=Addr->Option Obj
def Sub(G G':GM):Prop:=∀a o,G a=some o->G' a=some o
theorem Sub.rfl'{G:GM}:Sub G G:=λ_ _ e=>e
theorem Sub.trans{G G' G'':GM}(x:Sub G G')(y:Sub G' G''):Sub G G'':=λa o e=>y a o (x a o e)
inductive DK(P:Params)(k:List Nat)(e:DictEntry):Prop
 |mk (t:Tok) (q:e.key=.str ⟨k.toArray⟩ t) (h:e.hash=PyData.keyHash P ⟨k.toArray⟩)
inductive FK(n:Nat)(e:DictEntry):Prop
 |mk (t:Tok) (l:n<55) (q:e.key=.str (aNm n) t)
inductive All2{α β:Type}(R:α->β->Prop):List α->List β->Prop
 |nil:All2 R [] []
 |cons {x:α} {y:β} {xs:List α} {ys:List β} (h:R x y) (t:All2 R xs ys):All2 R (x::xs) (y::ys)
abbrev DKey(P:Params):List (List Nat)->List DictEntry->Prop:=All2 (DK P)
abbrev FKey:List Nat->List DictEntry->Prop:=All2 FK
inductive SeqAt(G:GM)(T:String)(vs:List Value):Value->Prop
 |mk (a:Addr) (o:Obj) (n:Nat) (g:G a=some o) (c:o.cls=.type T) (d:o.data=.seq (List.toArray vs) n):SeqAt G T vs (.ref a)
inductive B3e(G:GM)(P:Params)(ks:List (List Nat))(es:List DictEntry):Value->Prop
 |mk (a:Addr) (n:Nat) (g:G a=some (dictOf es n)) (z:(a==sysModules)=false) (k:DKey P ks es):B3e G P ks es (.ref a)
inductive B9q(G:GM)(lo hi:Int):Value->Prop
 |mk (a:Addr) (t u r:Tok) (g:G a=some {cls:=.type "range",data:=.fields #[.int lo t,.int hi u,.int 1 r]}) (z:Builtin.Range.small lo hi 1=true) (l:(A0t lo hi).length<=sizeLine):B9q G lo hi (.ref a)
inductive B9v(G:GM)(C:Addr)(ns:List Nat)(es:List DictEntry):Value->Prop
 |mk (a dx:Addr) (n:Nat) (g:G a=some (instObj C dx)) (g2:G dx=some (dictOf es n)) (f:FKey ns es):B9v G C ns es (.ref a)
inductive A9s(s:List Nat):Value->Prop
 |mk (t:Tok) (l:s.length<=sizeLine):A9s s (.str ⟨s.toArray⟩ t)
inductive IntAt(i:Int):Value->Prop
 |mk (t:Tok):IntAt i (.int i t)
mutual
def VRep(cx:Cx)(G:GM):AVal->Value->Prop
 |.none,v=>.none=v
 |.bool b,v=>.bool b=v
 |.int i,v=>IntAt i v
 |.str s,v=>A9s s v
 |.tup xs,v=>∃vs,SeqAt G "tuple" vs v/\xs.length<=sizeLine/\VReps cx G xs vs
 |.lst xs,v=>∃vs,SeqAt G "list" vs v/\xs.length<=sizeLine/\VReps cx G xs vs
 |.dict ks xs,v=>∃es,B3e G cx.w.params ks es v/\VReps cx G xs (es.map (·.val))
 |.range lo hi,v=>B9q G lo hi v
 |.inst c ns xs,v=>∃es,B9v G (cx.ca c) ns es v/\VReps cx G xs (es.map (·.val))
def VReps(cx:Cx)(G:GM):List AVal->List Value->Prop
 |[],vs=>vs=[]
 |x::xs,vs=>match vs with | []=>False | v::r=>VRep cx G x v/\VReps cx G xs r
end
section
variable{cx:Cx}{G G':GM}
theorem SeqAt.mono{T:String}{vs:List Value}{v:Value}(k:Sub G G')(h:SeqAt G T vs v):SeqAt G' T vs v:=by cases h with | mk a o n g c d=>exact⟨a,o,n,k _ _ g,c,d⟩
mutual
theorem VRep.mono(k:Sub G G'):∀{x:AVal} {v:Value},VRep cx G x v->VRep cx G' x v
 |.none,_,h=>h
 |.bool _,_,h=>h
 |.int _,_,h=>h
 |.str _,_,h=>h
 |.tup xs,_,h=>h.elim λvs h=>⟨vs,h.1.mono k,h.2.1,VReps.mono k h.2.2⟩
 |.lst xs,_,h=>h.elim λvs h=>⟨vs,h.1.mono k,h.2.1,VReps.mono k h.2.2⟩
 |.dict ks xs,_,h=>h.elim λes h=>⟨es,h.1.rec λa n g z d=>⟨a,n,k _ _ g,z,d⟩,VReps.mono k h.2⟩
 |.range _ _,_,h=>h.rec λa t u r g z l=>⟨a,t,u,r,k _ _ g,z,l⟩
 |.inst c ns xs,_,h=>h.elim λes h=>⟨es,h.1.rec λa dx n g g2 f=>⟨a,dx,n,k _ _ g,k _ _ g2,f⟩,VReps.mono k h.2⟩
theorem VReps.mono(k:Sub G G'):∀{xs:List AVal} {vs:List Value},VReps cx G xs vs->VReps cx G' xs vs
 |[],_,h=>h
 |x::xs,_::_,h=>⟨VRep.mono k h.1,VReps.mono k h.2⟩
 |_::_,[],h=>h
end
theorem VReps.all:∀{xs:List AVal} {vs:List Value},VReps cx G xs vs->All2 (VRep cx G) xs vs:=by
 intro xs
 induction xs with
 |nil=>rintro vs rfl;exact .nil
 |cons x xs ih=>
  intro vs h
  cases vs with
  |nil=>exact h.elim
  |cons v vs=>exact .cons h.1 (ih h.2)
theorem VReps.of{xs:List AVal}{vs:List Value}(h:All2 (VRep cx G) xs vs):VReps cx G xs vs:=h.rec rfl λh _ ih=>⟨h,ih⟩
end
section
variable{α β:Type}{R R':α->β->Prop}{xs ys:List α}{vs us:List β}
theorem All2.length(h:All2 R xs vs):vs.length=xs.length:=h.rec rfl λ_ _ ih=>congrArg (· +1) ih
theorem All2.mono(k:∀{x v},R x v->R' x v)(h:All2 R xs vs):All2 R' xs vs:=h.rec .nil λh _ ih=>.cons (k h) ih
theorem All2.at(h:All2 R xs vs):∀{i:Nat} {x:α},xs[i]?=some x->∃v,vs[i]?=some v/\R x v:=by
 induction h with
 |nil=>intro i x e;cases e
 |cons h _ ih=>
  intro i x e
  cases i with
  |zero=>cases e;exact⟨_,rfl,h⟩
  |succ i=>exact ih e
theorem All2.append(h:All2 R xs vs)(k:All2 R ys us):All2 R (xs++ys) (vs++us):=h.rec k λh _ ih=>.cons h ih
theorem All2.take(h:All2 R xs vs):∀(k:Nat),All2 R (xs.take k) (vs.take k):=by
 induction h with
 |nil=>intro k;rw[List.take_nil,List.take_nil];exact .nil
 |cons h _ ih=>intro k;cases k with
  |zero=>exact .nil
  |succ k=>exact .cons h (ih k)
theorem All2.drop(h:All2 R xs vs):∀(k:Nat),All2 R (xs.drop k) (vs.drop k):=by
 induction h with
 |nil=>intro k;rw[List.drop_nil,List.drop_nil];exact .nil
 |cons h t ih=>intro k;cases k with
  |zero=>exact .cons h t
  |succ k=>exact ih k
theorem All2.set{x:α}{v:β}(hx:R x v)(h:All2 R xs vs):∀(k:Nat),All2 R (xs.set k x) (vs.set k v):=by
 induction h with
 |nil=>intro k;exact .nil
 |cons h t ih=>intro k;cases k with
  |zero=>exact .cons hx t
  |succ k=>exact .cons h (ih k)
theorem All2.one{x:α}{v:β}(h:R x v):All2 R [x] [v]:=.cons h .nil
theorem All2.reverse(h:All2 R xs vs):All2 R xs.reverse vs.reverse:=by
 induction h with
 |nil=>exact .nil
 |cons h _ ih=>rw[List.reverse_cons,List.reverse_cons];exact ih.append (.one h)
end
def Up(σ σ':List Addr):Prop:=∀(k:Nat) (a:Addr),σ[k]?=some a->σ'[k]?=some a
theorem Up.rfl'{σ:List Addr}:Up σ σ:=λ_ _ e=>e
theorem Up.trans{σ σ' σ'':List Addr}(x:Up σ σ')(y:Up σ' σ''):Up σ σ'':=λk a e=>y k a (x k a e)
inductive B9p(σ:List Addr)(k:Nat):Value->Prop
 |mk (a:Addr) (e:σ[k]?=some a):B9p σ k (.ref a)
inductive B9t(G:GM)(σ:List Addr)(C:Addr)(k:Nat):Value->Prop
 |mk (a dx:Addr) (e:σ[k]?=some dx) (g:G a=some (instObj C dx)):B9t G σ C k (.ref a)
mutual
def VR(cx:Cx)(G:GM)(σ:List Addr):V->Value->Prop
 |.p a,v=>VRep cx G a v
 |.ref k,v=>B9p σ k v
 |.obj c k,v=>B9t G σ (cx.ca c) k v
 |.tup xs,v=>∃vs,SeqAt G "tuple" vs v/\xs.length<=sizeLine/\VRs cx G σ xs vs
def VRs(cx:Cx)(G:GM)(σ:List Addr):List V->List Value->Prop
 |[],vs=>vs=[]
 |x::xs,vs=>match vs with | []=>False | v::r=>VR cx G σ x v/\VRs cx G σ xs r
end
section
variable{cx:Cx}{G G':GM}{σ σ':List Addr}
mutual
theorem VR.mono(k:Sub G G')(u:Up σ σ'):∀{x:V} {v:Value},VR cx G σ x v->VR cx G' σ' x v
 |.p _,_,h=>VRep.mono k h
 |.ref _,_,h=>h.rec λa e=>⟨a,u _ _ e⟩
 |.obj _ _,_,h=>h.rec λa dx e g=>⟨a,dx,u _ _ e,k _ _ g⟩
 |.tup xs,_,h=>h.elim λvs h=>⟨vs,h.1.mono k,h.2.1,VRs.mono k u h.2.2⟩
theorem VRs.mono(k:Sub G G')(u:Up σ σ'):∀{xs:List V} {vs:List Value},VRs cx G σ xs vs->VRs cx G' σ' xs vs
 |[],_,h=>h
 |x::xs,_::_,h=>⟨VR.mono k u h.1,VRs.mono k u h.2⟩
 |_::_,[],h=>h
end
theorem VRs.all:∀{xs:List V} {vs:List Value},VRs cx G σ xs vs->All2 (VR cx G σ) xs vs:=by
 intro xs
 induction xs with
 |nil=>rintro vs rfl;exact .nil
 |cons x xs ih=>
  intro vs h
  cases vs with
  |nil=>exact h.elim
  |cons v vs=>exact .cons h.1 (ih h.2)
theorem VRs.of{xs:List V}{vs:List Value}(h:All2 (VR cx G σ) xs vs):VRs cx G σ xs vs:=h.rec rfl λh _ ih=>⟨h,ih⟩
end
inductive LCell{α:Type}(R:α->Value->Prop)(xs:List α):Obj->Prop
 |mk (vs:List Value) (n:Nat) (l:xs.length<=sizeLine) (r:All2 R xs vs):LCell R xs {cls:=.type "list",data:=.seq (List.toArray vs) n}
inductive DCell(R:V->Value->Prop)(ns:List Nat)(xs:List V):Obj->Prop
 |mk (es:List DictEntry) (n:Nat) (l:es.length<=100) (f:FKey ns es) (r:All2 R xs (es.map (·.val))):DCell R ns xs (dictOf es n)
def A2g(cx:Cx)(G:GM)(σ:List Addr)(c:Cl)(o:Obj):Prop:=match c with
 |.lst xs=>LCell (VRep cx G) xs o
 |.lstR xs=>LCell (VR cx G σ) xs o
 |.dct ns xs=>DCell (VR cx G σ) ns xs o
theorem A2g.mono{cx:Cx}{G G':GM}{σ σ':List Addr}(k:Sub G G')(u:Up σ σ'){c:Cl}{o:Obj}(h:A2g cx G σ c o):A2g cx G' σ' c o:=by
 cases c with
 |lst xs=>exact h.rec λvs n l r=>⟨vs,n,l,r.mono (VRep.mono k)⟩
 |lstR xs=>exact h.rec λvs n l r=>⟨vs,n,l,r.mono (VR.mono k u)⟩
 |dct ns xs=>exact h.rec λes n l f r=>⟨es,n,l,f,r.mono (VR.mono k u)⟩
inductive Like(p:Prop)(o:Obj):Obj->Prop
 |same:Like p o o
 |slots (h:p) (sl:_):Like p o {o with slots:=sl}
theorem Like.data{p:Prop}{o o':Obj}(h:Like p o o'):o'.data=o.data:=h.rec rfl λ_ _=>rfl
theorem Like.exact{p:Prop}{o o':Obj}(h:Like p o o')(c:¬p):o'=o:=h.rec rfl λq _=>(c q).elim
def A3j(l:List Env):List Addr:=l.filterMap (·.frame)
structure St where
 F:GM
 G:GM
 σ:List Addr
 h:Ht
 s:Shared
inductive A6m(F:GM)(env:Env):Prop
 |mk (L:Addr) (o:Obj) (es:Array DictEntry) (ep:Nat) (k:env.scope.kind≠ .module) (f:env.frame=some L) (g:F L=some o) (d:o.data=.dict es ep)
inductive FrAt(l:List Env)(h:Heap)(a:Addr)(o:Obj):Prop
 |mk (o':Obj) (q:h.get? a=some o') (k:Like (a∈A3j l) o o')
inductive CellAt(cx:Cx)(S:St)(k:Nat)(c:Cl):Prop
 |mk (a:Addr) (o:Obj) (e:S.σ[k]?=some a) (q:S.s.heap.get? a=some o) (d:A2g cx S.G S.σ c o)
structure Rel(cx:Cx)(l:List Env)(S:St):Prop where
 kin:∀a o,cx.K.lookup a=some o->S.G a=some o
 stay:∀a o,S.G a=some o->S.s.heap.get? a=some o
 cell:∀k c,S.h[k]?=some c->CellAt cx S k c
 off:∀(k:Nat) (a:Addr),S.σ[k]?=some a->S.G a=none/\S.F a=none
 inj:∀(i j:Nat) (a:Addr),S.σ[i]?=some a->S.σ[j]?=some a->i=j
 len:S.σ.length=S.h.length
 fram:∀a o,S.F a=some o->S.G a=none/\FrAt l S.s.heap a o
 envs:∀env∈l,A6m S.F env
 gens:S.s.gens= #[]
 os:S.s.os=cx.os
theorem A2a{h:Heap}{a:Addr}(e:h.objs.size<=a):h.get? a=none:=by
 cases q:h.get? a with
 |none=>rfl
 |some o=>exact absurd (Heap.lt_size q) (Nat.not_lt.mpr e)
theorem A1p{α:Type}{o:Option α}(h:∀x,o=some x->False):o=none:=by
 cases o with
 |none=>rfl
 |some x=>exact(h x rfl).elim
section
variable{cx:Cx}{l:List Env}{S:St}
theorem Rel.inK(r:Rel cx l S):cx.K.In S.s.heap:=λa o e=>r.stay a o (r.kin a o e)
theorem Rel.gNone(r:Rel cx l S){a:Addr}(e:S.s.heap.get? a=none):S.G a=none:=A1p λo q=>nomatch e.symm.trans (r.stay a o q)
theorem Rel.fNone(r:Rel cx l S){a:Addr}(e:S.s.heap.get? a=none):S.F a=none:=A1p λo q=>by
 obtain⟨_,o',h,_⟩:=r.fram a o q
 rw[e] at h;cases h
theorem A4i{α:Type}{l:List α}{k:Nat}(h:k<l.length):∃x,l[k]?=some x:=⟨_,B4 h⟩
theorem Rel.cellOf(r:Rel cx l S){k:Nat}{a:Addr}(e:S.σ[k]?=some a):∃c o,S.h[k]?=some c/\S.s.heap.get? a=some o/\A2g cx S.G S.σ c o:=by
 obtain⟨c,hc⟩:=A4i (l:=S.h) (k:=k) (r.len▸(Bm.mp e).1)
 obtain⟨a',o,e',q,d⟩:=r.cell k c hc
 rw[e] at e';cases e'
 exact⟨c,o,hc,q,d⟩
theorem Rel.off'(r:Rel cx l S){a:Addr}(e:S.s.heap.get? a=none)(k:Nat):S.σ[k]?≠some a:=λq=>by
 obtain⟨_,o,_,h,_⟩:=r.cellOf q
 rw[e] at h;cases h
theorem Rel.keep(r:Rel cx l S){h':Heap}{tk:Nat}(k:∀b o,S.s.heap.get? b=some o->h'.get? b=some o):Rel cx l {S with s:={S.s with heap:=h',toks:=tk}}:=
 {r with
  stay:=λa o e=>k _ _ (r.stay a o e)
  cell:=λi c e=>(r.cell i c e).rec λa o e q d=>⟨a,o,e,k _ _ q,d⟩
  fram:=λa o e=>⟨(r.fram a o e).1,(r.fram a o e).2.rec λo' q z=>⟨o',k _ _ q,z⟩⟩}
theorem Rel.toks(r:Rel cx l S)(tk:Nat):Rel cx l {S with s:={S.s with toks:=tk}}:=r.keep λ_ _ e=>e
def GM.put(G:GM)(a:Addr)(o:Obj):GM:=λb=>if b=a then some o else G b
theorem GM.put_self{G:GM}{a:Addr}{o:Obj}:GM.put G a o a=some o:=if_pos rfl
theorem GM.put_ne{G:GM}{a b:Addr}{o:Obj}(h:b≠a):GM.put G a o b=G b:=if_neg h
theorem A1j{G:GM}{a b:Addr}{o:Obj}(h:G a=none)(e:G b=some o):b≠a:=λq=>by subst q;rw[h] at e;cases e
theorem GM.sub_put{G:GM}{a:Addr}{o:Obj}(h:G a=none):Sub G (GM.put G a o):=λb x e=>(GM.put_ne (A1j h e)).trans e
theorem GM.of_put{G:GM}{a b:Addr}{o x:Obj}(e:GM.put G a o b=some x):(b=a/\o=x)∨G b=some x:=by
 by_cases q:b=a
 ·subst q;exact .inl ⟨rfl,Option.some.inj (GM.put_self.symm.trans e)⟩
 ·exact .inr ((GM.put_ne q).symm.trans e)
theorem Rel.gput(r:Rel cx l S){a:Addr}{o:Obj}(hG:S.G a=none)(hF:S.F a=none)(hσ:∀k:Nat,S.σ[k]?≠some a)(ho:S.s.heap.get? a=some o):Rel cx l {S with G:=S.G.put a o}:=
 {r with
  kin:=λb x e=>GM.sub_put hG b x (r.kin b x e)
  stay:=λb x e=>by
   rcases GM.of_put e with⟨rfl,rfl⟩ | e
   ·exact ho
   ·exact r.stay b x e
  cell:=λk c e=>(r.cell k c e).rec λb o e q d=>⟨b,o,e,q,d.mono (GM.sub_put hG) .rfl'⟩
  off:=λk b e=>⟨(GM.put_ne λ(q:b=a)=>hσ k (q▸e)).trans (r.off k b e).1,(r.off k b e).2⟩
  fram:=λb d e=>⟨(GM.put_ne (A1j hF e)).trans (r.fram b d e).1,(r.fram b d e).2⟩}
theorem getElem?_snoc_lt{α:Type}{l r:List α}{k:Nat}{x:α}(e:l[k]?=some x):(l++r)[k]?=some x:=(Bp (Bm.mp e).1).trans e
theorem A3i{α:Type}{l:List α}{x y:α}{k:Nat}(e:(l++[x])[k]?=some y)(h:¬k<l.length):k=l.length/\x=y:=by
 rw[List.getElem?_append_right (Ca h)] at e
 cases z:k-l.length with
 |zero=>rw[z] at e;cases e;exact⟨Nat.le_antisymm (Nat.le_of_sub_eq_zero z) (Ca h),rfl⟩
 |succ m=>rw[z] at e;cases e
theorem A4j{α:Type}{l:List α}{x:α}:(l++[x])[l.length]?=some x:=by rw[List.getElem?_append_right (Ac _),Nat.sub_self];rfl
theorem Up.snoc{σ:List Addr}{a:Addr}:Up σ (σ++[a]):=λ_ _ e=>getElem?_snoc_lt e
theorem Rel.hput(r:Rel cx l S){a:Addr}{c:Cl}{o:Obj}(hG:S.G a=none)(hF:S.F a=none)(hσ:∀k:Nat,S.σ[k]?≠some a)(ho:S.s.heap.get? a=some o)(hc:A2g cx S.G S.σ c o):Rel cx l {S with σ:=S.σ++[a],h:=S.h++[c]}:=
 {r with
  cell:=λk d e=>by
   by_cases q:k<S.h.length
   ·rw[Bp q] at e
    exact(r.cell k d e).rec λb o e q d=>⟨b,o,Up.snoc _ _ e,q,d.mono .rfl' .snoc⟩
   ·obtain⟨rfl,rfl⟩:=A3i e q
    exact⟨a,o,r.len▸A4j,ho,hc.mono .rfl' .snoc⟩
  off:=λk b e=>by
   by_cases q:k<S.σ.length
   ·rw[Bp q] at e;exact r.off k b e
   ·obtain⟨_,rfl⟩:=A3i e q;exact⟨hG,hF⟩
  inj:=λi j b e1 e2=>by
   by_cases q1:i<S.σ.length <;> by_cases q2:j<S.σ.length
   ·rw[Bp q1] at e1;rw[Bp q2] at e2;exact r.inj i j b e1 e2
   ·rw[Bp q1] at e1;obtain⟨_,rfl⟩:=A3i e2 q2;exact absurd e1 (hσ i)
   ·rw[Bp q2] at e2;obtain⟨_,rfl⟩:=A3i e1 q1;exact absurd e2 (hσ j)
   ·exact(A3i e1 q1).1.trans (A3i e2 q2).1.symm
  len:=by
   show(S.σ++[a]).length=(S.h++[c]).length
   rw[Ae,Ae,r.len];rfl}
theorem Rel.hset(r:Rel cx l S){k:Nat}{a:Addr}{c:Cl}{o:Obj}{h':Heap}{tk:Nat}(e:S.σ[k]?=some a)(ho:h'.get? a=some o)(hc:A2g cx S.G S.σ c o)
  (kp:∀b x,b≠a->S.s.heap.get? b=some x->h'.get? b=some x):Rel cx l {S with h:=S.h.set k c,s:={S.s with heap:=h',toks:=tk}}:=
 {r with
  stay:=λb x q=>kp b x (A1j (r.off k a e).1 q) (r.stay b x q)
  cell:=λj d q=>by
   rw[List.getElem?_set] at q
   by_cases z:k=j
   ·subst z
    rw[if_pos rfl] at q
    split at q
    ·cases q;exact⟨a,o,e,ho,hc⟩
    ·cases q
   ·rw[if_neg z] at q
    exact(r.cell j d q).rec λb o e' q d=>⟨b,o,e',kp b o (λw=>z (r.inj k j a e (w▸e'))) q,d⟩
  len:=r.len.trans Cq.symm
  fram:=λb d q=>⟨(r.fram b d q).1,(r.fram b d q).2.rec λo' w z=>⟨o',kp b o' (A1j (r.off k a e).2 q) w,z⟩⟩}
theorem Rel.exact(r:Rel cx l S){a:Addr}{o:Obj}(e:S.F a=some o)(hc:a ∉ A3j l):S.s.heap.get? a=some o:=(r.fram a o e).2.rec λ_ h x=>x.exact hc▸h
end
structure Amb(A:Around)(n:Nat)(l:List Env):Prop where
 frames:A.frames=some l
 handled:A.handled=none
 depth:A.depth+2*n+4<=1000
 units:A.units+20*n+3000<=9900
structure NxM(S S':St):Prop where
 f:S'.F=S.F
 g:Sub S.G S'.G
 u:Up S.σ S'.σ
theorem NxM.rfl'{S:St}:NxM S S:=⟨rfl,.rfl',.rfl'⟩
theorem NxM.trans{S S' S'':St}(x:NxM S S')(y:NxM S' S''):NxM S S'':=⟨y.f.trans x.f,x.g.trans y.g,x.u.trans y.u⟩
theorem NxM.g'{S:St}{G:GM}{s:Shared}(k:Sub S.G G):NxM S {S with G:=G,s:=s}:=⟨rfl,k,.rfl'⟩
structure NxE(S S':St):Prop where
 f:S'.F=S.F
 g:Sub S.G S'.G
abbrev Kv:=V->Ht->Prop
abbrev Kx:=AVal->Prop
def PR{α:Type}(r:Rs α)(K:α->Ht->Prop)(X:Kx):Prop:=match r with
 |.ok a h=>K a h
 |.exc p=>X p
 |.bad=>False
theorem PR.bind{α β:Type}{r:Rs α}{f:α->Ht->Rs β}{K:β->Ht->Prop}{X:Kx}(q:PR (r.bind f) K X):PR r (λa h=>PR (f a h) K X) X:=by
 cases r <;> exact q
inductive Okx(cx:Cx)(l:List Env)(S:St)(K:Kv)(v:Value):Shared->Prop
 |mk (S':St) (a:V) (n:NxM S S') (R:Rel cx l S') (r:VR cx S'.G S'.σ a v) (k:K a S'.h):Okx cx l S K v S'.s
inductive Okl(cx:Cx)(l:List Env)(S:St)(K:List V->Ht->Prop)(v:List Value):Shared->Prop
 |mk (S':St) (a:List V) (n:NxM S S') (R:Rel cx l S') (r:VRs cx S'.G S'.σ a v) (k:K a S'.h):Okl cx l S K v S'.s
inductive Okb(cx:Cx)(l:List Env)(S:St)(K:Bool->Ht->Prop)(b:Bool):Shared->Prop
 |mk (S':St) (n:NxM S S') (R:Rel cx l S') (k:K b S'.h):Okb cx l S K b S'.s
structure Off(S:St)(a:Addr):Prop where
 g:S.G a=none
 f:S.F a=none
 x:∀k:Nat,S.σ[k]?≠some a
inductive A9t(S:St)(e:Addr)(fl:Value)(vs:Array Value):Prop
 |mk (T:Addr) (oT:Obj) (ts:Array Value) (h:vs[1]?=some (.ref T)) (x:Off S T) (d:T≠e) (o:S.s.heap.get? T=some oT) (q:oT.data=.fields ts) (z:ts[3]?=some fl)
inductive A8j(S:St)(e:Addr)(u:Value)(vs:Array Value):Prop
 |no (h:vs[1]?=some .none)
 |yes (fl:Value) (m:A9t S e fl vs) (w:fl=.none∨fl=u)
inductive ExcB(cx:Cx)(S:St)(p:AVal)(a:Addr)(vs:Array Value):Prop
 |mk (dx:Addr) (es:List DictEntry) (n:Nat) (oe:Obj) (v w:Value) (x:Off S a) (o:S.s.heap.get? a=some oe) (c:oe.cls=.ref (cx.ca 2)) (i:oe.dict=some dx) (q:oe.data=.fields vs)
   (gd:S.G dx=some (dictOf es n)) (fk:FKey [54,4] es) (ev:es.map (·.val)=[v,w]) (r:VRep cx S.G p w)
inductive A3u(cx:Cx)(S:St)(u:Value)(p:AVal):Value->Prop
 |mk (a:Addr) (vs:Array Value) (b:ExcB cx S p a vs) (t:A8j S a u vs):A3u cx S u p (.ref a)
inductive Exx(cx:Cx)(l:List Env)(S:St)(u:Value)(X:Kx)(e:Value):Shared->Prop
 |mk (S':St) (p:AVal) (n:NxE S S') (R:Rel cx l S') (x:A3u cx S' u p e) (k:X p):Exx cx l S u X e S'.s
section
variable{cx:Cx}{l:List Env}{S S':St}{s:Shared}
theorem Okx.le{K:Kv}{v:Value}(n:NxM S S')(x:Okx cx l S' K v s):Okx cx l S K v s:=x.rec λS₁ a m R r k=>⟨S₁,a,n.trans m,R,r,k⟩
theorem Okl.le{K:List V->Ht->Prop}{v:List Value}(n:NxM S S')(x:Okl cx l S' K v s):Okl cx l S K v s:=x.rec λS₁ a m R r k=>⟨S₁,a,n.trans m,R,r,k⟩
theorem Okb.le{K:Bool->Ht->Prop}{v:Bool}(n:NxM S S')(x:Okb cx l S' K v s):Okb cx l S K v s:=x.rec λS₁ m R k=>⟨S₁,n.trans m,R,k⟩
theorem Exx.le{u:Value}{X:Kx}{v:Value}(n:NxM S S')(x:Exx cx l S' u X v s):Exx cx l S u X v s:=x.rec λS₁ a m R r k=>⟨S₁,a,⟨m.f.trans n.f,n.g.trans m.g⟩,R,r,k⟩
end
def CallOK(cx:Cx)(n:Nat)(o:Ob):Prop:=∀(A:Around) (l:List Env) (S:St) (f:Nat) (vs:List V) (cvs:List Value) (K:Kv) (X:Kx),Amb A n l->Rel cx l S->VRs cx S.G S.σ vs cvs->PR (o f vs S.h) K X->
 wpAny (model pw cx.w) A (call (.ref (cx.fa f)) cvs) (Okx cx l S K) (Exx cx l S .none X) S.s
def NewOK(cx:Cx)(n:Nat)(oi:Ob):Prop:=∀(A:Around) (l:List Env) (S:St) (c:Nat) (vs:List V) (cvs:List Value) (K:Kv) (X:Kx),Amb A n l->Rel cx l S->VRs cx S.G S.σ vs cvs->PR (newX oi c vs S.h) K X->
 wpAny (model pw cx.w) A (call (.ref (cx.ca c)) cvs) (Okx cx l S K) (Exx cx l S .none X) S.s
structure Pl where
 cx:Cx
 A:Around
 n:Nat
 l:List Env
 o:Ob
 oi:Ob
 am:Amb A n l
 co:∀(A:Around) (l:List Env) (S:St) (f:Nat) (vs:List V) (cvs:List Value) (K:Kv) (X:Kx),Amb A n l->Rel cx l S->VRs cx S.G S.σ vs cvs->PR (A2v o f vs S.h) K X->
  wpAny (model pw cx.w) A (call (.ref (cx.fa f)) cvs) (Okx cx l S K) (Exx cx l S .none X) S.s
 cn:NewOK cx n oi
abbrev Pl.M(P:Pl):Model:=model pw P.cx.w
abbrev KG(cx:Cx):GM:=λa=>cx.K.lookup a
structure A2f(env:Env)(E:CE):Prop where
 kind:env.scope.kind=.function
 glob:∀x,E.globs.contains x=true->env.kindOf x=some .globalImplicit
 globals:env.globals=mainGlobals
 builtins:env.builtins=builtinsNs
 cells:∀x,E.cells.contains x=true->env.kindOf x=some .cell/\∃c,env.cells.lookup x=some c
inductive A4m(F:GM)(a:Addr)(m:Str->Option Value):Prop
 |mk (o:Obj) (es:Array DictEntry) (ep:Nat) (h:F a=some o) (d:o.data=.dict es ep) (k:StrKeys es) (f:∀x,nsFind es x=m x)
inductive CelAt(F:GM)(a:Addr)(v:Option Value):Prop
 |mk (o:Obj) (h:F a=some o) (d:o.data=.cell v)
structure FrmE(F:GM)(env:Env)(m cm:Str->Option Value):Prop where
 loc:A4m F env.locals m
 cell:∀x c,env.cells.lookup x=some c->CelAt F c (cm x)
structure EnvA(env:Env):Prop where
 apart:env.cells.Pairwise λx y=>x.2≠y.2
 off:∀x c,(x,c)∈env.cells->env.locals≠c
inductive Hold(env:Env)(m cm:Str->Option Value)(x:Str)(v:Value):Prop
 |loc (k:env.kindOf x=some .local) (h:m x=some v)
 |cell (k:env.kindOf x=some .cell) (c:Addr) (e:env.cells.lookup x=some c) (h:cm x=some v)
inductive Held(cx:Cx)(S:St)(env:Env)(m cm:Str->Option Value)(x:Str)(a:V):Prop
 |mk (v:Value) (r:VR cx S.G S.σ a v) (h:Hold env m cm x v)
inductive A0i(cx:Cx)(S:St)(env:Env)(E:CE)(ρ:Lo):Prop
 |mk (m cm:Str->Option Value) (n:E.cv=none->ρ.length=E.names.length) (f:FrmE S.F env m cm) (h:∀i v x,E.var x=some i->ρ[i]?=some (some v)->Held cx S env m cm x v)
theorem A0i.nx{cx:Cx}{S S':St}{env:Env}{E:CE}{ρ:Lo}(k:NxM S S')(h:A0i cx S env E ρ):A0i cx S' env E ρ:=
 h.rec λm cm n f h=>⟨m,cm,n,k.f.symm▸f,λi v x a b=>(h i v x a b).rec λcv r z=>⟨cv,r.mono k.g k.u,z⟩⟩
theorem A7y{cx:Cx}{l:List Env}{S:St}{M:Model}{A:Around}{env:Env}{m cm:Str->Option Value}{x:Str}{v:Value}{Q:Value->Shared->Prop}{X:Value->Shared->Prop}(hk:env.scope.kind=.function)(f:FrmE S.F env m cm)(R:Rel cx l S)(hv:Hold env m cm x v)(q:Q v S.s):
  wpAny M A (loadName env x) Q X S.s:=by
 cases hv with
 |loc k h=>
  obtain⟨o,es,ep,a,b,c,d⟩:=f.loc
  obtain⟨_,o',e,z⟩:=R.fram _ _ a
  exact wpAny_loadName_local hk k ⟨o',es,ep,e,z.data.trans b,c,d⟩ h q
 |cell k c e h=>
  obtain⟨o,a,b⟩:=f.cell x c e
  obtain⟨_,o',y,z⟩:=R.fram _ _ a
  exact wpAny_loadName_cell hk k e ⟨o',y,z.data.trans (b.trans (congrArg Data.cell h))⟩ q
inductive A5j(cx:Cx)(x:Str)(v:Value):Prop
 |glob (h:nsIn cx.K mainGlobals x=some (some v))
 |bi (h:nsIn cx.K mainGlobals x=some none) (k:nsIn cx.K builtinsNs x=some (some v))
inductive NmAt(cx:Cx)(c:Nat)(x:List Nat):Prop
 |mk (t:Tok) (l:x.length<=sizeLine) (h:findIn cx.K (.ref (cx.ca c)) (aNm 16)=some (some (.str ⟨x.toArray⟩ t)))
inductive CdAt(cx:Cx)(c:Nat):Prop
 |mk (cd:_) (h:clsIn cx.K (cx.ca c)=some cd) (d:cd.hasDict=true)
structure A8k(cx:Cx)(c:Nat):Prop where
 cd:CdAt cx c
 ga:findIn cx.K (.ref (cx.ca c)) "__getattribute__" =some (some (.builtin "object.__getattribute__"))
 gat:findIn cx.K (.ref (cx.ca c)) "__getattr__" =some none
 sa:findIn cx.K (.ref (cx.ca c)) "__setattr__" =some (some (.builtin "object.__setattr__"))
 pl:plainOver cx.K (cx.ca c)=true
 made:makesIn cx.K (cx.ca c)=true
 kp:keepIn cx.K (.ref (cx.ca c))=true
 fld:∀a,(A0r c).contains a=true->findIn cx.K (.ref (cx.ca c)) (aNm a)=some none
 nm:∀x,A6h c=some x->NmAt cx c x
 meth:∀m f,A5c c m=some f->m<55/\findIn cx.K (.ref (cx.ca c)) (aNm m)=some (some (.ref (cx.fa f)))
 init:match A5e c with
  |some f=>findIn cx.K (.ref (cx.ca c)) "__init__" =some (some (.ref (cx.fa f)))
  |none=>findIn cx.K (.ref (cx.ca c)) "__init__" =some (some (.builtin "object.__init__"))
noncomputable def biV:Bi->Value
 |.len=>.builtin "len" | .ord=>.builtin "ord" | .chr=>.builtin "chr" | .int1=>.type "int" | .int16=>.type "int" | .str=>.type "str" | .abs=>.builtin "abs"
 |.min=>.builtin "min" | .max=>.builtin "max" | .range1=>.type "range" | .range2=>.type "range" | .list=>.type "list" | .tuple=>.type "tuple" | .sorted=>.builtin "sorted"
noncomputable def gNm(g:Nat):Str:=B7t.getD g Str.empty
noncomputable def cNm(c:Nat):Str:=clsNames.getD c Str.empty
noncomputable def fNm(f:Nat):Str:=(B0m.getD f (none,Str.empty)).2
noncomputable def fCl(f:Nat):Option Nat:=(B0m.getD f (none,Str.empty)).1
noncomputable def biNm:Bi->Str
 |.len=> "len" | .ord=> "ord" | .chr=> "chr" | .int1=> "int" | .int16=> "int" | .str=> "str" | .abs=> "abs"
 |.min=> "min" | .max=> "max" | .range1=> "range" | .range2=> "range" | .list=> "list" | .tuple=> "tuple" | .sorted=> "sorted"
inductive GlobAt(cx:Cx)(x:Str)(g:Nat):Prop
 |mk (v:Value) (h:A5j cx x v) (r:VRep cx (KG cx) (gval g) v)
structure Facts(cx:Cx):Prop where
 glob:∀g,g<15->GlobAt cx (gNm g) g
 cls:∀c,usable c=true->A8k cx c
 fn:∀f,f<83->isFn cx.K (.ref (cx.fa f))=true/\keepIn cx.K (.ref (cx.fa f))=true
 gfn:∀f,f<83->fCl f=none->A5j cx (fNm f) (.ref (cx.fa f))
 gcls:∀c,c<19->A5j cx (cNm c) (.ref (cx.ca c))
 bi:∀b,A5j cx (biNm b) (biV b)
 cm:∀c f,fCl f=some c->statics.contains f=true->∀(A:Around) (s:Shared) (Q:Value×List Value->Shared->Prop) (X:Value->Shared->Prop) (pl:Sem Bool),cx.K.In s.heap->(∀tk,Q (.ref (cx.fa f),[]) {s with toks:=tk})->wpAny (model pw cx.w) A (getMethod (.ref (cx.ca c)) (fNm f) pl) Q X s
 fty:∀f,f<83->typeIn cx.K (.ref (cx.fa f))=some (.type "function")
 nolim:∀h:Heap,cx.K.In h->h.NoLimit
def SX(P:Pl)(E:CE)(env:Env)(e:PySem.Expr)(x:Ex):Prop:=
 ∀(S:St) (ρ:Lo) (K:Kv) (X:Kx),Rel P.cx P.l S->A0i P.cx S env E ρ->PR (runX P.o P.oi x ρ S.h) K X->wpAny P.M P.A (eval e env) (Okx P.cx P.l S K) (Exx P.cx P.l S .none X) S.s
def ST(P:Pl)(E:CE)(env:Env)(e:PySem.Expr)(x:Ex):Prop:=
 ∀(S:St) (ρ:Lo) (K:Bool->Ht->Prop) (X:Kx),Rel P.cx P.l S->A0i P.cx S env E ρ->PR ((runX P.o P.oi x ρ S.h).bind truR) K X->wpAny P.M P.A (isTrue e env (eval e env)) (Okb P.cx P.l S K) (Exx P.cx P.l S .none X) S.s
def SXs(P:Pl)(E:CE)(env:Env)(es:List PySem.Expr)(xs:List Ex):Prop:=
 ∀(S:St) (ρ:Lo) (K:List V->Ht->Prop) (X:Kx) (pos:Pos),Rel P.cx P.l S->A0i P.cx S env E ρ->PR (A1l P.o P.oi xs ρ S.h) K X->wpAny P.M P.A (spliced (backTo pos (starEach es env))) (Okl P.cx P.l S K) (Exx P.cx P.l S .none X) S.s
section
variable{P:Pl}{E:CE}{env:Env}{S S':St}{K:Kv}{X:Kx}
theorem A3o{cx:Cx}{l:List Env}{v:Value}{a:V}(R:Rel cx l S)(h:VR cx S.G S.σ a v)(k:K a S.h):Okx cx l S K v S.s:=⟨S,a,.rfl',R,h,k⟩
theorem A5w{cx:Cx}{l:List Env}{v:Value}{a:V}{tk:Nat}(R:Rel cx l S)(h:VR cx S.G S.σ a v)(k:K a S.h):Okx cx l S K v {S.s with toks:=tk}:=⟨{S with s:={S.s with toks:=tk}},a,.g' .rfl',R.toks tk,h,k⟩
theorem upX{α:Type}{u:Value}{Q Q':α->Shared->Prop}{t:Sem α}{s:Shared}(n:NxM S S')(q:∀{a s},Q' a s->Q a s)(h:wpAny P.M P.A t Q' (Exx P.cx P.l S' u X) s):wpAny P.M P.A t Q (Exx P.cx P.l S u X) s:=Af h (λ_ _=>q) λ_ _=>Exx.le n
theorem B4i{α:Type}{t:Sem Value}{f:Value->Sem α}{Q:α->Shared->Prop}(h:wpAny P.M P.A t (Okx P.cx P.l S K) (Exx P.cx P.l S .none X) S.s)
  (k:∀(S':St) a v,NxM S S'->Rel P.cx P.l S'->VR P.cx S'.G S'.σ a v->K a S'.h->wpAny P.M P.A (f v) Q (Exx P.cx P.l S .none X) S'.s):wpAny P.M P.A (t >>= f) Q (Exx P.cx P.l S .none X) S.s:=
 Ab (Af h (λv _ x=>x.rec λS' a n R r q=>k S' a v n R r q) λ_ _ e=>e)
theorem thenL{t:Sem (List Value)}{f:List Value->Sem Value}{L:List V->Ht->Prop}{K':Kv}(h:wpAny P.M P.A t (Okl P.cx P.l S L) (Exx P.cx P.l S .none X) S.s)
  (k:∀(S':St) as vs,Rel P.cx P.l S'->VRs P.cx S'.G S'.σ as vs->L as S'.h->wpAny P.M P.A (f vs) (Okx P.cx P.l S' K') (Exx P.cx P.l S' .none X) S'.s):wpAny P.M P.A t (λvs s=>wpAny P.M P.A (f vs) (Okx P.cx P.l S K') (Exx P.cx P.l S .none X) s) (Exx P.cx P.l S .none X) S.s:=
 Af h (λvs _ x=>x.rec λS' as n R r q=>upX n (.le n) (k S' as vs R r q)) λ_ _ e=>e
theorem sx_none{pos:Pos}{k:Nat}:SX P E env (.Constant .none k pos) (.lit .none):=λ_ _ _ _ R _ q=>Ad (A3o (a:=.p .none) R rfl q)
theorem sx_bool{pos:Pos}{k:Nat}{b:Bool}:SX P E env (.Constant (.bool b) k pos) (.lit (.bool b)):=λ_ _ _ _ R _ q=>Ad (A3o (a:=.p (.bool b)) R rfl q)
theorem sx_int{pos:Pos}{k:Nat}{i:Int}:SX P E env (.Constant (.int i) k pos) (.lit (.int i)):=λ_ _ _ _ R _ q=>wpAny_mkInt (A5w (a:=.p (.int i)) R ⟨_⟩ q)
theorem sx_str{pos:Pos}{k:Nat}{x:Str}(hx:x.cps.toList.length<=sizeLine):SX P E env (.Constant (.str x) k pos) (.lit (.str x.cps.toList)):=λ_ _ _ _ R _ q=>wpAny_mkText (A5w (a:=.p (.str x.cps.toList)) R ⟨_,hx⟩ q)
theorem B1j(V:A2f env E){x:Str}{pos:Pos}{i:Nat}(hd:(x==("__debug__" :Str))=false)(hv:E.var x=some i):SX P E env (.Name x pos) (.loc i):=λS ρ K X R L q=>by
 change PR (match ρ[i]? with | some w=>(match w with | some v=>.ok v S.h | none=>.bad) | none=>.bad) K X at q
 cases hi:ρ[i]? with
 |none=>rw[hi] at q;exact q.elim
 |some w=>
  cases w with
  |none=>rw[hi] at q;exact q.elim
  |some a=>
   rw[hi] at q
   obtain⟨m,cm,_,f,h⟩:=L
   obtain⟨v,r,z⟩:=h i a x hv hi
   exact wpAny_Name (A7y V.kind f R z (A3o R r q)) hd
theorem A5d{A:Around}{x:Str}{pos:Pos}{v:Value}{Q:Value->Shared->Prop}{X:Value->Shared->Prop}(V:A2f env E)(hd:(x==("__debug__" :Str))=false)
  (hg:E.globs.contains x=true) (R:Rel P.cx P.l S) (hv:A5j P.cx x v) (h:Q v S.s):wpAny P.M A (eval (.Name x pos) env) Q X S.s:=by
 refine Calls.Name_function_global V.kind (V.glob x hg) ?_ hd
 unfold loadGlobal
 rw[V.globals,V.builtins]
 cases hv with
 |glob hv=>exact Ab ((looks_nsIn R.inK hv).here (Ad h))
 |bi h1 h2=>exact Ab ((looks_nsIn R.inK h1).here (Ab ((looks_nsIn R.inK h2).here (Ad h))))
theorem sx_glob(Fa:Facts P.cx)(V:A2f env E){pos:Pos}{g:Nat}(hd:(gNm g==("__debug__" :Str))=false)(hg:E.globs.contains (gNm g)=true)(hi:g<15):SX P E env (.Name (gNm g) pos) (.glob g):=λS ρ K X R L q=>by
 obtain⟨cv,a,b⟩:=Fa.glob g hi
 exact A5d V hd hg R a (A3o (a:=.p (gval g)) R (VRep.mono R.kin b) q)
theorem ok_l{cx:Cx}{l:List Env}{v:List Value}{a:List V}{K:List V->Ht->Prop}(R:Rel cx l S)(h:VRs cx S.G S.σ a v)(k:K a S.h):Okl cx l S K v S.s:=⟨S,a,.rfl',R,h,k⟩
theorem A7k:SXs P E env [] []:=λ_ _ _ _ _ R _ q=>Calls.spliced_nil (ok_l (a:=[]) R rfl q)
theorem A3z{e:PySem.Expr}{r:List PySem.Expr}(h:A9j e=false):starEach (e::r) env=(false,eval e env)::starEach r env:=by
 cases e <;> first | rfl | cases h
theorem A2q{e:PySem.Expr}{x:Ex}{es:List PySem.Expr}{xs:List Ex}(hn:A9j e=false)(h1:SX P E env e x)(h2:SXs P E env es xs):SXs P E env (e::es) (x::xs):=λS ρ K X pos R L q=>by
 rw[A3z hn]
 refine Calls.spliced_cons (Af (h1 S ρ _ X R L (PR.bind q)) (λv _ x=>x.rec λS' a n R' r q=> ?_) λ_ _ e=>e)
 refine upX n (.le n) (Af (h2 S' ρ _ X pos R' (L.nx n) (PR.bind q)) (λvs _ x=>x.rec λS₂ as n2 R2 rs q=>⟨S₂,a::as,n2,R2,?_,q⟩) λ_ _ e=>e)
 exact⟨r.mono n2.g n2.u,rs⟩
theorem A1s{es:List PySem.Expr}(hn:es.all (λe=> !A9j e)=true)(pos:Pos):(backTo pos (starEach es env)).any (·.1)=false:=by
 induction es with
 |nil=>rfl
 |cons e r ih=>
  have h:=Aq.mp hn
  rw[A3z (Bool.not_eq_eq_eq_not.mp h.1)]
  exact ih h.2
theorem A5v{o oi:Ob}:∀{xs:List Ex} {ρ:Lo} {h:Ht} {K:List V->Ht->Prop} {X:Kx},PR (A1l o oi xs ρ h) K X->PR (A1l o oi xs ρ h) (λvs h=>vs.length=xs.length/\K vs h) X:=by
 intro xs
 induction xs with
 |nil=>exact λq=>⟨rfl,q⟩
 |cons x xs ih=>
  intro ρ h K X q
  have q:=PR.bind q
  change PR ((runX o oi x ρ h).bind _) _ _
  revert q
  cases runX o oi x ρ h with
  |ok a h1=>
   intro q
   have q:=ih (PR.bind q)
   change PR ((A1l o oi xs ρ h1).bind _) _ _
   revert q
   cases A1l o oi xs ρ h1 with
   |ok as h2=>exact λq=>⟨congrArg (· +1) q.1,q.2⟩
   |exc _=>exact λq=>q
   |bad=>exact λq=>q
  |exc _=>exact λq=>q
  |bad=>exact λq=>q
theorem A7v{cx:Cx}{M:Model}{A:Around}{T:String}{vs:List Value}{Q:Value->Shared->Prop}{X:Value->Shared->Prop}{s:Shared}(hl:vs.length<=sizeLine)
  (h:Q (.ref s.heap.objs.size) {s with heap:=s.heap.push {cls:=.type T,data:=.seq vs.toArray}}):wpAny M A (newObj (.type T) (.seq vs.toArray)) Q X s:=
 wpAny_newObj_type h (by show vs.toArray.size<=sizeLine;rw[Bk];exact hl)
theorem A1i{h:Heap}{o:Obj}(z:o.isFreed=false):(h.push o).get? h.objs.size=some o:=Heap.get?_push_size _ z
theorem A0o{h:Heap}{o:Obj}(b:Addr)(x:Obj)(e:h.get? b=some x):(h.push o).get? b=some x:=Heap.get?_push_of_some _ e
theorem fresh{h:Heap}:h.get? h.objs.size=none:=A2a (Ac _)
theorem B1x{cx:Cx}{l:List Env}{o:Obj}{a:V}{tk:Nat}(z:o.isFreed=false)(R:Rel cx l S)(h:VR cx (S.G.put S.s.heap.objs.size o) S.σ a (.ref S.s.heap.objs.size))(k:K a S.h):Okx cx l S K (.ref S.s.heap.objs.size) {S.s with heap:=S.s.heap.push o,toks:=tk}:=
 ⟨{S with G:=S.G.put S.s.heap.objs.size o,s:={S.s with heap:=S.s.heap.push o,toks:=tk}},a,.g' (GM.sub_put (R.gNone fresh)),(R.keep A0o).gput (R.gNone fresh) (R.fNone fresh) (R.off' fresh) (A1i z),h,k⟩
theorem B0b{cx:Cx}{l:List Env}{o:Obj}(R:Rel cx l S):Sub S.G (S.G.put S.s.heap.objs.size o):=GM.sub_put (R.gNone fresh)
theorem B6n{cx:Cx}{l:List Env}{o:Obj}{c:Cl}{tk:Nat}(z:o.isFreed=false)(R:Rel cx l S)(h:A2g cx S.G S.σ c o)(k:K (.ref S.h.length) (S.h++[c])):Okx cx l S K (.ref S.s.heap.objs.size) {S.s with heap:=S.s.heap.push o,toks:=tk}:=
 ⟨{S with σ:=S.σ++[S.s.heap.objs.size],h:=S.h++[c],s:={S.s with heap:=S.s.heap.push o,toks:=tk}},.ref S.h.length,⟨rfl,.rfl',.snoc⟩,(R.keep A0o).hput (R.gNone fresh) (R.fNone fresh) (R.off' fresh) (A1i z) h,⟨_,R.len▸A4j⟩,k⟩
theorem A2x{cx:Cx}{G:GM}{σ:List Addr}:∀{as:List V} {ps:List AVal} {vs:List Value},allP as=some ps->VRs cx G σ as vs->VReps cx G ps vs/\ps.length=as.length:=by
 intro as
 induction as with
 |nil=>intro ps vs e h;cases e;exact⟨h,rfl⟩
 |cons a as ih=>
  intro ps vs e h
  cases vs with
  |nil=>exact h.elim
  |cons v vs=>
   cases a with
   |p a=>
    change (match allP as with | some l=>some (a::l) | none=>none)=some ps at e
    cases q:allP as with
    |none=>rw[q] at e;cases e
    |some l=>rw[q] at e;cases e;exact⟨⟨h.1,(ih q h.2).1⟩,congrArg (· +1) (ih q h.2).2⟩
   |_=>cases e
theorem lim{n:Nat}(h:n<=1000):n<=sizeLine:=Aa h (by decide)
theorem ok_tup{cx:Cx}{l:List Env}{xs:List AVal}{vs:List Value}{tk:Nat}(R:Rel cx l S)(hl:xs.length<=sizeLine)(h:VReps cx S.G xs vs)(k:K (.p (.tup xs)) S.h):Okx cx l S K (.ref S.s.heap.objs.size) {S.s with heap:=S.s.heap.push {cls:=.type "tuple",data:=.seq vs.toArray},toks:=tk}:=
 B1x (a:=.p (.tup xs)) rfl R ⟨vs,⟨_,_,_,GM.put_self,rfl,rfl⟩,hl,h.mono (B0b R)⟩ k
theorem A4c{cx:Cx}{l:List Env}{xs:List AVal}{vs:List Value}{tk:Nat}(R:Rel cx l S)(hl:xs.length<=sizeLine)(h:VReps cx S.G xs vs)(k:K (.p (.lst xs)) S.h):Okx cx l S K (.ref S.s.heap.objs.size) {S.s with heap:=S.s.heap.push {cls:=.type "list",data:=.seq vs.toArray},toks:=tk}:=
 B1x (a:=.p (.lst xs)) rfl R ⟨vs,⟨_,_,_,GM.put_self,rfl,rfl⟩,hl,h.mono (B0b R)⟩ k
theorem sx_tup{es:List PySem.Expr}{xs:List Ex}{k:Nat}{pos:Pos}(h:SXs P E env es xs)(hl:xs.length<=1000):SX P E env (.Tuple es k pos) (.tup xs):=λS ρ K X R L q=>by
 refine Tuple_ (thenL (h S ρ _ X pos R L (A5v (PR.bind q))) λS' as vs R' r q=> ?_)
 have hl:as.length<=sizeLine:=q.1▸lim hl
 refine A7v (cx:=P.cx) (by rw[r.all.length];exact hl) ?_
 have q:=q.2
 revert q
 cases e:allP as with
 |none=>exact λq=>B1x (a:=.tup as) rfl R' ⟨vs,⟨_,_,_,GM.put_self,rfl,rfl⟩,hl,r.mono (B0b R') .rfl'⟩ q
 |some ps=>exact λq=>ok_tup R' ((A2x e r).2▸hl) (A2x e r).1 q
theorem onP{as:List V}{α:Type}{f:List AVal->Rs α}{K:α->Ht->Prop}(q:PR (match allP as with | some ps=>f ps | none=>.bad) K X):∃ps,allP as=some ps/\PR (f ps) K X:=by
 cases e:allP as with
 |none=>rw[e] at q;exact q.elim
 |some ps=>rw[e] at q;exact⟨ps,rfl,q⟩
theorem sx_flist{es:List PySem.Expr}{xs:List Ex}{pos:Pos}(h:SXs P E env es xs)(hl:xs.length<=1000):SX P E env (.List es pos) (.flist xs):=λS ρ K X R L q=>by
 refine List_ (thenL (h S ρ _ X pos R L (A5v (PR.bind q))) λS' as vs R' r q=> ?_)
 obtain⟨ps,e,q'⟩:=onP q.2
 have hl:as.length<=sizeLine:=q.1▸lim hl
 exact A7v (cx:=P.cx) (by rw[r.all.length];exact hl) (A4c R' ((A2x e r).2▸hl) (A2x e r).1 q')
theorem sx_mlist{es:List PySem.Expr}{xs:List Ex}{pos:Pos}(h:SXs P E env es xs)(hl:xs.length<=1000):SX P E env (.List es pos) (.mlist xs):=λS ρ K X R L q=>by
 refine List_ (thenL (h S ρ _ X pos R L (A5v (PR.bind q))) λS' as vs R' r q=> ?_)
 obtain⟨ps,e,q'⟩:=onP q.2
 have hl:as.length<=sizeLine:=q.1▸lim hl
 exact A7v (cx:=P.cx) (by rw[r.all.length];exact hl) (B6n (c:=.lst ps) rfl R' ⟨vs,0,(A2x e r).2▸hl,(A2x e r).1.all⟩ q')
end
section
variable{P:Pl}{E:CE}{env:Env}{S S':St}{K:Kv}{X:Kx}
theorem B9o{a b:Nat}(ha:a<55)(hb:b<55)(e:aNm a=aNm b):a=b:=by
 have h:((List.range 55).all λa=>(List.range 55).all λb=>a==b|| !(aNm a==aNm b))=true:=by decide+kernel
 have:=Av.mp (Av.mp h a (B3.mpr ha)) b (B3.mpr hb)
 rw[e,beq_self_eq_true,Bool.not_true,Ce] at this
 exact eq_of_beq this
inductive GotL{α:Type}(R:α->Value->Prop)(g:Option (Option Value)):Option α->Prop
 |no (h:g=some none):GotL R g none
 |yes (x:α) (v:Value) (h:g=some (some v)) (r:R x v):GotL R g (some x)
theorem beq_ne{n a:Nat}(h:Nat.beq n a=false):n≠a:=λq=>by subst q;rw[Nat.beq_refl] at h;cases h
theorem A8b{α:Type}{R:α->Value->Prop}{a:Nat}(ha:a<55){ns:List Nat}{es:List DictEntry}(f:FKey ns es):∀{xs:List α},All2 R xs (es.map (·.val))->GotL R (getL (aNm a) es) (lk ns xs a):=by
 induction f with
 |nil=>exact λ_=>.no rfl
 |@cons n e ns es f _ ih=>
  obtain⟨t,hn,q⟩:=f
  intro xs h
  cases h with
  |@cons x _ xs _ hx ht=>
   show GotL R _ (match Nat.beq n a with | true=>some x | false=>lk ns xs a)
   cases z:Nat.beq n a with
   |true=>
    have z:=An z
    have hs:e.key.isStr (aNm a)=true:=by rw[q,z];exact beq_self_eq_true _
    exact .yes x _ (by unfold getL;rw[List.find?_cons,hs]) hx
   |false=>
    have hs:e.key.isStr (aNm a)=false:=by rw[q];exact beq_eq_false_iff_ne.mpr λw=>beq_ne z (B9o hn ha w)
    have hr:e.refKey=false:=by rw[DictEntry.refKey,q]
    have hg:getL (aNm a) (e::es)=getL (aNm a) es:=by unfold getL;rw[List.find?_cons,hs,List.any_cons,hr];rfl
    rw[hg];exact ih ht
theorem handed{cx:Cx}{G:GM}{σ:List Addr}{x:V}{v:Value}(h:VR cx G σ x v):handedIn v=true:=by
 cases x with
 |p a=>cases a with
  |none=>exact h▸rfl
  |bool _=>exact h▸rfl
  |int _=>exact h.rec λ_=>rfl
  |str _=>exact h.rec λ_ _=>rfl
  |tup _=>exact h.elim λ_ h=>h.1.rec λ_ _ _ _ _ _=>rfl
  |lst _=>exact h.elim λ_ h=>h.1.rec λ_ _ _ _ _ _=>rfl
  |dict _ _=>exact h.elim λ_ h=>h.1.rec λ_ _ _ _ _=>rfl
  |range _ _=>exact h.rec λ_ _ _ _ _ _ _=>rfl
  |inst _ _ _=>exact h.elim λ_ h=>h.1.rec λ_ _ _ _ _ _=>rfl
 |ref _=>exact h.rec λ_ _=>rfl
 |obj _ _=>exact h.rec λ_ _ _ _=>rfl
 |tup _=>exact h.elim λ_ h=>h.1.rec λ_ _ _ _ _ _=>rfl
theorem A8k.has{cx:Cx}{c:Nat}(g:A8k cx c):hasDictIn cx.K (cx.ca c)=true:=g.cd.rec λ_ a b=>by unfold hasDictIn;rw[a];exact b
theorem A6f{c a:Nat}(h:(A0r c).contains a=true):a<55/\usable c=true:=by
 have k:((List.range 20).all λc=>(A0r c).all λa=>decide (a<55)&&usable c)=true:=by decide+kernel
 by_cases hc:c<20
 ·have:=Aq.mp (Av.mp (Av.mp k c (B3.mpr hc)) a (A4.mp h))
  exact⟨Ba this.1,this.2⟩
 ·obtain⟨d,rfl⟩:=Nat.exists_eq_add_of_le (Ca hc)
  rw[Bg] at h
  cases h
theorem B2j(Fa:Facts P.cx){α:Type}{T:α->Value->Prop}{c a:Nat}{x dx:Addr}{es:List DictEntry}{n:Nat}{ns:List Nat}{xs:List α}{Q:Value->Shared->Prop}{Y:Value->Shared->Prop}{e:Bool}
  (R:Rel P.cx P.l S) (h1:S.s.heap.get? x=some (instObj (P.cx.ca c) dx)) (h2:S.s.heap.get? dx=some (dictOf es n)) (f:FKey ns es) (h:All2 T xs (es.map (·.val))) {y:α} (hl:lk ns xs a=some y) (hf:(A0r c).contains a=true)
  (hh:∀v,T y v->handedIn v=true) (q:∀v tk,T y v->Q v {S.s with toks:=tk}):wpAny P.M P.A (getAttr (.ref x) (aNm a) e) Q Y S.s:=by
 have g:=Fa.cls c (A6f hf).2
 have w:=A8b (A6f hf).1 f h
 rw[hl] at w
 cases w with
 |yes _ v hv r=>exact get_value R.inK ⟨h1,rfl,rfl,h2⟩ g.ga (findObj_own g.has (g.fld a hf) rfl (by rw[lookIn_dict];exact hv)) (hh v r) (q v _ r)
theorem get_name(Fa:Facts P.cx){T:AVal->Value->Prop}{c a:Nat}{x dx:Addr}{es:List DictEntry}{n:Nat}{ns:List Nat}{xs:List AVal}{Q:Value->Shared->Prop}{Y:Value->Shared->Prop}{e:Bool}
  (R:Rel P.cx P.l S) (h1:S.s.heap.get? x=some (instObj (P.cx.ca c) dx)) (h2:S.s.heap.get? dx=some (dictOf es n)) (f:FKey ns es) (h:All2 T xs (es.map (·.val))) {y:AVal} (hl:lk ns xs a=none) (hc:A6i c a=some y)
  (q:∀v tk,VRep P.cx S.G y v->Q v {S.s with toks:=tk}):wpAny P.M P.A (getAttr (.ref x) (aNm a) e) Q Y S.s:=by
 unfold A6i at hc
 split at hc
 ·rename_i z
  subst z
  obtain⟨z,hz,rfl⟩:=Option.map_eq_some_iff.mp hc
  have hu:usable c=true:=by
   by_cases k:c<20
   ·have:((List.range 20).all λc=>(A6h c).isNone||usable c)=true:=by decide+kernel
    have:=Av.mp this c (B3.mpr k)
    rw[hz] at this;exact this
   ·obtain⟨d,rfl⟩:=Nat.exists_eq_add_of_le (Ca k)
    rw[Bg] at hz;cases hz
  have g:=Fa.cls c hu
  obtain⟨t,l,w⟩:=g.nm z hz
  have k:=A8b (a:=16) (by decide) f h
  rw[hl] at k
  cases k with
  |no k=>
   have sp:specialIn P.cx.K (.str ⟨z.toArray⟩ t) "__get__" =some none:=by kernel_rfl
   exact get_value R.inK ⟨h1,rfl,rfl,h2⟩ g.ga (findObj_cls g.has w sp rfl (by decide+kernel) (by rw[lookIn_dict];exact k)) rfl (q _ _ ⟨t,l⟩)
 ·cases hc
def O.W(o:O)(K:Kv):Prop:=match o with
 |.v x h=>K x h
 |.g b x h=>b=true/\K x h
 |.on o f h=>∃n,o=some n/\K (.p (f n)) h
 |.oa o h=>∃n,o=some n/\K (.p n) h
 |.ov o h=>∃n,o=some n/\K n h
 |.jn o h=>∃ss,o=some ss/\jnB ss=true/\K (.p (.str ss.flatten)) h
 |.so o h=>∃ps,o=some ps/\K (.p (.lst ((A6n ps).map A4q))) h
 |.bad=>False
theorem O.toW{o:O}(q:PR o.run K X):o.W K:=by
 cases o with
 |v x h=>exact q
 |g b x h=>cases b with
  |true=>exact⟨rfl,q⟩
  |false=>exact q.elim
 |on o f h=>cases o with
  |none=>exact q.elim
  |some n=>exact⟨n,rfl,q⟩
 |oa o h=>cases o with
  |none=>exact q.elim
  |some n=>exact⟨n,rfl,q⟩
 |ov o h=>cases o with
  |none=>exact q.elim
  |some n=>exact⟨n,rfl,q⟩
 |jn o h=>cases o with
  |none=>exact q.elim
  |some n=>
   revert q
   show PR (match jnB n with | true=>_ | false=>_) K X->_
   cases e:jnB n with
   |true=>exact λq=>⟨n,rfl,e,q⟩
   |false=>exact λq=>q.elim
 |so o h=>cases o with
  |none=>exact q.elim
  |some n=>exact⟨n,rfl,q⟩
 |bad=>exact q.elim
theorem B9j(Fa:Facts P.cx){x:V}{v:Value}{i:Nat}{e:Bool}{Y:Value->Shared->Prop}(R:Rel P.cx P.l S)(r:VR P.cx S.G S.σ x v)(q:(getO x i S.h).W K):wpAny P.M P.A (getAttr v (aNm i) e) (Okx P.cx P.l S K) Y S.s:=by
 cases x with
 |p a=>
  cases a with
  |inst c ns xs=>
   obtain⟨es,w,hs⟩:=r
   obtain⟨x,dx,n,g1,g2,f⟩:=w
   change (match lk ns xs i with | some x=>(match(A0r c).contains i with | true=>pvO x S.h | false=>O.bad) | none=>(match A6i c i with | some x=>pvO x S.h | none=>O.bad)).W K at q
   cases hl:lk ns xs i with
   |some y=>
    rw[hl] at q
    cases hf:(A0r c).contains i with
    |true=>simp only[hf] at q;exact B2j Fa R (R.stay _ _ g1) (R.stay _ _ g2) f hs.all hl hf (λ_=>handed (σ:=S.σ) (x:=.p y)) λv tk r=>A5w (a:=.p y) R r q
    |false=>simp only[hf] at q;exact q.elim
   |none=>
    rw[hl] at q
    cases hc:A6i c i with
    |some y=>simp only[hc] at q;exact get_name Fa R (R.stay _ _ g1) (R.stay _ _ g2) f hs.all hl hc λv tk r=>A5w (a:=.p y) R r q
    |none=>simp only[hc] at q;exact q.elim
  |_=>exact q.elim
 |obj c k=>
  obtain⟨x,dx,e,g⟩:=r
  obtain⟨d,o,hk,ho,w⟩:=R.cellOf e
  change (match S.h[k]? with | some d=>_ | none=>O.bad).W K at q
  rw[hk] at q
  cases d with
  |dct ns xs=>
   obtain⟨es,n,_,f,hs⟩:=w
   change (match lk ns xs i with | some x=>(match(A0r c).contains i with | true=>O.v x S.h | false=>O.bad) | none=>O.bad).W K at q
   cases hl:lk ns xs i with
   |some y=>
    rw[hl] at q
    cases hf:(A0r c).contains i with
    |true=>simp only[hf] at q;exact B2j Fa R (R.stay _ _ g) ho f hs hl hf (λ_=>handed) λv tk r=>A5w R r q
    |false=>simp only[hf] at q;exact q.elim
   |none=>rw[hl] at q;exact q.elim
  |_=>exact q.elim
 |_=>exact q.elim
theorem B6d:∀{l:List Str} {k:Nat} {x:Str} {i:Nat},sIdx k l x=some i->∃j,i=k+j/\l[j]?=some x:=by
 intro l
 induction l with
 |nil=>intro k x i h;cases h
 |cons y r ih=>
  intro k x i h
  unfold sIdx at h
  split at h
  ·rename_i q
   cases h
   exact⟨0,rfl,congrArg some (eq_of_beq q)⟩
  ·obtain⟨j,e,w⟩:=ih h
   exact⟨j+1,e.trans (Bj k 1 j),w⟩
theorem A0x{o:PySem.Expr}{a:Str}{whole:Sem Value}(h:A4k o=false):attributeBase o a env whole=whole:=by
 unfold attributeBase
 split
 ·cases h
 ·rfl
theorem B0a(Fa:Facts P.cx){v:PySem.Expr}{x:Ex}{i:Nat}{pos:Pos}(hb:A4k v=false)(h:SX P E env v x):SX P E env (.Attribute v (aNm i) pos) (.attr x i):=λS ρ K X R L q=>by
 show wpAny P.M P.A (do
   let o←attributeBase v (aNm i) env (eval v env)
   standAt pos.atName
   let r←holding [o] (getAttr o (aNm i) true)
   letTemporaryGo v o r
   pure r) _ _ _
 rw[A0x hb]
 refine B4i (h S ρ _ X R L (PR.bind q)) λS' a o n R' r q=>Ab (wpAny_standAt (Ab (wpAny_holding ?_)))
 exact Af (B9j Fa R' r (O.toW q)) (λv _ x=>Ab (wpAny_letTemporaryGo (Ad (x.le n)))) λ_ _ e=>e
end
noncomputable def opR:Op2->Operator
 |.add=> .Add | .sub=> .Sub | .mul=> .Mult | .fdiv=> .FloorDiv | .mod=> .Mod | .pow=> .Pow
inductive IsI(f:Int->O)(K:Kv):Value->Prop
 |mk (i:Int) (t:Tok) (q:(f i).W K):IsI f K (.int i t)
inductive IsS(f:List Nat->O)(K:Kv):Value->Prop
 |mk (s:List Nat) (t:Tok) (l:s.length<=sizeLine) (q:(f s).W K):IsS f K (.str ⟨s.toArray⟩ t)
inductive A2y(cx:Cx)(S:St)(xs:List AVal):Value->Prop
 |mk (a:Addr) (o:Obj) (vs:List Value) (n:Nat) (ho:S.s.heap.get? a=some {o with cls:=.type "list",data:=.seq vs.toArray n}) (l:xs.length<=sizeLine) (r:All2 (VRep cx S.G) xs vs):A2y cx S xs (.ref a)
inductive IsL(cx:Cx)(S:St)(f:List AVal->O)(K:Kv)(v:Value):Prop
 |mk (xs:List AVal) (h:A2y cx S xs v) (q:(f xs).W K):IsL cx S f K v
section
variable{P:Pl}{S:St}{K:Kv}{Y:Value->Shared->Prop}{x y:V}{vx vy:Value}
theorem oI_W{f:Int->O}(q:(oI x f).W K)(r:VR P.cx S.G S.σ x vx):IsI f K vx:=by
 cases x with
 |p a=>cases a with
  |int i=>exact r.rec λt=>⟨i,t,q⟩
  |_=>exact q.elim
 |_=>exact q.elim
theorem oS_W{f:List Nat->O}(q:(oS x f).W K)(r:VR P.cx S.G S.σ x vx):IsS f K vx:=by
 cases x with
 |p a=>cases a with
  |str i=>exact r.rec λt l=>⟨i,t,l,q⟩
  |_=>exact q.elim
 |_=>exact q.elim
inductive IsC(f:Nat->O)(K:Kv):List Nat->Prop
 |mk (c:Nat) (q:(f c).W K):IsC f K [c]
theorem oC_W{s:List Nat}{f:Nat->O}(q:(oC s f).W K):IsC f K s:=by
 cases s with
 |nil=>exact q.elim
 |cons c r=>cases r with
  |nil=>exact⟨c,q⟩
  |cons=>exact q.elim
theorem obj_is{o:Obj}{c:Value}{d:Data}(hc:o.cls=c)(hd:o.data=d):o={o with cls:=c,data:=d}:=by subst hc hd;rfl
theorem SeqAt.lst{xs:List AVal}{vs:List Value}(R:Rel P.cx P.l S)(w:SeqAt S.G "list" vs vx)(l:xs.length<=sizeLine)(r:VReps P.cx S.G xs vs):A2y P.cx S xs vx:=w.rec λa o n g c d=>⟨a,o,vs,n,obj_is c d▸R.stay _ _ g,l,r.all⟩
theorem LCell.lst{xs:List AVal}{a:Addr}{o:Obj}(ho:S.s.heap.get? a=some o)(w:LCell (VRep P.cx S.G) xs o):A2y P.cx S xs (.ref a):=w.rec (motive:=λo _=>S.s.heap.get? a=some o->A2y P.cx S xs (.ref a)) (λvs n l rs ho=>⟨a,{cls:=.type "list" },vs,n,ho,l,rs⟩) ho
noncomputable def cellL(c:Cl):Option (List AVal):=match c with | .lst xs=>some xs | .lstR _=>none | .dct _ _=>none
theorem cell_lst{xs:List AVal}{c:Cl}{a:Addr}{o:Obj}(ho:S.s.heap.get? a=some o)(w:A2g P.cx S.G S.σ c o)(e:cellL c=some xs):A2y P.cx S xs (.ref a):=by
 cases c with
 |lst ys=>exact Option.some.inj e▸LCell.lst ho w
 |_=>exact A0a e
theorem A1n(R:Rel P.cx P.l S){xs:List AVal}(e:sqV S.h x=some xs)(r:VR P.cx S.G S.σ x vx):A2y P.cx S xs vx:=by
 cases x with
 |p a=>cases a with
  |lst ys=>exact Option.some.inj e▸r.elim λvs r=>r.1.lst R r.2.1 r.2.2
  |_=>exact A0a e
 |ref k=>
  refine r.rec λa z=> ?_
  obtain⟨c,o,hk,ho,w⟩:=R.cellOf z
  change (match S.h[k]? with | some c=>cellL c | none=>none)=some xs at e
  rw[hk] at e
  exact cell_lst ho w e
 |_=>exact A0a e
theorem oL_W{f:List AVal->O}(R:Rel P.cx P.l S)(q:(oL S.h x f).W K)(r:VR P.cx S.G S.σ x vx):IsL P.cx S f K vx:=by
 unfold oL at q
 cases e:sqV S.h x with
 |none=>rw[e] at q;exact q.elim
 |some xs=>rw[e] at q;exact⟨xs,A1n R e r,q⟩
theorem A1w{i:Int}{t tk:Nat}(R:Rel P.cx P.l S)(q:K (.p (.int i)) S.h):Okx P.cx P.l S K (.int i t) {S.s with toks:=tk}:=A5w (a:=.p (.int i)) R ⟨t⟩ q
theorem A4b{s:List Nat}{t tk:Nat}(R:Rel P.cx P.l S)(l:s.length<=sizeLine)(q:K (.p (.str s)) S.h):Okx P.cx P.l S K (.str ⟨s.toArray⟩ t) {S.s with toks:=tk}:=A5w (a:=.p (.str s)) R ⟨t,l⟩ q
theorem A3a{b:Bool}{tk:Nat}(R:Rel P.cx P.l S)(q:K (.p (.bool b)) S.h):Okx P.cx P.l S K (.bool b) {S.s with toks:=tk}:=A5w (a:=.p (.bool b)) R rfl q
theorem ok_none{tk:Nat}(R:Rel P.cx P.l S)(q:K (.p .none) S.h):Okx P.cx P.l S K .none {S.s with toks:=tk}:=A5w (a:=.p .none) R rfl q
theorem A4x{k:Int}{m:Nat}(h:k.natAbs<2^m):Builtin.Int.intBits k<=m:=by
 unfold Builtin.Int.intBits
 split
 ·exact Ag _
 ·rename_i q
  exact(Nat.log2_lt λz=>q (by rw[Int.natAbs_eq_zero.mp z];rfl)).mpr h
theorem mulOk{a b:Int}(ha:a.natAbs<2^2000)(hb:b.natAbs<2^2000):IntMulOk a b:=by
 have:Builtin.Int.intTooBig ((Builtin.Int.intBits a:Int)+Builtin.Int.intBits b)=false:=
  decide_eq_false (Int.not_lt.mpr (Int.le_trans (Int.add_le_add (B7.mpr (A4x ha)) (B7.mpr (A4x hb))) (by decide)))
 unfold IntMulOk
 rw[this,Cj];exact A5
theorem flat_rep(x:Array Nat):∀(k:Nat) (acc:Array Nat),((List.replicate k x).foldl (· ++ ·) acc).toList=acc.toList++(List.replicate k x.toList).flatten:=by
 intro k
 induction k with
 |zero=>exact λacc=>(A6 _).symm
 |succ k ih=>intro acc;rw[List.replicate_succ,List.foldl_cons,ih,List.replicate_succ,List.flatten_cons,Cf,Ai]
theorem txt_mul{s:List Nat}{j:Int}(h:0<=j):Txt.mul ⟨s.toArray⟩ j=⟨((List.replicate j.toNat s).flatten).toArray⟩:=by
 unfold Txt.mul
 split
 ·rename_i q
  cases Int.le_antisymm (Int.lt_add_one_iff.mp q) h;rfl
 ·split
  ·rename_i q
   rcases Bool.or_eq_true_iff.mp q with q | q
   ·cases eq_of_beq q
    show _=(⟨(s++[]).toArray⟩:Str)
    rw[A6]
   ·cases s with
    |nil=>congr 1;generalize j.toNat=k;induction k with
     |zero=>rfl
     |succ k ih=>exact ih
    |cons=>simp[Str.length] at q
  ·congr 1
   apply Array.toList_inj.mp
   exact flat_rep s.toArray j.toNat #[]
theorem B2k{α:Type}{s:List α}{k:Nat}:((List.replicate k s).flatten).length=s.length*k:=by
 induction k with
 |zero=>rfl
 |succ k ih=>rw[List.replicate_succ,List.flatten_cons,Ae,ih,Nat.mul_succ,Bg]
theorem A2o{n:Nat}(h:n<=big):n<=sizeLine:=Aa h (by decide)
theorem flatR{R:AVal->Value->Prop}{xs:List AVal}{vs:List Value}(h:All2 R xs vs)(k:Nat):All2 R (List.replicate k xs).flatten (List.replicate k vs).flatten:=by
 induction k with
 |zero=>exact .nil
 |succ k ih=>rw[List.replicate_succ,List.replicate_succ,List.flatten_cons,List.flatten_cons];exact h.append ih
theorem mul_lst{a:Addr}{o:Obj}{vs:List Value}{m:Nat}{x:Int}{u:Tok}{Q:Value->Shared->Prop}(ho:S.s.heap.get? a=some {o with cls:=.type "list",data:=.seq vs.toArray m})
  (hlo:0<=x) (hhi:x<2^63) (hsz:vs.length*x.toNat<=2^24)
  (h:Q (.ref S.s.heap.objs.size) {S.s with heap:=S.s.heap.push {cls:=.type "list",data:=.seq (List.replicate x.toNat vs).flatten.toArray}}):wpAny P.M P.A (binaryOp .Mult (.ref a) (.int x u)) Q Y S.s:=by
 refine wpAny_binaryOp_repeat_ref (T:= "list") (U:= "int") (by decide) ⟨_,ho,rfl⟩ (λs'=>typeIs_int s' x u) noFill_list_mul F.fills_int_mul F.slot_int_rmul repeat_list F.slot_int_index.lookup
  (call_meets F.slot_int_rmul (typeIs_int S.s x u) F.entry_int_rmul (F.args_int_rmul_2 _ _) (lm_int_rmul_list_any x u a vs.toArray m o.dict o.slots)
   ⟨ho,rfl,⟨_,ho,rfl⟩,call_meets F.slot_list_mul ⟨_,ho,rfl⟩ F.entry_list_mul (F.args_list_mul_2 _ _)
    (lm_list_mul_any a vs.toArray m o.dict o.slots x u (by simp[Builtin.List.listFitsIndex];omega) (by rw[Bk];exact Nat.not_lt.mpr (Aa hsz (by decide))) (by simp[Builtin.List.listTooLong,sizeLine];omega))
    ⟨ho,?_⟩⟩)
 rw[listMul_foldl_if]
 exact h
theorem B3c(R:Rel P.cx P.l S){xs ys:List AVal}(ha:A2y P.cx S xs vx)(hb:A2y P.cx S ys vy)(hl:xs.length+ys.length<=big)(k:K (.p (.lst (xs++ys))) S.h):wpAny P.M P.A (binaryOp .Add vx vy) (Okx P.cx P.l S K) Y S.s:=by
 refine ha.rec λa o vs m ho _ hv=>hb.rec λb o' us m' ho' _ hu=> ?_
 have hlen:vs.toArray.size+us.toArray.size<=sizeLine:=by rw[Bk,Bk,hv.length,hu.length];exact A2o hl
 refine concat_meets ⟨_,ho,rfl⟩ ⟨_,ho',rfl⟩ noFill_list_add seq_list_add PySem.F.slot_list_add PySem.F.entry_list_add (PySem.F.args_list_add_2 _ _) (list_addW a b vs.toArray us.toArray m m' o.dict o'.dict o.slots o'.slots hlen) ⟨ho,ho',?_⟩
 rw[List.append_toArray]
 exact A4c (tk:=S.s.toks) R (by rw[Ae];exact A2o hl) (VReps.of (hv.append hu)) k
theorem str_cat{x y:List Nat}:((⟨x.toArray⟩:Str)++(⟨y.toArray⟩:Str))=⟨(x++y).toArray⟩:=congrArg Str.mk (List.append_toArray x y)
theorem str_mul{s:List Nat}{j:Int}{t u:Tok}(R:Rel P.cx P.l S)(h:0<=j/\j<=big/\s.length*j.toNat<=big)(q:K (.p (.str ((List.replicate j.toNat s).flatten))) S.h):wpAny P.M P.A (binaryOp .Mult (.str ⟨s.toArray⟩ t) (.int j u)) (Okx P.cx P.l S K) Y S.s:=by
 obtain⟨h0,hb,h1⟩:=h
 have hb':j<=1048576:=hb
 refine PySem.SB.mul ⟨by simp;omega,λq _=> ?_,λ_ _=> ?_⟩ λt' k=> ?_
 ·have e:((s.length*j.toNat:Nat):Int)=(s.length:Int)*j:=by rw[Int.natCast_mul,Int.toNat_of_nonneg h0]
  have:(s.length:Int)*j<=1048576:=e▸B7.mpr h1
  refine Int.not_lt.mpr ((Int.le_ediv_iff_mul_le (Int.lt_of_lt_of_le (by decide:(0:Int)<1) (Int.not_lt.mp q))).mpr (Int.le_trans ?_ (by decide:(1048576:Int)<=2^63-1)))
  exact this
 ·exact decide_eq_false (Nat.not_lt.mpr (A2o h1))
 ·rw[txt_mul h0]
  exact A4b R (by rw[B2k];exact A2o h1) q
theorem add_W(R:Rel P.cx P.l S)(ra:VR P.cx S.G S.σ x vx)(rb:VR P.cx S.G S.σ y vy)(q:(addO x y S.h).W K):wpAny P.M P.A (binaryOp .Add vx vy) (Okx P.cx P.l S K) Y S.s:=by
 cases x with
 |p a=>cases a with
  |int i=>exact ra.rec λt=>(oI_W q rb).rec λj u q=>PyProof.Rows.add_int (A1w R q)
  |str s=>exact ra.rec λt l=>(oS_W q rb).rec λz u l2 q=>PyProof.Rows.add_str (λt' tk=>str_cat▸A4b R (by rw[Ae];exact A2o (nbl q.1)) q.2) (A2o (nbl q.1))
  |lst xs=>exact(oL_W R q rb).rec λys h q=>B3c R (A1n (x:=.p (.lst xs)) R rfl ra) h (nbl q.1) q.2
  |_=>exact q.elim
 |ref k=>exact(oL_W R q ra).rec λxs h1 q=>(oL_W R q rb).rec λys h q=>B3c R h1 h (nbl q.1) q.2
 |_=>exact q.elim
theorem mul_W(R:Rel P.cx P.l S)(ra:VR P.cx S.G S.σ x vx)(rb:VR P.cx S.G S.σ y vy)(q:(mulO x y S.h).W K):wpAny P.M P.A (binaryOp .Mult vx vy) (Okx P.cx P.l S K) Y S.s:=by
 cases x with
 |p a=>cases a with
  |int i=>exact ra.rec λt=>(oI_W q rb).rec λj u q=>PySem.P.mul_int (A1w R q.2) (mulOk (Ba q.1).1 (Ba q.1).2)
  |str s=>exact ra.rec λt l=>(oI_W q rb).rec λj u q=>str_mul R (Ba q.1) q.2
  |lst xs=>
   refine(A1n (x:=.p (.lst xs)) R rfl ra).rec λa o vs m ho _ hv=>(oI_W q rb).rec λj u q=> ?_
   have h:=Ba q.1
   exact mul_lst ho h.1 (Int.lt_of_le_of_lt h.2.1 (by decide)) (by rw[hv.length];exact Aa h.2.2 (by decide)) (B6n (tk:=S.s.toks) (c:=.lst (List.replicate j.toNat xs).flatten) rfl R ⟨_,_,by rw[B2k];exact A2o h.2.2,flatR hv _⟩ q.2)
  |_=>exact q.elim
 |_=>exact q.elim
theorem mod_W{i j:Int}{t u:Tok}(R:Rel P.cx P.l S)(h:0<j)(q:K (.p (.int (i%j))) S.h):wpAny P.M P.A (binaryOp .Mod (.int i t) (.int j u)) (Okx P.cx P.l S K) Y S.s:=PyProof.Rows.mod_int' (Int.ne_of_gt h) (Int.fmod_eq_emod_of_nonneg _ (Int.le_of_lt h)▸A1w R q)
theorem fdiv_W{i j:Int}{t u:Tok}(R:Rel P.cx P.l S)(h:0<j/\j<2^29)(q:K (.p (.int (i/j))) S.h):wpAny P.M P.A (binaryOp .FloorDiv (.int i t) (.int j u)) (Okx P.cx P.l S K) Y S.s:=
 PyProof.Rows.floordiv_int (Int.ne_of_gt h.1) (Int.fdiv_eq_ediv_of_nonneg _ (Int.le_of_lt h.1)▸A1w R q) (.inl (PyProof.noPylong_small (by omega)))
theorem pow_W{i j:Int}{t u:Tok}(R:Rel P.cx P.l S)(h:i.natAbs<2^200/\0<=j/\j<=18)(q:K (.p (.int (i^j.toNat))) S.h):wpAny P.M P.A (binaryOp .Pow (.int i t) (.int j u)) (Okx P.cx P.l S K) Y S.s:=
 PyProof.Rows.pow_int h.2.1 (Int.le_trans (Int.mul_le_mul (B7.mpr (A4x h.1)) h.2.2 h.2.1 (By _)) (by decide)) (A1w R q)
theorem bin_rule{p:Op2}(R:Rel P.cx P.l S)(ra:VR P.cx S.G S.σ x vx)(rb:VR P.cx S.G S.σ y vy)(q:(binO p x y S.h).W K):wpAny P.M P.A (binaryOp (opR p) vx vy) (Okx P.cx P.l S K) Y S.s:=by
 cases p with
 |add=>exact add_W R ra rb q
 |sub=>exact(oI_W q ra).rec λi t q=>(oI_W q rb).rec λj u q=>PyProof.Rows.sub_int (A1w R q)
 |mul=>exact mul_W R ra rb q
 |mod=>exact(oI_W q ra).rec λi t q=>(oI_W q rb).rec λj u q=>mod_W R (Ba q.1) q.2
 |pow=>exact(oI_W q ra).rec λi t q=>(oI_W q rb).rec λj u q=>pow_W R (Ba q.1) q.2
 |fdiv=>exact(oI_W q ra).rec λi t q=>(oI_W q rb).rec λj u q=>fdiv_W R (Ba q.1) q.2
end
noncomputable def copR:Cop->CmpOp
 |.eq=> .Eq | .ne=> .NotEq | .lt=> .Lt | .le=> .LtE | .gt=> .Gt | .ge=> .GtE | .is=> .Is | .isnot=> .IsNot | .isin=> .In | .notin=> .NotIn
theorem B5u{s t:List Nat}(h:(⟨s.toArray⟩:Str)=⟨t.toArray⟩):s=t:=congrArg (λx:Str=>x.cps.toList) h
theorem B1a{s t:List Nat}:((⟨s.toArray⟩:Str)==⟨t.toArray⟩)=eqS s t:=by
 rw[eqS_eq]
 by_cases h:s=t
 ·rw[h,A8 rfl];exact beq_self_eq_true _
 ·rw[decide_eq_false h];exact beq_eq_false_iff_ne.mpr λe=>h (B5u e)
section
variable{P:Pl}{S:St}{K:Kv}{Y:Value->Shared->Prop}{x y:V}{vx vy:Value}
theorem B1p{m:Nat}:∀{xs:List AVal} {i:Nat} {x:AVal},A3q.depthVs xs<=m->A3n.plainVs xs=true->xs[i]?=some x->A3q x<=m/\A3n x=true:=by
 intro xs
 induction xs with
 |nil=>exact λ_ _ e=>A0a e
 |cons y ys ih=>
  intro i x d p e
  have p:=Aq.mp p
  cases i with
  |zero=>exact Option.some.inj e▸⟨Aa (Nat.le_max_left _ _) d,p.1⟩
  |succ i=>exact ih (Aa (Nat.le_max_right _ _) d) p.2 e
theorem at_arr{vs:List Value}{j:Nat}{v:Value}(e:vs[j]?=some v)(h:j<vs.toArray.size):vs.toArray[j]=v:=(Bm.mp e).2
inductive Both{α:Type}(R:α->Value->Prop)(xs:List α)(j:Nat)(v u:Value):Prop
 |mk (x:α) (e:xs[j]?=some x) (r:R x v) (r2:R x u):Both R xs j v u
theorem two_at{α:Type}{R:α->Value->Prop}{xs:List α}{vs us:List Value}(h:All2 R xs vs)(k:All2 R xs us){j:Nat}(h1:j<vs.toArray.size)(h2:j<us.toArray.size):Both R xs j vs.toArray[j] us.toArray[j]:=by
 obtain⟨x,e⟩:=A4i (l:=xs) (k:=j) (h.length▸h1)
 obtain⟨v,f,r⟩:=h.at e
 obtain⟨u,g,r2⟩:=k.at e
 exact⟨x,e,at_arr f h1▸r,at_arr g h2▸r2⟩
inductive TupAt(S:St)(vs:List Value):Value->Prop
 |mk (a:Addr) (h:IsTup S.s.heap a vs.toArray):TupAt S vs (.ref a)
theorem SeqAt.tup{vs:List Value}(R:Rel P.cx P.l S)(w:SeqAt S.G "tuple" vs vx):TupAt S vs vx:=w.rec λa o n g c d=>⟨a,⟨o,R.stay _ _ g,c,n,d⟩⟩
theorem B3a(n:Nat):((List.range n).all λ_=>true)=true:=Av.mpr λ_ _=>rfl
theorem B4b(R:Rel P.cx P.l S):∀(m:Nat) (x:AVal) (A:Around) (v u:Value),A3q x<=m->A3n x=true->A.units+m<cLine->VRep P.cx S.G x v->VRep P.cx S.G x u->SeqAt.EqAt A S.s v u true:=by
 intro m
 induction m with
 |zero=>
  intro x A v u hd hp hu r r'
  cases x with
  |none=>exact r▸r'▸SeqAt.EqAt.same _
  |bool b=>exact r▸r'▸SeqAt.EqAt.same _
  |int i=>exact r.rec λt=>r'.rec λt'=>(beq_self_eq_true i)▸SeqAt.EqAt.int_int i t i t'
  |str s=>exact r.rec λt _=>r'.rec λt' _=>(beq_self_eq_true (⟨s.toArray⟩:Str))▸SeqAt.EqAt.str_str _ t _ t'
  |tup xs=>exact absurd hd (Nat.not_succ_le_zero _)
  |_=>exact(A5 hp).elim
 |succ m ih=>
  intro x A v u hd hp hu r r'
  cases x with
  |tup xs=>
   obtain⟨vs,w,_,rs⟩:=r
   obtain⟨us,w',_,rs'⟩:=r'
   refine(w.tup R).rec λa h=>(w'.tup R).rec λb h'=> ?_
   by_cases hab:a=b
   ·subst hab;exact SeqAt.EqAt.same _
   ·have:=SeqAt.RcAt.tuples (A:=A) (s:=S.s) (e:=λ_=>true) h h' (As (Ao _ _) hu) λj h1 h2=>(two_at rs.all rs'.all h1 h2).rec λx e r r2=>
      let z:=B1p (Nat.le_of_succ_le_succ hd) hp e
      ih x A.in1 _ _ z.1 z.2 (by show A.units+1+m<cLine;rw[A7,Bg 1];exact hu) r r2
    rw[Bk,Bk,rs.all.length,rs'.all.length,beq_self_eq_true,B3a] at this
    exact SeqAt.EqAt.of_refs hab this
  |none=>exact ih _ A v u (Ag _) hp (Nat.lt_of_succ_lt hu) r r'
  |bool b=>exact ih _ A v u (Ag _) hp (Nat.lt_of_succ_lt hu) r r'
  |int b=>exact ih _ A v u (Ag _) hp (Nat.lt_of_succ_lt hu) r r'
  |str b=>exact ih _ A v u (Ag _) hp (Nat.lt_of_succ_lt hu) r r'
  |_=>exact(A5 hp).elim
theorem A3w(P:Pl):P.A.units+1000<cLine:=by
 have:=P.am.units
 have:cLine=9900:=rfl
 omega
theorem B5h{xs:List AVal}{vs us:List Value}(R:Rel P.cx P.l S)(rs:VReps P.cx S.G xs vs)(rs':VReps P.cx S.G xs us)(hp:A3n (.tup xs)=true)(hd:A3q (.tup xs)<=1000)(j:Nat)(h1:j<vs.toArray.size)(h2:j<us.toArray.size):SeqAt.EqAt P.A.in1 S.s vs.toArray[j] us.toArray[j] true:=
 (two_at rs.all rs'.all h1 h2).rec λx e r r2=>
  let z:=B1p (m:=999) (Nat.le_of_succ_le_succ hd) hp e
  B4b R 999 x P.A.in1 _ _ z.1 z.2 (by show P.A.units+1+999<cLine;rw[A7];exact A3w P) r r2
theorem B1y{x:V}(r:VR P.cx S.G S.σ x vx):(vx==Value.none)=isNV x:=by
 cases x with
 |p a=>cases a with
  |none=>exact r▸rfl
  |bool _=>exact r▸rfl
  |int _=>exact r.rec λ_=>rfl
  |str _=>exact r.rec λ_ _=>rfl
  |tup _=>exact r.elim λ_ h=>h.1.rec λ_ _ _ _ _ _=>rfl
  |lst _=>exact r.elim λ_ h=>h.1.rec λ_ _ _ _ _ _=>rfl
  |dict _ _=>exact r.elim λ_ h=>h.1.rec λ_ _ _ _ _=>rfl
  |range _ _=>exact r.rec λ_ _ _ _ _ _ _=>rfl
  |inst _ _ _=>exact r.elim λ_ h=>h.1.rec λ_ _ _ _ _ _=>rfl
 |ref _=>exact r.rec λ_ _=>rfl
 |obj _ _=>exact r.rec λ_ _ _ _=>rfl
 |tup _=>exact r.elim λ_ h=>h.1.rec λ_ _ _ _ _ _=>rfl
abbrev sK(cx:Cx):=PySem.strKind pw cx.w
theorem A7m{cx:Cx}{k:List Nat}{e:DictEntry}(h:DK cx.w.params k e):(sK cx).is ⟨k.toArray⟩ e.key=true:=h.rec λt q _=>q▸strKind_is pw cx.w _ t
theorem sk_ne{cx:Cx}{k x:List Nat}{e:DictEntry}(h:DK cx.w.params k e)(n:k≠x):(sK cx).is ⟨x.toArray⟩ e.key=false:=by
 cases q:(sK cx).is ⟨x.toArray⟩ e.key with
 |false=>rfl
 |true=>exact absurd (B5u ((sK cx).inj _ _ _ q (A7m h))).symm n
theorem A9m{f:Str->Value->Bool}{e:DictEntry}{es:List DictEntry}{x:Str}:findBy f (e::es).toArray x=(match f x e.key with | true=>some e.val | false=>findBy f es.toArray x):=by
 unfold findBy
 rw[List.find?_toArray,List.find?_toArray,List.find?_cons]
 cases f x e.key <;> rfl
inductive Fnd{α:Type}(R:α->Value->Prop)(g:Option Value):Option α->Prop
 |no (h:g=none):Fnd R g none
 |yes (x:α) (v:Value) (h:g=some v) (r:R x v):Fnd R g (some x)
theorem B2m{cx:Cx}{R:AVal->Value->Prop}(x:List Nat){ks:List (List Nat)}{es:List DictEntry}(d:DKey cx.w.params ks es):∀{xs:List AVal},All2 R xs (es.map (·.val))->Fnd R (findBy (sK cx).is es.toArray ⟨x.toArray⟩) (dlk ks xs x):=by
 induction d with
 |nil=>exact λ_=>.no rfl
 |@cons k e ks es hk _ ih=>
  intro xs h
  cases h with
  |@cons y _ ys _ hy ht=>
   rw[A9m]
   by_cases hkx:k=x
   ·subst hkx
    rw[A7m hk,dlk,if_pos rfl]
    exact .yes y _ rfl hy
   ·rw[sk_ne hk hkx,dlk,if_neg hkx]
    exact ih ht
theorem keys_of{cx:Cx}{ks:List (List Nat)}{es:List DictEntry}(d:DKey cx.w.params ks es):∀e∈es,∃k,(sK cx).is k e.key=true/\e.hash=(sK cx).hash k:=by
 induction d with
 |nil=>exact λ_ h=>nomatch h
 |@cons k e ks es hk _ ih=>
  intro e' he
  cases he with
  |head=>exact⟨⟨k.toArray⟩,A7m hk,hk.rec λ_ _ h=>h⟩
  |tail _ he=>exact ih e' he
theorem B7r{cx:Cx}(x:List Nat){ks:List (List Nat)}{es:List DictEntry}(d:DKey cx.w.params ks es):(findBy (sK cx).is es.toArray ⟨x.toArray⟩).isSome=ks.contains x:=by
 induction d with
 |nil=>rfl
 |@cons k e ks es hk _ ih=>
  rw[A9m,Br]
  by_cases hkx:k=x
  ·subst hkx;rw[A7m hk,beq_self_eq_true];rfl
  ·rw[sk_ne hk hkx,beq_eq_false_iff_ne.mpr (Ne.symm hkx)];exact ih
inductive MapAt(cx:Cx)(S:St)(es:List DictEntry):Value->Prop
 |mk (a:Addr) (z:(a==sysModules)=false) (m:S.s.heap.MapOf (sK cx) a (findBy (sK cx).is es.toArray)):MapAt cx S es (.ref a)
theorem B3e.map{ks:List (List Nat)}{es:List DictEntry}(R:Rel P.cx P.l S)(w:B3e S.G P.cx.w.params ks es vx):MapAt P.cx S es vx/\DKey P.cx.w.params ks es:=w.rec λa m g z d=>⟨⟨a,z,_,es.toArray,m,R.stay _ _ g,⟨rfl,rfl,rfl⟩,rfl,λe he=>keys_of d e (List.mem_toArray.mp he),λ_=>rfl⟩,d⟩
theorem B5s{R:AVal->Value->Prop}(hR:∀{s v},R (.str s) v->A9s s v){xs:List AVal}{vs:List Value}(h:All2 R xs vs):∀{ts:List (List Nat)},strs? xs=some ts->All2 A9s ts vs:=by
 induction h with
 |nil=>exact λe=>Option.some.inj e▸ .nil
 |@cons x v xs vs hx _ ih=>
  intro ts e
  cases x with
  |str s=>
   change (strs? xs).map (s:: ·)=some ts at e
   cases q:strs? xs with
   |none=>rw[q] at e;exact A0a e
   |some l=>rw[q] at e;exact Option.some.inj e▸ .cons (hR hx) (ih q)
  |_=>exact A0a e
noncomputable def B7n(z:List Nat)(v:Value):Bool:=match v with | .str y _=>y==⟨z.toArray⟩ | _=>false
theorem any_str{z:List Nat}{ts:List (List Nat)}{vs:List Value}(h:All2 A9s ts vs):vs.any (B7n z)=ts.contains z:=by
 induction h with
 |nil=>rfl
 |@cons t v ts vs hx _ ih=>
  rw[List.any_cons,Br,ih]
  refine congrArg (· ||_) (hx.rec λu _=> ?_)
  show((⟨t.toArray⟩:Str)==⟨z.toArray⟩)=_
  rw[B1a,eqS_eq]
  by_cases e:t=z
  ·subst e;rw[A8 rfl,beq_self_eq_true]
  ·rw[decide_eq_false e,beq_eq_false_iff_ne.mpr (Ne.symm e)]
theorem mem_all{α:Type}{R:α->Value->Prop}{xs:List α}{vs:List Value}(h:All2 R xs vs){v:Value}(hv:v∈vs):∃x,R x v:=by
 induction h with
 |nil=>cases hv
 |cons hx _ ih=>cases hv with
  |head=>exact⟨_,hx⟩
  |tail _ hv=>exact ih hv
inductive B1d(S:St)(n:Nat):Value->Prop
 |mk (a:Addr) (vs:List Value) (h:S.s.heap.IsList a vs.toArray) (l:vs.length=n):B1d S n (.ref a)
theorem A2y.len{xs:List AVal}(h:A2y P.cx S xs vx):B1d S xs.length vx:=h.rec λa o vs n ho _ r=>⟨a,vs,⟨_,ho,rfl,n,rfl⟩,r.length⟩
theorem isE_of(R:Rel P.cx P.l S){k:Nat}{e:Bool}(r:VR P.cx S.G S.σ (.ref k) vx)(q:isE S.h (.ref k)=some e):∃n,B1d S n vx/\e=Nat.beq n 0:=by
 refine r.rec λa z=> ?_
 obtain⟨c,o,hk,ho,w⟩:=R.cellOf z
 change (match S.h[k]? with | some c=>(match c with | .lst xs=>some xs.isEmpty | .lstR xs=>some xs.isEmpty | .dct _ _=>none) | none=>none)=some e at q
 rw[hk] at q
 cases c with
 |lst xs=>exact⟨xs.length,(LCell.lst ho w).len,Option.some.inj q▸by cases xs <;> rfl⟩
 |lstR xs=>exact w.rec (motive:=λo _=>S.s.heap.get? a=some o->_) (λvs n l rs ho=>⟨xs.length,⟨a,vs,⟨_,ho,rfl,n,rfl⟩,rs.length⟩,Option.some.inj q▸by cases xs <;> rfl⟩) ho
 |dct ns xs=>exact A0a q
theorem ls_eq{n:Nat}(ha:B1d S n vx)(hb:A2y P.cx S [] vy)(q:K (.p (.bool (Nat.beq n 0))) S.h)(R:Rel P.cx P.l S):wpAny P.M P.A (compareOp .Eq vx vy) (Okx P.cx P.l S K) Y S.s:=by
 refine ha.rec λa vs h l=>hb.rec λb o us m ho _ hu=> ?_
 cases hu
 have h':S.s.heap.IsList b ([]:List Value).toArray:=⟨_,ho,rfl,m,rfl⟩
 have u:=As (Ao _ 1000) (A3w P)
 cases vs with
 |nil=>cases l;exact SeqAt.RcAt.lists (e:=λ_=>true) h h' rfl u (λj h1=>absurd h1 (Nat.not_lt_zero _)) _ _ _ _ (A3a (tk:=S.s.toks) R q)
 |cons v vs=>cases l;exact SeqAt.RcAt.lists_lengths h h' (bne_iff_ne.mpr (Nat.succ_ne_zero _)) u _ _ _ _ (A3a (tk:=S.s.toks) R q)
theorem ls_ne{n:Nat}(ha:B1d S n vx)(hb:A2y P.cx S [] vy)(q:K (.p (.bool (!Nat.beq n 0))) S.h)(R:Rel P.cx P.l S):wpAny P.M P.A (compareOp .NotEq vx vy) (Okx P.cx P.l S K) Y S.s:=by
 refine ha.rec λa vs h l=>hb.rec λb o us m ho _ hu=> ?_
 cases hu
 have h':S.s.heap.IsList b ([]:List Value).toArray:=⟨_,ho,rfl,m,rfl⟩
 have u:=As (Ao _ 1000) (A3w P)
 cases vs with
 |nil=>cases l;exact SeqAt.RcNeAt.lists (e:=λ_=>true) h h' rfl u (λj h1=>absurd h1 (Nat.not_lt_zero _)) _ _ _ _ (A3a (tk:=S.s.toks) R q)
 |cons v vs=>cases l;exact SeqAt.RcNeAt.lists_lengths h h' (bne_iff_ne.mpr (Nat.succ_ne_zero _)) u _ _ _ _ (A3a (tk:=S.s.toks) R q)
inductive EmC(ne:Bool)(K:Kv)(S:St)(o:Option Bool)(cx:Cx)(v:Value):Prop
 |mk (e:Bool) (h:o=some e) (r:VR cx S.G S.σ (.p (.lst [])) v) (q:K (.p (.bool (xo ne e))) S.h):EmC ne K S o cx v
theorem em_W{e:Option Bool}{ne:Bool}(q:(emO e y S.h ne).W K)(rb:VR P.cx S.G S.σ y vy):EmC ne K S e P.cx vy:=by
 cases e with
 |none=>exact q.elim
 |some e=>cases y with
  |p b=>cases b with
   |lst ys=>cases ys with
    |nil=>exact⟨e,rfl,rb,q⟩
    |cons=>exact q.elim
   |_=>exact q.elim
  |_=>exact q.elim
theorem B5g{xs:List AVal}{vs us:List Value}(rs:VReps P.cx S.G xs vs)(rs':VReps P.cx S.G xs us):(((List.range (min vs.toArray.size us.toArray.size)).all λ_=>true)&& (vs.toArray.size==us.toArray.size))=true:=by
 rw[Bk,Bk,rs.all.length,rs'.all.length,beq_self_eq_true,B3a];rfl
theorem A3s{b c:Bool}(R:Rel P.cx P.l S)(h:c=b)(q:K (.p (.bool b)) S.h):Okx P.cx P.l S K (.bool c) S.s:=h▸A3a (tk:=S.s.toks) R q
theorem eq_W(R:Rel P.cx P.l S)(ra:VR P.cx S.G S.σ x vx)(rb:VR P.cx S.G S.σ y vy)(q:(eqO x y S.h false).W K):wpAny P.M P.A (compareOp .Eq vx vy) (Okx P.cx P.l S K) Y S.s:=by
 cases x with
 |p a=>cases a with
  |int i=>exact ra.rec λt=>(oI_W q rb).rec λj w q=>PySem.P.eq_int (A3s R (eqI_eq i j).symm q)
  |str s=>exact ra.rec λt l=>(oS_W q rb).rec λz w l2 q=>PyProof.Rows.eq_str (A3s R B1a q)
  |tup xs=>cases y with
   |p b=>cases b with
    |tup ys=>
     obtain⟨rfl,hp,hd⟩:=B5j q.1
     exact ra.elim λvs r=>rb.elim λus r'=>(r.1.tup R).rec λa h=>(r'.1.tup R).rec λb h'=>SeqAt.RcAt.tuples (e:=λ_=>true) h h' (As (Ao _ 1000) (A3w P)) (B5h R r.2.2 r'.2.2 hp hd) _ _ _ _ (A3s R (B5g r.2.2 r'.2.2) q.2)
    |_=>exact q.elim
   |_=>exact q.elim
  |lst xs=>exact(em_W (e:=some xs.isEmpty) q rb).rec λe he h q=>ls_eq (A1n (x:=.p (.lst xs)) R rfl ra).len (A1n (x:=.p (.lst [])) R rfl h) (by cases Option.some.inj he;cases xs <;> exact q) R
  |_=>exact q.elim
 |ref k=>exact(em_W (e:=isE S.h (.ref k)) q rb).rec λe he h q=>(isE_of R ra he).elim λn l=>ls_eq l.1 (A1n (x:=.p (.lst [])) R rfl h) (l.2▸q) R
 |_=>exact q.elim
theorem ne_W(R:Rel P.cx P.l S)(ra:VR P.cx S.G S.σ x vx)(rb:VR P.cx S.G S.σ y vy)(q:(eqO x y S.h true).W K):wpAny P.M P.A (compareOp .NotEq vx vy) (Okx P.cx P.l S K) Y S.s:=by
 cases x with
 |p a=>cases a with
  |int i=>exact ra.rec λt=>(oI_W q rb).rec λj w q=>PySem.P.ne_int (A3s R (congrArg not (eqI_eq i j).symm) q)
  |str s=>exact ra.rec λt l=>(oS_W q rb).rec λz w l2 q=>PyProof.Rows.ne_str (A3s R (congrArg not B1a) q)
  |bool i=>cases y with
   |p b=>cases b with
    |bool j=>exact ra▸rb▸SeqAt.RcNeAt.bool_bool _ _ _ _ _ _ (A3a (tk:=S.s.toks) R q)
    |_=>exact q.elim
   |_=>exact q.elim
  |tup xs=>cases y with
   |p b=>cases b with
    |tup ys=>
     obtain⟨rfl,hp,hd⟩:=B5j q.1
     exact ra.elim λvs r=>rb.elim λus r'=>(r.1.tup R).rec λa h=>(r'.1.tup R).rec λb h'=>SeqAt.RcNeAt.tuples (e:=λ_=>true) h h' (As (Ao _ 1000) (A3w P)) (B5h R r.2.2 r'.2.2 hp hd) _ _ _ _ (A3s R (congrArg not (B5g r.2.2 r'.2.2)) q.2)
    |_=>exact q.elim
   |_=>exact q.elim
  |lst xs=>exact(em_W (e:=some xs.isEmpty) q rb).rec λe he h q=>ls_ne (A1n (x:=.p (.lst xs)) R rfl ra).len (A1n (x:=.p (.lst [])) R rfl h) (by cases Option.some.inj he;cases xs <;> exact q) R
  |_=>exact q.elim
 |ref k=>exact(em_W (e:=isE S.h (.ref k)) q rb).rec λe he h q=>(isE_of R ra he).elim λn l=>ls_ne l.1 (A1n (x:=.p (.lst [])) R rfl h) (l.2▸q) R
 |_=>exact q.elim
theorem one_in(t:List Nat)(c:Nat):(!(Builtin.Str.occurrences ⟨t.toArray⟩ ⟨#[c]⟩ 0 (⟨t.toArray⟩:Str).length 1).isEmpty)=t.contains c:=(StrLaws.found_one _ _).trans (List.contains_eq_mem c t).symm
theorem in_W(R:Rel P.cx P.l S)(ra:VR P.cx S.G S.σ x vx)(rb:VR P.cx S.G S.σ y vy)(q:(inO x y S.h false).W K):wpAny P.M P.A (compareOp .In vx vy) (Okx P.cx P.l S K) Y S.s:=by
 refine(oS_W q ra).rec λs t l q=> ?_
 cases y with
 |p b=>cases b with
  |str z=>exact(oC_W q).rec λc q=>rb.rec λu _=>PyProof.Rows.in_str (A3s R (one_in z c) q)
  |dict ks xs=>exact rb.elim λes r=>(r.1.map R).1.rec λa z m=>wpAny_in_of (strKind_is _ _ _ t) z m (B7r s (r.1.map R).2▸A3a R q)
  |_=>exact q.elim
 |_=>exact q.elim
theorem nin_W(R:Rel P.cx P.l S)(ra:VR P.cx S.G S.σ x vx)(rb:VR P.cx S.G S.σ y vy)(q:(inO x y S.h true).W K):wpAny P.M P.A (compareOp .NotIn vx vy) (Okx P.cx P.l S K) Y S.s:=by
 refine(oS_W q ra).rec λs t l q=> ?_
 cases y with
 |p b=>cases b with
  |str z=>exact(oC_W q).rec λc q=>rb.rec λu _=>PyProof.Rows.notIn_str (A3s R (congrArg not (one_in z c)) q)
  |dict ks xs=>exact rb.elim λes r=>(r.1.map R).1.rec λa z m=>wpAny_notIn_of (strKind_is _ _ _ t) z m (B7r s (r.1.map R).2▸A3a R q)
  |lst xs=>
   change (match strs? xs with | some ts=>bO (!ts.contains s) S.h | none=>.bad:O).W K at q
   cases e:strs? xs with
   |none=>rw[e] at q;exact q.elim
   |some ts=>
    rw[e] at q
    refine(A1n (x:=.p (.lst xs)) R rfl rb).rec λa o vs m ho _ r=> ?_
    have w:=B5s (λh=>h) r e
    exact SeqAt.notIn_listAt (B7n s) ⟨_,ho,rfl,m,rfl⟩ (λy hy=>(mem_all w (List.mem_toArray.mp hy)).elim λz h=>h.rec λu _=>SeqAt.EqAt.str_str _ u _ t) (A3s R (congrArg not ((List.any_toArray ..).trans (any_str w))) q)
  |_=>exact q.elim
 |_=>exact q.elim
theorem nn_W{o:O}(q:(nnO y o).W K)(rb:VR P.cx S.G S.σ y vy):.none=vy/\o.W K:=by
 cases y with
 |p b=>cases b with
  |none=>exact⟨rb,q⟩
  |_=>exact q.elim
 |_=>exact q.elim
theorem A3k{p:Cop}(R:Rel P.cx P.l S)(ra:VR P.cx S.G S.σ x vx)(rb:VR P.cx S.G S.σ y vy)(q:(cmpO p x y S.h).W K):wpAny P.M P.A (compareOp (copR p) vx vy) (Okx P.cx P.l S K) Y S.s:=by
 cases p with
 |eq=>exact eq_W R ra rb q
 |ne=>exact ne_W R ra rb q
 |lt=>exact(oI_W q ra).rec λi t q=>(oI_W q rb).rec λj u q=>PySem.P.lt_int (A3s R (ltB_eq i j).symm q)
 |le=>exact(oI_W q ra).rec λi t q=>(oI_W q rb).rec λj u q=>PySem.P.le_int (A3s R (B7f i j).symm q)
 |gt=>exact(oI_W q ra).rec λi t q=>(oI_W q rb).rec λj u q=>PySem.P.gt_int (A3s R (ltB_eq j i).symm q)
 |ge=>exact(oI_W q ra).rec λi t q=>(oI_W q rb).rec λj u q=>PySem.P.ge_int (A3s R (B7f j i).symm q)
 |is=>exact(nn_W q rb).1▸PyProof.Rows.is_none_gen (A3s R (B1y ra) (nn_W q rb).2)
 |isnot=>exact(nn_W q rb).1▸PySem.isNot_none (A3s R (congrArg not (B1y ra)) (nn_W q rb).2)
 |isin=>exact in_W R ra rb q
 |notin=>exact nin_W R ra rb q
end
inductive A5k(n:Nat)(k:Nat):Int->Prop
 |pos (h:k<n):A5k n k (.ofNat k)
 |neg (j:Nat) (h:j+1<=n) (e:n- (j+1)=k):A5k n k (.negSucc j)
theorem B9l{α:Type}{xs:List α}{i:Int}{x:α}(h:atI xs i=some x):∃k,A5k xs.length k i/\xs[k]?=some x:=by
 cases i with
 |ofNat k=>exact⟨k,.pos (Bm.mp h).1,h⟩
 |negSucc j=>
  change (match Nat.ble (j+1) xs.length with | true=>xs[xs.length- (j+1)]? | false=>none)=some x at h
  cases q:Nat.ble (j+1) xs.length with
  |true=>rw[q] at h;exact⟨_,.neg j (nbl q) rfl,h⟩
  |false=>rw[q] at h;exact A0a h
theorem line63:(sizeLine:Int)<2^63:=by decide
theorem zero63: -(2^63)<=(0:Int):=by decide
theorem pos63:(0:Int)<2^63:=by decide
theorem A4v{k:Nat}(h:k<=sizeLine): -(2^63)<=(k:Int)/\(k:Int)<2^63:=⟨Int.le_trans zero63 (By k),Int.lt_of_le_of_lt (B7.mpr h) line63⟩
theorem neg_lim{j:Nat}(h:j+1<=sizeLine): -(2^63)<=Int.negSucc j/\Int.negSucc j<2^63:=⟨by have:=(A4v h).2;omega,Int.lt_trans (Int.negSucc_lt_zero j) pos63⟩
theorem A5k.lim{n k:Nat}{i:Int}(h:A5k n k i)(hn:n<=sizeLine): -(2^63)<=i/\i<2^63:=h.rec (λh=>A4v (Aa (Ak h) hn)) λ_ h _=>neg_lim (Aa h hn)
theorem B6r{j n:Nat}(h:j+1<=n):Int.negSucc j+(n:Int)=((n- (j+1):Nat):Int):=Int.subNatNat_of_le h
theorem seq_of{n k:Nat}{i:Int}(z:(if i<0 then i+(n:Int) else i)=(k:Int))(h:k<n):seqIndex? i n=some k:=by
 show(if(decide (0<=(if i<0 then i+(n:Int) else i))&&decide ((if i<0 then i+(n:Int) else i)<(n:Int)))=true then some (if i<0 then i+(n:Int) else i).toNat else none)=_
 rw[z,A8 (By k),A8 (Int.ofNat_lt.mpr h)];rfl
theorem A5k.seq{n k:Nat}{i:Int}(h:A5k n k i):seqIndex? i n=some k:=by
 cases h with
 |pos h=>exact seq_of (if_neg (Int.not_lt.mpr (By k))) h
 |neg j h e=>exact seq_of ((if_pos (Int.negSucc_lt_zero j)).trans ((B6r h).trans (congrArg _ e))) (e▸Nat.sub_lt (Ap (Ar j) h) (Ar j))
section
variable{P:Pl}{E:CE}{env:Env}{S S':St}{K:Kv}{X:Kx}{Y:Value->Shared->Prop}{x y:V}{vx vy:Value}
theorem A9r{vs:List Value}{k:Nat}{v:Value}(e:vs[k]?=some v):vs.toArray[k]?=some v:=(List.getElem?_toArray ..).trans e
theorem get_list{a:Addr}{vs:List Value}{k:Nat}{i:Int}{u:Tok}{v:Value}{Q:Value->Shared->Prop}(h:S.s.heap.IsList a vs.toArray)(hl:vs.length<=sizeLine)(e:A5k vs.length k i)(hx:vs[k]?=some v)(q:Q v S.s):wpAny P.M P.A (getItem (.ref a) (.int i u)) Q Y S.s:=by
 have w:=e.lim hl
 cases e with
 |pos _=>exact wpAny_getItem_list h (By k) w.2 (A9r hx) q
 |neg j l e=>
  refine wpAny_getItem_list_neg h (Int.negSucc_lt_zero j) ?_ w.1 ?_ q
  ·rw[Bk];exact Int.neg_le_neg (B7.mpr l)
  ·rw[Bk,B6r l,Int.toNat_natCast,e];exact A9r hx
inductive A4n(P:Pl)(S:St)(K:Kv)(Y:Value->Shared->Prop)(v i:Value):Prop
 |mk (T id:String) (h:S.s.TypeIs v T) (l:typeLookup (.type T) "__getitem__" =pure (some (.builtin id))) (w:wpAny P.M P.A (getItem v i) (Okx P.cx P.l S K) Y S.s):A4n P S K Y v i
theorem B7l{α:Type}{R:α->Value->Prop}{xs:List α}{vs:List Value}{a:Addr}{i:Int}{u:Tok}(h:S.s.heap.IsList a vs.toArray)(l:xs.length<=sizeLine)(r:All2 R xs vs){z:α}(e:atI xs i=some z)(q:∀v,R z v->Okx P.cx P.l S K v S.s):A4n P S K Y (.ref a) (.int i u):=by
 obtain⟨k,e1,e2⟩:=B9l e
 obtain⟨v,f,hr⟩:=r.at e2
 exact⟨"list",_,h.typeIs,PySem.F.slot_list_getitem.lookup,get_list h (r.length▸l) (r.length▸e1) f (q v hr)⟩
theorem item_t{α:Type}{R:α->Value->Prop}{xs:List α}{vs:List Value}{i:Int}{u:Tok}(h:TupAt S vs vx)(l:xs.length<=sizeLine)(r:All2 R xs vs){z:α}(e:atI xs i=some z)(q:∀v,R z v->Okx P.cx P.l S K v S.s):A4n P S K Y vx (.int i u):=by
 obtain⟨k,e1,e2⟩:=B9l e
 obtain⟨v,f,hr⟩:=r.at e2
 exact h.rec λa h=>⟨"tuple",_,h.typeIs,PySem.F.slot_tuple_getitem.lookup,PyProof.Rows.getItem_tuple (j:=k) h (e1.lim l).1 (e1.lim l).2 (by rw[Bk,r.length];exact e1.seq) (A9r f) (q v hr)⟩
theorem item_s{s:List Nat}{i:Int}{t u:Tok}(R:Rel P.cx P.l S)(l:s.length<=sizeLine){c:Nat}(e:atI s i=some c)(q:K (.p (.str [c])) S.h):A4n P S K Y (.str ⟨s.toArray⟩ t) (.int i u):=by
 obtain⟨k,e1,e2⟩:=B9l e
 have w:=e1.lim l
 refine⟨"str",_,typeIs_str _ _ _,PySem.F.slot_str_getitem.lookup,PyProof.Rows.getItem_str (c:=c) ?_ ?_ (A4b R (by decide:1<=sizeLine) q)⟩
 ·rw[decide_eq_false (Int.not_lt.mpr w.1),decide_eq_false (Int.not_le.mpr w.2)];rfl
 ·show(seqIndex? i s.toArray.size).bind _=_
  rw[Bk,e1.seq]
  exact(List.getElem?_toArray ..).trans e2
theorem B6w{xs:List V}{a:Addr}{o:Obj}(ho:S.s.heap.get? a=some o)(w:LCell (VR P.cx S.G S.σ) xs o):∃vs,S.s.heap.IsList a (List.toArray vs)/\xs.length<=sizeLine/\All2 (VR P.cx S.G S.σ) xs vs:=w.rec (motive:=λo _=>S.s.heap.get? a=some o->_) (λvs n l r ho=>⟨vs,⟨_,ho,rfl,n,rfl⟩,l,r⟩) ho
theorem sub_rule(R:Rel P.cx P.l S)(ra:VR P.cx S.G S.σ x vx)(rb:VR P.cx S.G S.σ y vy)(q:(subO x y S.h).W K):A4n P S K Y vx vy:=by
 cases x with
 |p a=>cases a with
  |str s=>exact ra.rec λt l=>(oI_W q rb).rec λi u q=>q.elim λc q=>item_s R l q.1 q.2
  |dict ks xs=>
   refine ra.elim λes r=>(oS_W q rb).rec λs u l q=>q.elim λz q=>(r.1.map R).1.rec λa _ m=> ?_
   have w:=B2m s (r.1.map R).2 r.2.all
   rw[q.1] at w
   cases w with
   |yes _ v e hv=>exact⟨"dict",_,m.typeIs,PySem.F.slot_dict_getitem.lookup,wpAny_getItem_of (strKind_is _ _ _ u) m e (A5w (a:=.p z) R hv q.2)⟩
  |lst xs=>exact(oI_W q rb).rec λi u q=>q.elim λz q=>(A1n (x:=.p (.lst xs)) R rfl ra).rec λa o vs n ho l r=>B7l ⟨_,ho,rfl,n,rfl⟩ l r q.1 λv hv=>A3o (a:=.p z) R hv q.2
  |tup xs=>exact(oI_W q rb).rec λi u q=>q.elim λz q=>ra.elim λvs r=>item_t (r.1.tup R) r.2.1 r.2.2.all q.1 λv hv=>A3o (a:=.p z) R hv q.2
  |_=>exact q.elim
 |ref k=>
  refine ra.rec λa z=> ?_
  obtain⟨c,o,hk,ho,w⟩:=R.cellOf z
  change (match S.h[k]? with | some c=>(match c with | .lst xs=>oI y λi=>.oa (atI xs i) S.h | .lstR xs=>oI y λi=>.ov (atI xs i) S.h | .dct _ _=>.bad) | none=>.bad:O).W K at q
  rw[hk] at q
  cases c with
  |lst xs=>exact(oI_W q rb).rec λi u q=>q.elim λz q=>(LCell.lst ho w).rec λa o vs n ho l r=>B7l ⟨_,ho,rfl,n,rfl⟩ l r q.1 λv hv=>A3o (a:=.p z) R hv q.2
  |lstR xs=>exact(oI_W q rb).rec λi u q=>q.elim λz q=>(B6w ho w).elim λvs h=>B7l h.1 h.2.1 h.2.2 q.1 λv hv=>A3o R hv q.2
  |dct ns xs=>exact q.elim
 |obj _ _=>exact q.elim
 |tup xs=>exact(oI_W q rb).rec λi u q=>q.elim λz q=>ra.elim λvs r=>item_t (r.1.tup R) r.2.1 r.2.2.all q.1 λv hv=>A3o R hv q.2
theorem B1k{value slice:PySem.Expr}{o i:Value}{ops:List Value}(w:A4n P S K Y o i)(hs:subscripted slice false o i=operate ops (getItem o i)):wpAny P.M P.A (subscriptTail value slice o i) (Okx P.cx P.l S K) Y S.s:=by
 refine w.rec λT id hT hl h=> ?_
 unfold subscriptTail
 refine Ab ?_
 rw[getitemInPython_of_ne hT.not_modules]
 refine Ab (wpAny_specialOf hT hl ?_)
 have fin:wpAny P.M P.A (subscripted slice false o i) (λr s₃=>wpAny P.M P.A (letTemporaryGo value o r >>= λ_=>pure r) (Okx P.cx P.l S K) Y s₃) Y S.s:=by
  rw[hs]
  exact wpAny_operate' (Af h (λr s₃ h₃=>Ab (wpAny_letTemporaryGo (Ad h₃))) λ_ _ x=>x)
 first
  |exact Ad (Ab fin)
  |exact Ab (Ad (Ab fin))
  |exact Ab fin
theorem sx_sub{v i:PySem.Expr}{x y:Ex}{pos:Pos}(hn:∀o j,subscripted i false o j=operate [o,j] (getItem o j))(h1:SX P E env v x)(h2:SX P E env i y):SX P E env (.Subscript v i pos) (.sub x y):=λS ρ K X R L q=>
 Subscript_ (Af (h1 S ρ _ X R L (PR.bind q)) (λo _ x=>x.rec λS' a n R' r q=>Af (h2 S' ρ _ X R' (L.nx n) (PR.bind q)) (λj _ x=>x.rec λS₂ b n2 R2 r2 q=>
  Af (B1k (sub_rule R2 (r.mono n2.g n2.u) r2 (O.toW q)) (hn o j)) (λ_ _=>Okx.le (n.trans n2)) λ_ _ e=>e) λ_ _=>Exx.le n) λ_ _ e=>e)
theorem A9a(a b:Nat):sliceRange (a:Int) (b:Int) 1=(List.range (b-a)).map (a+ ·):=by
 have e:(if(a:Int)<b then((b:Int)-a+1-1)/1 else 0).toNat=b-a:=by
  by_cases h:(a:Int)<b
  ·rw[if_pos h,Int.add_sub_cancel,Int.ediv_one,Int.toNat_sub]
  ·rw[if_neg h];exact(Nat.sub_eq_zero_of_le (B7.mp (Int.not_lt.mp h))).symm
 unfold sliceRange
 dsimp only
 rw[if_pos (by decide),e]
 exact List.map_congr_left λk _=>(congrArg (λx=>((a:Int)+x).toNat) (Int.one_mul (k:Int))).trans rfl
theorem picked{α:Type}(xs:List α)(a:Nat):∀k,((List.range k).map (a+ ·)).filterMap (xs[·]?)=(xs.drop a).take k:=by
 intro k
 induction k with
 |zero=>exact List.take_zero.symm
 |succ k ih=>
  rw[List.range_succ,Cp,List.filterMap_append,ih,List.take_add_one,List.getElem?_drop]
  refine congrArg (List.take k (xs.drop a)++ ·) ?_
  show List.filterMap (xs[·]?) [a+k]=_
  cases h:xs[a+k]? <;> simp[h]
theorem B1r{α:Type}(xs:List α)(a b:Nat):(sliceRange ((min a xs.length:Nat):Int) ((min b xs.length:Nat):Int) 1).filterMap (xs[·]?)=cut a b xs:=by
 rw[A9a,picked]
 unfold cut
 rw[List.drop_take]
 by_cases h:a<=xs.length
 ·rw[Ci h,List.take_eq_take_iff,List.length_drop,Nat.sub_min_sub_right,Nat.sub_min_sub_right,Nat.min_assoc,Nat.min_self]
 ·rw[List.drop_eq_nil_of_le (Ak (Nat.not_le.mp h)),Nat.min_eq_right (Ak (Nat.not_le.mp h)),List.drop_length,List.take_nil,List.take_nil]
theorem arrf{α:Type}(vs:List α):(λ(x:Nat)=>vs.toArray[x]?)=λx=>vs[x]?:=funext λ_=>List.getElem?_toArray ..
theorem B0s{α:Type}(xs:List α)(a b:Nat):(cut a b xs).Sublist xs:=(List.drop_sublist _ _).trans (List.take_sublist _ _)
theorem cut_all{z:List Nat}{a b:Nat}(h:(sliceRange ((min a z.length:Nat):Int) ((min b z.length:Nat):Int) 1).length=z.length):cut a b z=z:=by
 refine(B0s z a b).eq_of_length ?_
 rw[A9a,Aw,List.length_range] at h
 unfold cut
 rw[List.length_drop,Co]
 by_cases w:a<=z.length
 ·rw[Ci w] at h;exact h
 ·have w:=Ak (Nat.not_le.mp w)
  rw[Nat.min_eq_right w,Nat.sub_eq_zero_of_le (Nat.min_le_right _ _)] at h
  exact(Nat.sub_eq_zero_of_le (Aa (Nat.min_le_right _ _) w)).trans h
noncomputable def clipI(p:Option Int)(d:Int)(n:Nat):Int:=match p with | none=>d | some i=>max 0 (min (if i<0 then i+n else i) n)
theorem cast_min(j n:Nat):min (j:Int) n=(min j n:Nat):=by
 by_cases h:j<=n
 ·rw[Ci h,Int.min_eq_left (B7.mpr h)]
 ·rw[Nat.min_eq_right (Ak (Nat.not_le.mp h)),Int.min_eq_right (B7.mpr (Ak (Nat.not_le.mp h)))]
inductive Bnd(n d k:Nat):Value->Prop
 |mk (p:Option (Int×Tok)) (h:clipI (p.map (·.1)) d n=(min k n:Nat)) (q:IsPart (partValue p) (p.map (·.1))):Bnd n d k (partValue p)
theorem B2y{v:V}{n d k:Nat}{cv:Value}(h:hiN d v=some k)(hd:d<=n)(r:VR P.cx S.G S.σ v cv):Bnd n d k cv:=by
 cases v with
 |p a=>cases a with
  |none=>exact r▸Option.some.inj h▸ .mk none (by rw[Ci hd];rfl) .none
  |int i=>cases i with
   |ofNat j=>
    refine r.rec λt=>Option.some.inj h▸ .mk (some (_,t)) ?_ (.int _ _)
    show max 0 (min (if(j:Int)<0 then(j:Int)+(n:Int) else(j:Int)) (n:Int))=_
    rw[if_neg (Int.not_lt.mpr (By j)),cast_min]
    exact Int.max_eq_right (By _)
   |negSucc j=>exact A0a h
  |_=>exact A0a h
 |_=>exact A0a h
theorem B3k{lo hi:Option PySem.Expr}{y z:Ex}{p:Pos}{S:St}{ρ:Lo}{K:V->V->Ht->Prop}{X:Kx}{Q:Value->Shared->Prop}
  (ev:∀{S:St} {K:Kv},Rel P.cx P.l S->A0i P.cx S env E ρ->PR (runX P.o P.oi y ρ S.h) K X->wpAny P.M P.A (valueOrNone (evalOpt lo env)) (Okx P.cx P.l S K) (Exx P.cx P.l S .none X) S.s)
  (ev2:∀{S:St} {K:Kv},Rel P.cx P.l S->A0i P.cx S env E ρ->PR (runX P.o P.oi z ρ S.h) K X->wpAny P.M P.A (valueOrNone (evalOpt hi env)) (Okx P.cx P.l S K) (Exx P.cx P.l S .none X) S.s)
  (R:Rel P.cx P.l S) (L:A0i P.cx S env E ρ) (q:PR (runX P.o P.oi y ρ S.h) (λlo h=>PR (runX P.o P.oi z ρ h) (K lo) X) X)
  (hq:∀(S':St) va vb a b x,NxM S S'->Rel P.cx P.l S'->VR P.cx S'.G S'.σ va a->VR P.cx S'.G S'.σ vb b->K va vb S'.h->S'.s.heap.get? x=some {cls:=.type "slice",data:=.fields #[a,b,.none]}->Q (.ref x) S'.s):
  wpAny P.M P.A (eval (.Slice lo hi none p) env) Q (Exx P.cx P.l S .none X) S.s:=
 B4i (ev R L q) λS1 va a n1 R1 r1 q1=>Ab (wpAny_holding (Af (ev2 R1 (L.nx n1) q1) (λb _ x=>x.rec λS2 vb n2 R2 r2 q2=>
  Ab (wpAny_holding (Ad (wpAny_newObj_type (hq {S2 with s:={S2.s with heap:=S2.s.heap.push _}} va vb a b S2.s.heap.objs.size (n1.trans ⟨n2.f,n2.g,n2.u⟩) (R2.keep (tk:=S2.s.toks) A0o) (r1.mono n2.g n2.u) r2 q2 (A1i rfl)))))) λ_ _=>Exx.le n1))
theorem B3j{v lo hi:V}{cv a b:Value}{x:Addr}(R:Rel P.cx P.l S)(rv:VR P.cx S.G S.σ v cv)(ra:VR P.cx S.G S.σ lo a)(rb:VR P.cx S.G S.σ hi b)(hx:S.s.heap.get? x=some {cls:=.type "slice",data:=.fields #[a,b,.none]})
  (q:(B1l v lo hi S.h).W K):A4n P S K Y cv (.ref x):=by
 have onN:∀{o:Option Nat} {f:Nat->O},(oN o f).W K->∃k,o=some k/\(f k).W K:=λ{o f} q=>by
  cases o with
  |none=>exact q.elim
  |some k=>exact⟨k,rfl,q⟩
 have str:∀{z:List Nat} {t:Tok},z.length<=sizeLine->(oN (hiN 0 lo) λl=>oN (hiN z.length hi) λe=>pvO (.str (cut l e z)) S.h).W K->A4n P S K Y (.str ⟨z.toArray⟩ t) (.ref x):=λ{z t} l q=>by
  obtain⟨c,h1,q⟩:=onN q
  obtain⟨d,h2,q⟩:=onN q
  revert hx
  refine(B2y (n:=z.length) h1 (Ag _) ra).rec λp hp _=>(B2y (n:=z.length) h2 (Ac _) rb).rec λp' hp' _ hx=>⟨"str",_,typeIs_str _ _ _,PySem.F.slot_str_getitem.lookup,wpAny_getItem_str_slice (st:=none) ⟨_,hx,rfl,rfl⟩ rfl ?_⟩
  have e:slicePicked ⟨z.toArray⟩ p p' none=sliceRange (min c z.length:Nat) (min d z.length:Nat) 1:=by rw[←hp,←hp'];rfl
  unfold sliceMade
  rw[e]
  split
  ·rename_i hc
   have hf:=eq_of_beq (Aq.mp hc).2
   exact A4b (tk:=S.s.toks) R l (cut_all hf▸q)
  ·have w:List.filterMap (λx=>(⟨z.toArray⟩:Str).cps[x]?) (sliceRange (min c z.length:Nat) (min d z.length:Nat) 1)=cut c d z:=(congrArg (List.filterMap · _) (arrf z)).trans (B1r z c d)
   rw[w]
   have hl:(cut c d z).length<=sizeLine:=Aa (B0s _ _ _).length_le l
   exact⟨hl,A4b R hl q⟩
 have lst:∀{xs:List AVal},A2y P.cx S xs cv->(oN (hiN 0 lo) λl=>oN (hiN xs.length hi) λe=>pvO (.lst (cut l e xs)) S.h).W K->A4n P S K Y cv (.ref x):=λ{xs} w q=>by
  obtain⟨c,h1,q⟩:=onN q
  obtain⟨d,h2,q⟩:=onN q
  revert hx
  refine w.rec λa o vs n ho l r=>(B2y (n:=xs.length) h1 (Ag _) ra).rec λp hp i1=>(B2y (n:=xs.length) h2 (Ac _) rb).rec λp' hp' i2 hx=> ?_
  have hL:S.s.heap.IsList a vs.toArray:=⟨_,ho,rfl,n,rfl⟩
  refine⟨"list",_,hL.typeIs,PySem.F.slot_list_getitem.lookup,wpAny_getItem_list_slice hL ⟨_,hx,rfl,rfl⟩ i1 i2 .none (λz=>nomatch z) ?_ (by rw[Bk,r.length];exact l)⟩
  have e:slicePick vs.toArray (p.map (·.1)) (p'.map (·.1)) none=(cut c d vs).toArray:=by
   refine congrArg List.toArray (Eq.trans ?_ (B1r vs c d))
   rw[r.length,←hp,←hp',←arrf vs,←r.length];rfl
  rw[e]
  exact A4c (tk:=S.s.toks) R (Aa (B0s _ _ _).length_le l) (VReps.of ((r.take _).drop _)) q
 cases v with
 |p a=>cases a with
  |str z=>exact rv.rec λt l=>str l q
  |lst xs=>exact lst (A1n (x:=.p (.lst xs)) R rfl rv) q
  |_=>exact q.elim
 |ref k=>exact(oL_W R q rv).rec λxs w q=>lst w q
 |_=>exact q.elim
theorem PR.imp{α:Type}{r:Rs α}{K K':α->Ht->Prop}{X:Kx}(k:∀{a h},K a h->K' a h)(q:PR r K X):PR r K' X:=by
 cases r with
 |ok a h=>exact k q
 |_=>exact q
theorem sx_slice{v:PySem.Expr}{lo hi:Option PySem.Expr}{x y z:Ex}{pos p:Pos}(h0:SX P E env v x)
  (ev:∀{S:St} {ρ:Lo} {K:Kv} {X:Kx},Rel P.cx P.l S->A0i P.cx S env E ρ->PR (runX P.o P.oi y ρ S.h) K X->wpAny P.M P.A (valueOrNone (evalOpt lo env)) (Okx P.cx P.l S K) (Exx P.cx P.l S .none X) S.s)
  (ev2:∀{S:St} {ρ:Lo} {K:Kv} {X:Kx},Rel P.cx P.l S->A0i P.cx S env E ρ->PR (runX P.o P.oi z ρ S.h) K X->wpAny P.M P.A (valueOrNone (evalOpt hi env)) (Okx P.cx P.l S K) (Exx P.cx P.l S .none X) S.s):
  SX P E env (.Subscript v (.Slice lo hi none p) pos) (.slice x y z):=λS ρ K X R L q=>
 Subscript_ (Af (h0 S ρ _ X R L (PR.bind q)) (λo _ x=>x.rec λS1 r n1 R1 h1 q1=>Af (B3k (K:=λlo hi h=>PR (B1l r lo hi h).run K X) (Q:=λi s=>wpAny P.M P.A (subscriptTail v (.Slice lo hi none p) o i) (Okx P.cx P.l S K) (Exx P.cx P.l S .none X) s) ev ev2 R1 (L.nx n1) (PR.imp PR.bind (PR.bind q1))
  λS2 va vb a b x n2 R2 r1 r2 q2 hx=>Af (B1k (ops:=[.ref x,o]) (B3j R2 (h1.mono n2.g n2.u) r1 r2 hx (O.toW q2)) rfl) (λ_ _=>Okx.le (n1.trans n2)) λ_ _ e=>e) (λ_ _ e=>e) λ_ _=>Exx.le n1) λ_ _ e=>e)
end
section
variable{P:Pl}{E:CE}{env:Env}{S S':St}{K:Kv}{X:Kx}{Y:Value->Shared->Prop}
theorem sx_bin{a b:PySem.Expr}{p:Op2}{x y:Ex}{pos:Pos}(h1:SX P E env a x)(h2:SX P E env b y):SX P E env (.BinOp a (opR p) b pos) (.bin p x y):=λS ρ K X R L q=>
 B4i (h1 S ρ _ X R L (PR.bind q)) λS1 u a n1 R1 r1 q1=>Ab (wpAny_holding (Af (h2 S1 ρ _ X R1 (L.nx n1) (PR.bind q1)) (λb _ x=>x.rec λS2 w n2 R2 r2 q2=>
  Ab (wpAny_standAt (wpAny_operate' (Af (bin_rule R2 (r1.mono n2.g n2.u) r2 (O.toW q2)) (λ_ _=>Okx.le (n1.trans n2)) λ_ _ e=>e)))) λ_ _=>Exx.le n1))
theorem PR.join{α β:Type}{r:Rs α}{f:α->Ht->Rs β}{K:β->Ht->Prop}{X:Kx}(q:PR r (λa h=>PR (f a h) K X) X):PR (r.bind f) K X:=by
 cases r <;> exact q
theorem ok_b{b:Bool}{tk:Nat}{K:Bool->Ht->Prop}(R:Rel P.cx P.l S)(k:K b S.h):Okb P.cx P.l S K b {S.s with toks:=tk}:=⟨{S with s:={S.s with toks:=tk}},.g' .rfl',R.toks tk,k⟩
theorem B5k{n:Nat}{v:Value}{K:Bool->Ht->Prop}(R:Rel P.cx P.l S)(h:B1d S n v)(hn:n<=sizeLine)(q:K (!Nat.beq n 0) S.h):wpAny P.M P.A (truthy v) (Okb P.cx P.l S K) Y S.s:=by
 refine h.rec λa vs h l=>wpAny_truthy_list h ?_ ?_
 ·rw[Bk,l];exact(A4v hn).2
 ·cases l;cases vs <;> exact ok_b R q
theorem cell_len{k:Nat}{e:Bool}{vx:Value}(R:Rel P.cx P.l S)(r:VR P.cx S.G S.σ (.ref k) vx)(q:isE S.h (.ref k)=some e):∃n,B1d S n vx/\n<=sizeLine/\e=Nat.beq n 0:=by
 refine r.rec λa z=> ?_
 obtain⟨c,o,hk,ho,w⟩:=R.cellOf z
 change (match S.h[k]? with | some c=>(match c with | .lst xs=>some xs.isEmpty | .lstR xs=>some xs.isEmpty | .dct _ _=>none) | none=>none)=some e at q
 rw[hk] at q
 cases c with
 |lst xs=>exact⟨xs.length,(LCell.lst ho w).len,w.rec λ_ _ l _=>l,Option.some.inj q▸by cases xs <;> rfl⟩
 |lstR xs=>exact(B6w ho w).elim λvs h=>⟨xs.length,⟨a,vs,h.1,h.2.2.length⟩,h.2.1,Option.some.inj q▸by cases xs <;> rfl⟩
 |dct ns xs=>exact A0a q
theorem A1h{x:V}{v:Value}{K:Bool->Ht->Prop}(R:Rel P.cx P.l S)(r:VR P.cx S.G S.σ x v)(q:PR (truR x S.h) K X):wpAny P.M P.A (truthy v) (Okb P.cx P.l S K) Y S.s:=by
 cases x with
 |p a=>cases a with
  |none=>exact r▸truthy_none (ok_b (tk:=S.s.toks) R q)
  |bool b=>exact r▸wpAny_truthy_bool (ok_b (tk:=S.s.toks) R q)
  |lst xs=>exact B5k R (A1n (x:=.p (.lst xs)) R rfl r).len (r.elim λ_ h=>h.2.1) (by cases xs <;> exact q)
  |_=>exact q.elim
 |ref k=>
  change PR (match(match isE S.h (.ref k) with | some e=>some (!e) | none=>none:Option Bool) with | some b=>Rs.ok b S.h | none=>.bad) K X at q
  cases e:isE S.h (.ref k) with
  |none=>rw[e] at q;exact q.elim
  |some e'=>rw[e] at q;exact(cell_len R r e).elim λn h=>B5k R h.1 h.2.1 (h.2.2▸q)
 |_=>exact q.elim
theorem A8q{α:Type}{v:V}{h:Ht}{t f:Ht->Rs α}{K:α->Ht->Prop}(q:PR (onB (truV h v) (t h) (f h)) K X):PR (truR v h) (λb h=>PR (match b with | true=>t h | false=>f h) K X) X:=by
 unfold truR
 cases e:truV h v with
 |none=>rw[e] at q;exact q
 |some b=>rw[e] at q;cases b <;> exact q
theorem tru_v{α:Type}{v:V}{h:Ht}{f:Bool->Ht->Rs α}{K:α->Ht->Prop}(q:PR (match truV h v with | some b=>f b h | none=>.bad) K X):PR (truR v h) (λb h=>PR (f b h) K X) X:=by
 unfold truR
 cases e:truV h v with
 |none=>rw[e] at q;exact q
 |some b=>rw[e] at q;exact q
theorem tru_t{a:V}{h:Ht}{T:Ht->Rs Bool}{K:Bool->Ht->Prop}(q:PR (onB (truV h a) (T h) (truR a h)) K X):PR (truR a h) (λb h=>match b with | true=>PR (T h) K X | false=>K false h) X:=by
 unfold truR at*
 cases e:truV h a with
 |none=>rw[e] at q;exact q
 |some b=>rw[e] at q;cases b <;> exact q
theorem tru_f{a:V}{h:Ht}{T:Ht->Rs Bool}{K:Bool->Ht->Prop}(q:PR (onB (truV h a) (truR a h) (T h)) K X):PR (truR a h) (λb h=>match b with | false=>PR (T h) K X | true=>K true h) X:=by
 unfold truR at*
 cases e:truV h a with
 |none=>rw[e] at q;exact q
 |some b=>rw[e] at q;cases b <;> exact q
theorem st_of{e:PySem.Expr}{x:Ex}(h:SX P E env e x)(he:isTrue e env (eval e env)=(do let v←eval e env;standAt e.pos;holding [v] (truthy v))):ST P E env e x:=λS ρ K X R L q=>by
 rw[he]
 exact B4i (h S ρ _ X R L (PR.bind q)) λS1 a v n R1 r q=>Ab (wpAny_standAt (wpAny_holding (Af (A1h R1 r q) (λ_ _=>Okb.le n) λ_ _ e=>e)))
theorem ok_tb{b:Bool}{s:Shared}{Kb:Bool->Ht->Prop}(f:∀{b h},Kb b h->K (.p (.bool b)) h)(x:Okb P.cx P.l S Kb b s):Okx P.cx P.l S K (.bool b) s:=x.rec λS' n R k=>⟨S',.p (.bool b),n,R,rfl,f k⟩
theorem sx_not{a:PySem.Expr}{x:Ex}{pos:Pos}(h:SX P E env a x):SX P E env (.UnaryOp .Not a pos) (.not x):=λS ρ K X R L q=>
 UnaryOp_ (Af (h S ρ _ X R L (PR.bind q)) (λv _ x=>x.rec λS1 a n R1 r q=>not_of (Af (A1h (K:=λb h=>K (.p (.bool !b)) h) R1 r (tru_v q)) (λb s x=>(x.rec λS2 n2 R2 k=>⟨S2,.p (.bool !b),n.trans n2,R2,rfl,k⟩:Okx P.cx P.l S K (.bool !b) s)) λ_ _ e=>e)) λ_ _ e=>e)
theorem st_not{a:PySem.Expr}{x:Ex}{pos:Pos}(h:ST P E env a x):ST P E env (.UnaryOp .Not a pos) (.not x):=λS ρ K X R L q=>
 isTrue_not (Af (h S ρ (λb h=>K (!b) h) X R L (PR.join (PR.imp tru_v (PR.bind (PR.bind q))))) (λb s x=>x.rec λS2 n2 R2 k=>⟨S2,n2,R2,k⟩) λ_ _ e=>e)
theorem sx_neg{a:PySem.Expr}{x:Ex}{pos:Pos}(h:SX P E env a x):SX P E env (.UnaryOp .USub a pos) (.neg x):=λS ρ K X R L q=>
 UnaryOp_ (Af (h S ρ _ X R L (PR.bind q)) (λv _ x=>x.rec λS1 a n R1 r q=>(oI_W (O.toW q) r).rec λi t q=>PySem.P.neg_int ((A1w R1 q).le n)) λ_ _ e=>e)
theorem up{α:Type}{Q:α->Shared->Prop}{t:Sem α}(n:NxM S S')(h:wpAny P.M P.A t Q (Exx P.cx P.l S' .none X) S'.s):wpAny P.M P.A t Q (Exx P.cx P.l S .none X) S'.s:=Af h (λ_ _ e=>e) λ_ _=>Exx.le n
theorem sx_ite{c a b:PySem.Expr}{x y z:Ex}{pos:Pos}(h0:ST P E env c x)(h1:SX P E env a y)(h2:SX P E env b z):SX P E env (.IfExp c a b pos) (.ite x y z):=λS ρ K X R L q=>
 IfExp_ (Af (h0 S ρ (λb h=>PR (match b with | true=>runX P.o P.oi y ρ h | false=>runX P.o P.oi z ρ h) K X) X R L (PR.join (PR.imp A8q (PR.bind q)))) (λb _ x=>x.rec λS1 n R1 q=>by
  cases b with
  |true=>exact upX n (.le n) (h1 S1 ρ K X R1 (L.nx n) q)
  |false=>exact upX n (.le n) (h2 S1 ρ K X R1 (L.nx n) q)) λ_ _ e=>e)
theorem A8f{α β:Type}{o:Option Bool}{t f:Rs α}{g:α->Ht->Rs β}{K:β->Ht->Prop}(q:PR ((onB o t f).bind g) K X):PR (onB o (t.bind g) (f.bind g)) K X:=by
 cases o with
 |none=>exact q
 |some b=>cases b <;> exact q
theorem PR.bind2{α β γ:Type}{r:Rs α}{f:α->Ht->Rs β}{g:β->Ht->Rs γ}{K:γ->Ht->Prop}(q:PR ((r.bind f).bind g) K X):PR r (λa h=>PR ((f a h).bind g) K X) X:=by
 cases r <;> exact q
theorem st_ite{c a b:PySem.Expr}{x y z:Ex}{pos:Pos}(h0:ST P E env c x)(h1:ST P E env a y)(h2:ST P E env b z):ST P E env (.IfExp c a b pos) (.ite x y z):=λS ρ K X R L q=>
 isTrue_IfExp (Af (h0 S ρ (λb h=>PR (match b with | true=>(runX P.o P.oi y ρ h).bind truR | false=>(runX P.o P.oi z ρ h).bind truR) K X) X R L (PR.join (PR.imp (λq=>A8q (t:=λh=>(runX P.o P.oi y ρ h).bind truR) (f:=λh=>(runX P.o P.oi z ρ h).bind truR) (A8f q)) (PR.bind2 q)))) (λb _ x=>x.rec λS1 n R1 q=>by
  cases b with
  |true=>exact upX n (.le n) (h1 S1 ρ K X R1 (L.nx n) q)
  |false=>exact upX n (.le n) (h2 S1 ρ K X R1 (L.nx n) q)) λ_ _ e=>e)
theorem sx_and{pos:Pos}{es:List PySem.Expr}{xs:List Ex}(h:All2 (SX P E env) es xs):∀(S:St) (ρ:Lo) (K:Kv) (X:Kx),Rel P.cx P.l S->A0i P.cx S env E ρ->PR (runA P.o P.oi xs ρ S.h) K X->wpAny P.M P.A (eval (.BoolOp .And es pos) env) (Okx P.cx P.l S K) (Exx P.cx P.l S .none X) S.s:=by
 induction h with
 |nil=>exact λ_ _ _ _ _ _ q=>q.elim
 |cons h t ih=>
  intro S ρ K X R L q
  cases t with
  |nil=>exact BoolOp_one (h S ρ K X R L q)
  |cons h2 t2=>
   refine BoolOp_and (Af (h S ρ _ X R L (PR.bind q)) (λv _ x=>x.rec λS1 a n R1 r q=>Af (A1h R1 r (A8q (f:=λh=>.ok a h) q)) (λb s x=>x.rec λS2 n2 R2 q=> ?_) λ_ _ e=>e) λ_ _ e=>e)
   cases b with
   |true=>exact upX (n.trans n2) (.le (n.trans n2)) (ih S2 ρ K X R2 (L.nx (n.trans n2)) q)
   |false=>exact⟨S2,a,n.trans n2,R2,r.mono n2.g n2.u,q⟩
theorem sx_or{pos:Pos}{es:List PySem.Expr}{xs:List Ex}(h:All2 (SX P E env) es xs):∀(S:St) (ρ:Lo) (K:Kv) (X:Kx),Rel P.cx P.l S->A0i P.cx S env E ρ->PR (runO P.o P.oi xs ρ S.h) K X->wpAny P.M P.A (eval (.BoolOp .Or es pos) env) (Okx P.cx P.l S K) (Exx P.cx P.l S .none X) S.s:=by
 induction h with
 |nil=>exact λ_ _ _ _ _ _ q=>q.elim
 |cons h t ih=>
  intro S ρ K X R L q
  cases t with
  |nil=>exact BoolOp_one (h S ρ K X R L q)
  |cons h2 t2=>
   refine BoolOp_or (Af (h S ρ _ X R L (PR.bind q)) (λv _ x=>x.rec λS1 a n R1 r q=>Af (A1h R1 r (A8q (t:=λh=>.ok a h) q)) (λb s x=>x.rec λS2 n2 R2 q=> ?_) λ_ _ e=>e) λ_ _ e=>e)
   cases b with
   |false=>exact upX (n.trans n2) (.le (n.trans n2)) (ih S2 ρ K X R2 (L.nx (n.trans n2)) q)
   |true=>exact⟨S2,a,n.trans n2,R2,r.mono n2.g n2.u,q⟩
theorem st_and{pos:Pos}{whole:Sem Value}{es:List PySem.Expr}{xs:List Ex}(h:All2 (ST P E env) es xs):∀(S:St) (ρ:Lo) (K:Bool->Ht->Prop) (X:Kx),Rel P.cx P.l S->A0i P.cx S env E ρ->PR ((runA P.o P.oi xs ρ S.h).bind truR) K X->wpAny P.M P.A (isTrue (.BoolOp .And es pos) env whole) (Okb P.cx P.l S K) (Exx P.cx P.l S .none X) S.s:=by
 induction h with
 |nil=>exact λ_ _ _ _ _ _ q=>q.elim
 |@cons e x es xs h t ih=>
  intro S ρ K X R L q
  cases t with
  |nil=>exact isTrue_and (Af (h S ρ K X R L q) (λb s x=>by cases b with | true=>exact isTrue_and_nil x | false=>exact x) λ_ _ e=>e)
  |@cons e2 x2 es xs h2 t2=>
   refine isTrue_and (Af (h S ρ (λb h=>match b with | true=>PR ((runA P.o P.oi (x2::xs) ρ h).bind truR) K X | false=>K false h) X R L (PR.join (PR.imp (λq=>tru_t (T:=λh=>(runA P.o P.oi (x2::xs) ρ h).bind truR) (A8f q)) (PR.bind2 q)))) (λb s x=>x.rec λS2 n2 R2 q=> ?_) λ_ _ e=>e)
   cases b with
   |true=>exact upX n2 (.le n2) (ih S2 ρ K X R2 (L.nx n2) q)
   |false=>exact⟨S2,n2,R2,q⟩
theorem st_or{pos:Pos}{whole:Sem Value}{es:List PySem.Expr}{xs:List Ex}(h:All2 (ST P E env) es xs):∀(S:St) (ρ:Lo) (K:Bool->Ht->Prop) (X:Kx),Rel P.cx P.l S->A0i P.cx S env E ρ->PR ((runO P.o P.oi xs ρ S.h).bind truR) K X->wpAny P.M P.A (isTrue (.BoolOp .Or es pos) env whole) (Okb P.cx P.l S K) (Exx P.cx P.l S .none X) S.s:=by
 induction h with
 |nil=>exact λ_ _ _ _ _ _ q=>q.elim
 |@cons e x es xs h t ih=>
  intro S ρ K X R L q
  cases t with
  |nil=>exact isTrue_or (Af (h S ρ K X R L q) (λb s x=>by cases b with | false=>exact isTrue_or_nil x | true=>exact x) λ_ _ e=>e)
  |@cons e2 x2 es xs h2 t2=>
   refine isTrue_or (Af (h S ρ (λb h=>match b with | false=>PR ((runO P.o P.oi (x2::xs) ρ h).bind truR) K X | true=>K true h) X R L (PR.join (PR.imp (λq=>tru_f (T:=λh=>(runO P.o P.oi (x2::xs) ρ h).bind truR) (A8f q)) (PR.bind2 q)))) (λb s x=>x.rec λS2 n2 R2 q=> ?_) λ_ _ e=>e)
   cases b with
   |false=>exact upX n2 (.le n2) (ih S2 ρ K X R2 (L.nx n2) q)
   |true=>exact⟨S2,n2,R2,q⟩
theorem sx_cmp{a b:PySem.Expr}{p:Cop}{x y:Ex}{pos:Pos}(hs:behindInMarks (copR p) b=false)(h1:SX P E env a x)(h2:SX P E env b y):SX P E env (.Compare a [copR p] [b] pos) (.cmp p x y):=λS ρ K X R L q=>by
 show wpAny P.M P.A (do compareChain pos (←eval a env) [copR p] (markedEach [copR p] [b] (evalEach [b] env))) _ _ _
 rw[markedEach_of_false _ _ _ (by exact hs)]
 exact B4i (h1 S ρ _ X R L (PR.bind q)) λS1 u va n1 R1 r1 q1=>chain_last (Af (h2 S1 ρ _ X R1 (L.nx n1) (PR.bind q1)) (λvb _ x=>x.rec λS2 w n2 R2 r2 q2=>
  Af (A3k R2 (r1.mono n2.g n2.u) r2 (O.toW q2)) (λ_ _=>Okx.le (n1.trans n2)) λ_ _ e=>e) λ_ _=>Exx.le n1)
theorem st_cmp{a b:PySem.Expr}{p:Cop}{x y:Ex}{pos:Pos}(hs:behindInMarks (copR p) b=false)(h1:SX P E env a x)(h2:SX P E env b y):ST P E env (.Compare a [copR p] [b] pos) (.cmp p x y):=λS ρ K X R L q=>by
 show wpAny P.M P.A (do testChain pos (←eval a env) [copR p] (markedEach [copR p] [b] (evalEach [b] env))) _ _ _
 rw[markedEach_of_false _ _ _ (by exact hs)]
 exact B4i (h1 S ρ _ X R L (PR.bind2 q)) λS1 u va n1 R1 r1 q1=>test_last (Af (h2 S1 ρ _ X R1 (L.nx n1) (PR.bind2 q1)) (λvb _ x=>x.rec λS2 w n2 R2 r2 q2=>
  Af (A3k R2 (r1.mono n2.g n2.u) r2 (O.toW (PR.bind q2))) (λv _ x=>x.rec λS3 z n3 R3 r3 q3=>Af (A1h R3 r3 q3) (λ_ _=>Okb.le ((n1.trans n2).trans n3)) λ_ _ e=>e) λ_ _ e=>e) λ_ _=>Exx.le n1)
theorem sx_cmp2{a b c:PySem.Expr}{p p':Cop}{x y z:Ex}{pos:Pos}(hs:lastMarks [copR p,copR p'] [b,c]=false)(h1:SX P E env a x)(h2:SX P E env b y)(h3:SX P E env c z):
  SX P E env (.Compare a [copR p,copR p'] [b,c] pos) (.cmp2 p p' x y z):=λS ρ K X R L q=>by
 refine Compare_chain (Af (h1 S ρ _ X R L (PR.bind q)) (λva _ x=>x.rec λS1 u n1 R1 r1 q1=>chain_link (Af (h2 S1 ρ _ X R1 (L.nx n1) (PR.bind q1)) (λvb _ x=>x.rec λS2 w n2 R2 r2 q2=>
  Af (A3k R2 (r1.mono n2.g n2.u) r2 (O.toW (PR.bind q2))) (λv _ x=>x.rec λS3 t n3 R3 r3 q3=>Af (A1h R3 r3 (A8q (t:=λh=>(runX P.o P.oi z ρ h).bind λz h4=>(cmpO p' w z h4).run) (f:=λh=>.ok t h) q3)) (λb _ x=>x.rec λS4 n4 R4 q4=> ?_) λ_ _ e=>e) λ_ _ e=>e) λ_ _=>Exx.le n1)) λ_ _ e=>e) hs
 have n:=((n1.trans n2).trans n3).trans n4
 cases b with
 |false=>exact⟨S4,t,n,R4,r3.mono n4.g n4.u,q4⟩
 |true=>exact chain_last (Af (h3 S4 ρ _ X R4 (L.nx n) (PR.bind q4)) (λvc _ x=>x.rec λS5 w5 n5 R5 r5 q5=>
   Af (A3k R5 (r2.mono ((n3.trans n4).trans n5).g ((n3.trans n4).trans n5).u) r5 (O.toW q5)) (λ_ _=>Okx.le (n.trans n5)) λ_ _ e=>e) λ_ _=>Exx.le n)
theorem st_cmp2{a b c:PySem.Expr}{p p':Cop}{x y z:Ex}{pos:Pos}(hs:lastMarks [copR p,copR p'] [b,c]=false)(h1:SX P E env a x)(h2:SX P E env b y)(h3:SX P E env c z):
  ST P E env (.Compare a [copR p,copR p'] [b,c] pos) (.cmp2 p p' x y z):=λS ρ K X R L q=>by
 refine isTrue_chain (Af (h1 S ρ _ X R L (PR.bind2 q)) (λva _ x=>x.rec λS1 u n1 R1 r1 q1=>test_link (Af (h2 S1 ρ _ X R1 (L.nx n1) (PR.bind2 q1)) (λvb _ x=>x.rec λS2 w n2 R2 r2 q2=>
  Af (A3k R2 (r1.mono n2.g n2.u) r2 (O.toW (PR.bind2 q2))) (λv _ x=>x.rec λS3 t n3 R3 r3 q3=>Af (A1h R3 r3 (tru_t (T:=λh=>((runX P.o P.oi z ρ h).bind λz h4=>(cmpO p' w z h4).run).bind truR) (A8f q3))) (λb _ x=>x.rec λS4 n4 R4 q4=> ?_) λ_ _ e=>e) λ_ _ e=>e) λ_ _=>Exx.le n1)) λ_ _ e=>e) hs
 have n:=((n1.trans n2).trans n3).trans n4
 cases b with
 |false=>exact⟨S4,n,R4,q4⟩
 |true=>exact test_last (Af (h3 S4 ρ _ X R4 (L.nx n) (PR.bind2 q4)) (λvc _ x=>x.rec λS5 w5 n5 R5 r5 q5=>
   Af (A3k R5 (r2.mono ((n3.trans n4).trans n5).g ((n3.trans n4).trans n5).u) r5 (O.toW (PR.bind q5))) (λv _ x=>x.rec λS6 z n6 R6 r6 q6=>Af (A1h R6 r6 q6) (λ_ _=>Okb.le ((n.trans n5).trans n6)) λ_ _ e=>e) λ_ _ e=>e) λ_ _=>Exx.le n)
end
theorem B5q(s:List Nat)(c i:Nat):Builtin.Str.subAt ⟨s.toArray⟩ ⟨#[c]⟩ i=decide (s[i]?=some c):=by
 unfold Builtin.Str.subAt
 have e:(⟨s.toArray⟩:Str).cps.extract i (i+(⟨#[c]⟩:Str).length)=(s[i]?.toList).toArray:=by
  show s.toArray.extract i (i+1)=_
  rw[List.extract_toArray,List.extract_eq_take_drop,Cv,List.take_one,List.head?_drop]
 rw[e]
 cases h:s[i]? with
 |none=>rfl
 |some d=>
  show([d].toArray==[c].toArray)=_
  by_cases hd:d=c
  ·subst hd;rw[A8 rfl,beq_self_eq_true]
  ·rw[decide_eq_false λz=>hd (Option.some.inj z)]
   exact beq_eq_false_iff_ne.mpr λz=>hd (List.cons.inj (congrArg Array.toList z)).1
noncomputable def places(c:Nat):Nat->List Nat->List Nat
 |_,[]=> []
 |k,x::r=>if x=c then k::places c (k+1) r else places c (k+1) r
open Builtin.Str StrLaws in
theorem occ_run(s:List Nat)(c limit:Nat):∀(m k free:Nat) (found:Array Nat),m+k=s.length->free<=k->
  (forIn (List.range' k (m+1)) (found,free) (occBody ⟨s.toArray⟩ ⟨#[c]⟩ s.length limit)).run.fst.toList=found.toList++(places c k (s.drop k)).take (limit-found.size):=by
 intro m
 induction m with
 |zero=>
  intro k free found hk hf
  rw[Bc] at hk
  subst hk
  rw[List.range'_one,List.forIn_cons,List.drop_length]
  unfold occBody
  rw[if_neg λh=>Cs _ h.1.2]
  exact((congrArg (found.toList++ ·) List.take_nil).trans (A6 _)).symm
 |succ m ih=>
  intro k free found hk hf
  have hlt:k<s.length:=hk▸Nat.lt_add_of_pos_left (Ar m)
  have hk':m+(k+1)=s.length:=(Cr m k)▸hk
  rw[List.range'_succ,List.forIn_cons,List.drop_eq_getElem_cons hlt]
  unfold occBody
  have hs:Builtin.Str.subAt ⟨s.toArray⟩ ⟨#[c]⟩ k=decide (s[k]=c):=by rw[B5q,B4 hlt];exact decide_eq_decide.mpr ⟨Option.some.inj,congrArg some⟩
  rw[hs,places]
  by_cases hc:s[k]=c
  ·rw[A8 hc,if_pos hc]
   by_cases hl:found.size<limit
   ·rw[if_pos ⟨⟨⟨hl,hf⟩,hlt⟩,rfl⟩,show limit-found.size=(limit- (found.push k).size)+1 by rw[Array.size_push,Nat.sub_succ];exact(Nat.succ_pred_eq_of_pos (Nat.sub_pos_of_lt hl)).symm,List.take_succ_cons]
    refine(ih (k+1) (k+1) (found.push k) hk' (Ac _)).trans ?_
    rw[Array.toList_push,Ai];rfl
   ·rw[if_neg λh=>hl h.1.1.1]
    refine(ih (k+1) free found hk' (Az hf)).trans ?_
    rw[Nat.sub_eq_zero_of_le (Ca hl)];rfl
  ·rw[decide_eq_false hc,if_neg hc,if_neg λh=>A5 h.2]
   exact ih (k+1) free found hk' (Az hf)
open Builtin.Str in
theorem B6p(s:List Nat)(c limit:Nat):occurrences ⟨s.toArray⟩ ⟨#[c]⟩ 0 (⟨s.toArray⟩:Str).length limit=(places c 0 s).take limit:=by
 rw[StrLaws.occ_eq]
 exact occ_run s c limit s.length 0 0 #[] rfl (Ac _)
theorem B3p(c:Nat):∀(s:List Nat) (k:Nat),(places c k s).head?=(A2b c s).map (k+ ·):=by
 intro s
 induction s with
 |nil=>exact λ_=>rfl
 |cons x r ih=>
  intro k
  rw[places,A2b]
  by_cases h:x=c
  ·rw[if_pos h,if_pos h];rfl
  ·rw[if_neg h,if_neg h,ih,Option.map_map]
   exact congrArg (Option.map · (A2b c r)) (funext λi=>Cr k i)
theorem B5f(c:Nat)(h:c<128):Txt.lower ⟨#[c]⟩=⟨#[lowC c]⟩:=by
 have:∀c:Fin 128,Txt.lower ⟨#[c.1]⟩=⟨#[lowC c.1]⟩:=by decide+kernel
 exact this ⟨c,h⟩
theorem join_acc:∀(r:List (List Nat)) (acc:List Nat),((r.map λz=>(⟨z.toArray⟩:Str)).foldl (λacc p=>acc++(⟨([]:List Nat).toArray⟩:Str).cps++p.cps) acc.toArray)=(acc++r.flatten).toArray:=by
 intro r
 induction r with
 |nil=>intro acc;rw[List.flatten_nil,A6];rfl
 |cons x r ih=>
  intro acc
  rw[List.map_cons,List.foldl_cons,List.flatten_cons,←Ai,←ih]
  exact congrArg (λa=>List.foldl _ a _) ((congrArg (· ++x.toArray) (List.append_toArray acc [])).trans ((congrArg (λz:List Nat=>z.toArray++x.toArray) (A6 acc)).trans (List.append_toArray acc x)))
theorem B7i(ss:List (List Nat)):Txt.join ⟨([]:List Nat).toArray⟩ (ss.map λz=>⟨z.toArray⟩)=⟨ss.flatten.toArray⟩:=by
 unfold Txt.join Builtin.Str.glued
 cases ss with
 |nil=>rfl
 |cons x r=>exact congrArg Str.mk (join_acc r x)
theorem len_acc:∀(r:List (List Nat)) (n:Nat),(r.map λz=>(⟨z.toArray⟩:Str)).foldl (λa p=>a+p.length+(⟨([]:List Nat).toArray⟩:Str).length) n=n+r.flatten.length:=by
 intro r
 induction r with
 |nil=>intro n;rfl
 |cons x r ih=>intro n;rw[List.map_cons,List.foldl_cons,ih,List.flatten_cons,Ae,←A7];rfl
theorem B7j(ss:List (List Nat))(h:ss.flatten.length<=big):JoinOk ⟨([]:List Nat).toArray⟩ (ss.map λz=>⟨z.toArray⟩)=true:=by
 unfold JoinOk
 rw[List.foldl_toArray,len_acc,Bc]
 show(!decide (ss.flatten.length>sizeLine))=true
 rw[decide_eq_false (Nat.not_lt.mpr (A2o h))];rfl
theorem A3r(s:List Nat)(i j:Nat):Builtin.Str.strSub ⟨s.toArray⟩ i j=⟨(cut i j s).toArray⟩:=by
 unfold Builtin.Str.strSub cut
 rw[List.drop_take]
 exact congrArg Str.mk ((List.extract_toArray ..).trans (congrArg List.toArray (List.extract_eq_take_drop ..)))
noncomputable def B2u(w:List Nat)(b:Nat):List Nat->List (List Nat)
 |[]=> [cut b w.length w]
 |k::ks=>cut b k w::B2u w (k+1) ks
theorem B4d:∀(s pre:List Nat) (b:Nat),b<=pre.length->B2u (pre++s) b (places 10 pre.length s)=(A0n s).modifyHead (pre.drop b++ ·)/\A0n s≠[]:=by
 intro s
 induction s with
 |nil=>exact λpre b hb=>⟨by rw[A6];exact congrArg (λz=> [List.drop b z]) List.take_length |>.trans (congrArg (λz=> [z]) (A6 _).symm),λh=>nomatch h⟩
 |cons c r ih=>
  intro pre b hb
  have e:pre++c::r=(pre++[c])++r:=(Ai pre [c] r).symm
  have l:(pre++[c]).length=pre.length+1:=Ae
  rw[places,A0n]
  by_cases hc:c=10
  ·rw[if_pos hc,if_pos hc]
   refine⟨?_,λh=>nomatch h⟩
   have w:=(ih (pre++[c]) (pre.length+1) (Aj l.symm)).1
   rw[l,←e] at w
   show cut b pre.length (pre++c::r)::B2u (pre++c::r) (pre.length+1) _=(pre.drop b++[])::A0n r
   rw[w,cut,List.take_left',A6]
   ·refine congrArg (_:: ·) ?_
    cases A0n r with
    |nil=>rfl
    |cons x xs=>show(List.drop (pre.length+1) (pre++[c])++x)::xs=_;rw[List.drop_eq_nil_of_le (Aj l)];rfl
   ·rfl
  ·rw[if_neg hc,if_neg hc]
   have w:=ih (pre++[c]) b (Aa hb (l▸A9 _))
   rw[l,←e] at w
   revert w
   cases A0n r with
   |nil=>exact λw=>absurd rfl w.2
   |cons x xs=>exact λw=>⟨w.1.trans (congrArg (· ::xs) (by rw[List.drop_append_of_le_length hb];exact Ai _ [c] x)),λh=>nomatch h⟩
theorem B3r(w:List Nat):∀(ks:List Nat) (b:Nat),((b::ks.map (· +1)).zip (ks++[w.length])).map (λ(p:Nat×Nat)=>Builtin.Str.strSub ⟨w.toArray⟩ p.1 p.2)=(B2u w b ks).map λz=>⟨z.toArray⟩:=by
 intro ks
 induction ks with
 |nil=>exact λb=>congrArg (λz=> [z]) (A3r ..)
 |cons k ks ih=>exact λb=>(congrArg (_:: ·) (ih (k+1))).trans (congrArg (· ::_) (A3r ..))
theorem parts_NL(s:List Nat):Builtin.Str.partsBetween ⟨s.toArray⟩ (places 10 0 s) (⟨#[10]⟩:Str).length=(A0n s).map λz=>⟨z.toArray⟩:=by
 refine(B3r s (places 10 0 s) 0).trans (congrArg (List.map _) ?_)
 refine(B4d s [] 0 (Ac _)).1.trans ?_
 cases A0n s <;> rfl
theorem B3o(s:List Nat):∀(k:Nat),(places 10 k s).length<=s.length:=by
 induction s with
 |nil=>exact λ_=>Ac _
 |cons x r ih=>
  intro k
  rw[places]
  by_cases h:x=10
  ·rw[if_pos h];exact Ah (ih _)
  ·rw[if_neg h];exact Az (ih _)
theorem occ_all(s:List Nat):Builtin.Str.occurrences ⟨s.toArray⟩ ⟨#[10]⟩ 0 (⟨s.toArray⟩:Str).length ((⟨s.toArray⟩:Str).length+1)=places 10 0 s:=
 (B6p ..).trans (List.take_of_length_le (Az (B3o s 0)))
theorem A2r(s:List Nat):(∀t∈A0n s,t.length<=s.length)/\(A0n s).length<=s.length+1:=by
 induction s with
 |nil=>exact⟨List.forall_mem_cons.mpr ⟨Ac _,λ_ h=>nomatch h⟩,Ac _⟩
 |cons c r ih=>
  rw[A0n]
  by_cases h:c=10
  ·rw[if_pos h]
   exact⟨List.forall_mem_cons.mpr ⟨Ag _,λt ht=>Az (ih.1 t ht)⟩,Ah ih.2⟩
  ·rw[if_neg h]
   revert ih
   cases A0n r with
   |nil=>exact λ_=>⟨List.forall_mem_cons.mpr ⟨Ah (Ag _),λ_ h=>nomatch h⟩,Ah (Ag _)⟩
   |cons x xs=>exact λih=>⟨List.forall_mem_cons.mpr ⟨Ah (ih.1 x (.head _)),λt ht=>Az (ih.1 t (.tail _ ht))⟩,Az ih.2⟩
theorem B5r{ts:List (List Nat)}{vs:List Value}(h:All2 A9s ts vs):∃ps:List (Str×Tok),vs=strValues ps/\ps.map (·.1)=ts.map λz=>⟨z.toArray⟩:=by
 induction h with
 |nil=>exact⟨[],rfl,rfl⟩
 |cons hx _ ih=>exact ih.elim λps h=>hx.rec λt _=>⟨(_,t)::ps,congrArg _ h.1,congrArg _ h.2⟩
theorem A8y{cx:Cx}{G:GM}:∀{ps:List (Str×Tok)} {ts:List (List Nat)},ps.map (·.1)=ts.map (λz=>(⟨z.toArray⟩:Str))->(∀t∈ts,t.length<=sizeLine)->VReps cx G (ts.map .str) (strValues ps):=by
 intro ps
 induction ps with
 |nil=>intro ts h _;cases ts with
  |nil=>rfl
  |cons=>cases h
 |cons p ps ih=>intro ts h hl;cases ts with
  |nil=>cases h
  |cons t ts=>
   have h:=List.cons.inj h
   refine⟨?_,ih h.2 λt ht=>hl t (.tail _ ht)⟩
   show A9s t (.str p.1 p.2)
   rw[show p.1=(⟨t.toArray⟩:Str) from h.1]
   exact⟨p.2,hl t (.head _)⟩
noncomputable def mId:Nat->String
 |11=> "str.join" | 40=> "str.index" | 51=> "str.lower" | 53=> "str.split" | 13=> "list.append" | 52=> "list.pop" | 25=> "list.reverse" | _=> "dict.get"
theorem anm:aNm 11= "join" /\aNm 40= "index" /\aNm 51= "lower" /\aNm 53= "split" /\aNm 13= "append" /\aNm 52= "pop" /\aNm 25= "reverse" /\aNm 15= "get" :=by decide+kernel
theorem B7z{m a b c d:Nat}(h:[a,b,c,d].contains m=true):m=a∨m=b∨m=c∨m=d:=
 (Bf.mp (A4.mp h)).imp id λh=>(Bf.mp h).imp id λh=>(Bf.mp h).imp id Bo.mp
theorem B1i{m a b c:Nat}(h:[a,b,c].contains m=true):m=a∨m=b∨m=c:=
 (Bf.mp (A4.mp h)).imp id λh=>(Bf.mp h).imp id Bo.mp
section
variable{P:Pl}{E:CE}{env:Env}{S S':St}{K:Kv}{X:Kx}{Y:Value->Shared->Prop}{x:V}{vx:Value}
inductive NoD(S:St):Value->Prop
 |mk (a:Addr) (o:Obj) (h:S.s.heap.get? a=some o) (c:o.cls=.type "list") (d:o.dict=none):NoD S (.ref a)
theorem B7w{m:Nat}{pl:Sem Bool}{Q:Value×List Value->Shared->Prop}(h:NoD S vx)(hm:[13,52,25].contains m=true)(q:Q (.builtin (mId m),[vx]) S.s):wpAny P.M P.A (getMethod vx (aNm m) pl) Q Y S.s:=by
 revert q
 refine h.rec λa o ho hc hd q=> ?_
 have nd:∀b,Value.ref a=.ref b->∃o,S.s.heap.get? b=some o/\o.dict=none:=λb e=>Value.ref.inj e▸⟨o,ho,hd⟩
 rcases B1i hm with rfl | rfl | rfl
 ·rw[anm.2.2.2.2.1];exact getMethod_builtin ⟨_,ho,hc⟩ PySem.F.plainAttrs_list PySem.F.slot_list_append PySem.F.type_list_append nd q
 ·rw[anm.2.2.2.2.2.1];exact getMethod_builtin ⟨_,ho,hc⟩ PySem.F.plainAttrs_list PySem.F.slot_list_pop PySem.F.type_list_pop nd q
 ·rw[anm.2.2.2.2.2.2.1];exact getMethod_builtin ⟨_,ho,hc⟩ PySem.F.plainAttrs_list PySem.F.slot_list_reverse PySem.F.type_list_reverse nd q
theorem B2v{k m:Nat}(R:Rel P.cx P.l S)(r:VR P.cx S.G S.σ (.ref k) vx)(h:mokB (.ref k) m S.h=true):NoD S vx/\[13,52,25].contains m=true:=by
 refine r.rec λa z=> ?_
 obtain⟨c,o,hk,ho,w⟩:=R.cellOf z
 change (match [13,52,25].contains m with | true=>(match S.h[k]? with | some d=>(match d with | .lst _=>true | .lstR _=>true | .dct _ _=>false) | none=>false) | false=>false)=true at h
 cases e:[13,52,25].contains m with
 |false=>rw[e] at h;cases h
 |true=>
  rw[e,hk] at h
  cases c with
  |lst xs=>exact⟨w.rec (motive:=λo _=>S.s.heap.get? a=some o->_) (λvs n l rs ho=>⟨a,_,ho,rfl,rfl⟩) ho,rfl⟩
  |lstR xs=>exact⟨w.rec (motive:=λo _=>S.s.heap.get? a=some o->_) (λvs n l rs ho=>⟨a,_,ho,rfl,rfl⟩) ho,rfl⟩
  |dct ns xs=>cases h
theorem B7v{m:Nat}{pl:Sem Bool}{Q:Value×List Value->Shared->Prop}(R:Rel P.cx P.l S)(r:VR P.cx S.G S.σ x vx)(h:mokB x m S.h=true)(q:Q (.builtin (mId m),[vx]) S.s):wpAny P.M P.A (getMethod vx (aNm m) pl) Q Y S.s:=by
 cases x with
 |p a=>cases a with
  |str z=>
   revert q
   refine r.rec λt l q=> ?_
   rcases B7z h with rfl | rfl | rfl | rfl
   ·rw[anm.1];exact GM.join q
   ·rw[anm.2.1];exact GM.index q
   ·rw[anm.2.2.1];exact GM.lower q
   ·rw[anm.2.2.2.1];exact GM.split q
  |dict ks xs=>
   cases An h
   revert q
   refine r.elim λes r=>(r.1.map R).1.rec λa z M q=> ?_
   rw[anm.2.2.2.2.2.2.2]
   exact getMethod_builtin M.typeIs PySem.F.plainAttrs_dict PySem.F.slot_dict_get PySem.F.type_dict_get M.noDict q
  |_=>cases h
 |ref k=>exact B7w (B2v R r h).1 (B2v R r h).2 q
 |_=>cases h
inductive One(f:V->O)(K:Kv)(cx:Cx)(S:St):List Value->Prop
 |mk (x:V) (v:Value) (r:VR cx S.G S.σ x v) (q:(f x).W K):One f K cx S [v]
theorem o1_W{f:V->O}{vs:List V}{cvs:List Value}(q:(o1 vs f).W K)(r:VRs P.cx S.G S.σ vs cvs):One f K P.cx S cvs:=by
 cases vs with
 |nil=>exact q.elim
 |cons x xs=>cases xs with
  |cons=>exact q.elim
  |nil=>cases cvs with
   |nil=>exact r.elim
   |cons v vs=>cases r.2;exact⟨x,v,r.1,q⟩
theorem turn{a:Addr}{k:Nat}{c:Cl}{o:Obj}{h':Heap}{v:Value}{b:V}{tk:Nat}(R:Rel P.cx P.l S)(e:S.σ[k]?=some a)(ho:h'.get? a=some o)(hs:Heap.SameBut a S.s.heap h')(hc:A2g P.cx S.G S.σ c o)(r:VR P.cx S.G S.σ b v)(q:K b (S.h.set k c)):
  Okx P.cx P.l S K v {S.s with heap:=h',toks:=tk}:=⟨{S with h:=S.h.set k c,s:={S.s with heap:=h',toks:=tk}},b,⟨rfl,.rfl',.rfl'⟩,R.hset e ho hc λb x hb hx=>by rw[hs.2 b hb];exact hx,r,q⟩
theorem szM{α:Type}{R:α->Value->Prop}{xs:List α}{vs:List Value}(r:All2 R xs vs)(l:xs.length<=sizeLine):vs.toArray.size<=sizeLine:=by rw[Bk,r.length];exact l
theorem A8i{α:Type}{T:α->Value->Prop}{xs:List α}{vs:List Value}{n:Nat}{a:Addr}{k:Nat}{c:Cl}{y:α}{v:Value}(R:Rel P.cx P.l S)(e:S.σ[k]?=some a)(ho:S.s.heap.get? a=some {cls:=.type "list",data:=.seq vs.toArray n})(r:All2 T xs vs)(ry:T y v)
  (hl:xs.length+1<=big) (hc:∀o,LCell T (xs++[y]) o->A2g P.cx S.G S.σ c o) (q:K (.p .none) (S.h.set k c)):wpAny P.M P.A (call (.builtin "list.append") [.ref a,v]) (Okx P.cx P.l S K) Y S.s:=by
 refine wpAny_list_append_plain ⟨n,ho⟩ (λh' ⟨m',ho'⟩ hs=> ?_) (szM r (A2o (Bl hl)))
 rw[List.push_toArray] at ho'
 exact turn (tk:=S.s.toks) (b:=.p .none) R e ho' hs (hc _ ⟨_,_,by rw[Ae];exact A2o hl,r.append (.one ry)⟩) rfl q
theorem last_atM{α:Type}{T:α->Value->Prop}{xs:List α}{vs:List Value}(r:All2 T xs vs){x:α}(e:xs.getLast?=some x):∃v,vs[vs.length-1]?=some v/\T x v/\All2 T xs.dropLast vs.dropLast:=by
 rw[List.getLast?_eq_getElem?,←r.length] at e
 obtain⟨v,h,w⟩:=r.at e
 exact⟨v,h,w,by rw[List.dropLast_eq_take,List.dropLast_eq_take,r.length];exact r.take _⟩
theorem pop_arr{vs:List Value}{v:Value}(e:vs[vs.length-1]?=some v):vs.toArray.eraseIdxIfInBounds (vs.toArray.size-1)=vs.dropLast.toArray:=by
 unfold Array.eraseIdxIfInBounds
 rw[dif_pos (show vs.toArray.size-1<vs.toArray.size from(Bm.mp e).1)]
 apply Array.toList_inj.mp
 rw[Array.toList_eraseIdx]
 exact List.eraseIdx_length_sub_one
theorem B1o{α:Type}{T:α->Value->Prop}{xs:List α}{vs:List Value}{n:Nat}{a:Addr}{k:Nat}{c:Cl}{y:α}{b:V}(R:Rel P.cx P.l S)(e:S.σ[k]?=some a)(ho:S.s.heap.get? a=some {cls:=.type "list",data:=.seq vs.toArray n})(l:xs.length<=sizeLine)(r:All2 T xs vs)
  (hy:xs.getLast?=some y) (hb:∀v,T y v->VR P.cx S.G S.σ b v) (hc:∀o,LCell T xs.dropLast o->A2g P.cx S.G S.σ c o) (q:K b (S.h.set k c)):wpAny P.M P.A (call (.builtin "list.pop") [.ref a]) (Okx P.cx P.l S K) Y S.s:=by
 obtain⟨v,h,w,d⟩:=last_atM r hy
 refine call_meets PySem.F.slot_list_pop ⟨_,ho,rfl⟩ PySem.F.entry_list_pop (PySem.F.args_list_pop_1 _) (PySem.MeetsSeq.list_pop_last a _ n v (A9r h) (szM r l)) ⟨ho,?_⟩
 refine turn (tk:=S.s.toks) (o:={cls:=.type "list",data:=.seq vs.dropLast.toArray (if(vs.toArray.eraseIdxIfInBounds (vs.toArray.size-1)).size==vs.toArray.size then n else n+1)}) R e ?_ (Heap.SameBut.update ..) (hc _ ⟨_,_,?_,d⟩) (hb v w) q
 ·rw[Heap.get?_update_self (Obj.mapSeq λxs=>xs.eraseIdxIfInBounds (vs.toArray.size-1)) ho rfl,←pop_arr h];rfl
 ·rw[List.length_dropLast];exact Aa (Nat.sub_le _ _) l
theorem rev_rule{xs:List AVal}{a:Addr}{k:Nat}{o:Obj}(R:Rel P.cx P.l S)(e:S.σ[k]?=some a)(ho:S.s.heap.get? a=some o)(w:LCell (VRep P.cx S.G) xs o)(q:K (.p .none) (S.h.set k (.lst xs.reverse))):wpAny P.M P.A (call (.builtin "list.reverse") [.ref a]) (Okx P.cx P.l S K) Y S.s:=by
 revert ho
 refine w.rec λvs n l r ho=> ?_
 refine call_meets PySem.F.slot_list_reverse ⟨_,ho,rfl⟩ PySem.F.entry_list_reverse (PySem.F.args_list_reverse_1 _) (PySem.AutoListH.list_reverse_list_0 a _ n (szM r l)) ⟨ho,?_⟩
 refine turn (tk:=S.s.toks) (b:=.p .none) (c:=.lst xs.reverse) (o:={cls:=.type "list",data:=.seq vs.reverse.toArray (if vs.toArray.reverse.size==vs.toArray.size then n else n+1)}) R e ?_ (Heap.SameBut.update ..) ⟨_,_,by rw[Bv];exact l,r.reverse⟩ rfl q
 rw[Heap.get?_update_self (Obj.mapSeq λx=>x.reverse) ho rfl,←List.reverse_toArray];rfl
theorem idx_rule{z:List Nat}{c i:Nat}{t u:Tok}(R:Rel P.cx P.l S)(h:A2b c z=some i)(q:K (.p (.int (Int.ofNat i))) S.h):wpAny P.M P.A (call (.builtin "str.index") [.str ⟨z.toArray⟩ t,.str ⟨#[c]⟩ u]) (Okx P.cx P.l S K) Y S.s:=by
 have w:=B3p c z 0
 rw[h] at w
 have hn:∃r,Builtin.Str.occurrences ⟨z.toArray⟩ ⟨#[c]⟩ 0 (⟨z.toArray⟩:Str).length 1=i::r:=by
  rw[B6p]
  revert w
  cases places c 0 z with
  |nil=>exact λw=>nomatch w
  |cons x r=>exact λw=>⟨[],congrArg (λa=> [a]) ((Option.some.inj w).trans (Bc i))⟩
 exact hn.elim λr hn=>SC.index hn (A1w R q)
theorem A8u{z:List Nat}{t:Tok}(R:Rel P.cx P.l S)(l:z.length<=sizeLine)(hb:z.length<=big)(q:K (.p (.lst ((A0n z).map .str))) S.h)(h:[(⟨z.toArray⟩:Str)]=(A0n z).map λz=>⟨z.toArray⟩):Okx P.cx P.l S K (.ref S.s.heap.objs.size) {S.s with heap:=S.s.heap.push {cls:=.type "list",data:=.seq #[.str ⟨z.toArray⟩ t]}}:=
 A4c (tk:=S.s.toks) (vs:=[.str ⟨z.toArray⟩ t]) R (by rw[Aw];exact Aa (A2r z).2 (Aa (Ah hb) (by decide))) (A8y (ps:=[(⟨z.toArray⟩,t)]) h λy hy=>Aa ((A2r z).1 y hy) l) q
theorem B3i{z:List Nat}{t u:Tok}(R:Rel P.cx P.l S)(l:z.length<=sizeLine)(hb:z.length<=big)(q:K (.p (.lst ((A0n z).map .str))) S.h):wpAny P.M P.A (call (.builtin "str.split") [.str ⟨z.toArray⟩ t,.str ⟨#[10]⟩ u]) (Okx P.cx P.l S K) Y S.s:=by
 have hlen:(A0n z).length<=sizeLine:=Aa (A2r z).2 (Aa (Ah hb) (by decide))
 cases h1:(decide ((⟨z.toArray⟩:Str).length<(⟨#[10]⟩:Str).length)||decide (Builtin.Str.strKind ⟨z.toArray⟩<Builtin.Str.strKind ⟨#[10]⟩)) with
 |true=>
  refine call_meets PySem.F.slot_str_split (typeIs_str _ _ _) PySem.F.entry_str_split (PySem.F.args_str_split_2 _ _) (meets_str_split_cannot_occur _ _ t u h1) (A8u R l hb q ?_)
  rcases Bool.or_eq_true_iff.mp h1 with h | h
  ·cases z with
   |nil=>rfl
   |cons c z=>exact absurd (Ba h) (Nat.not_lt.mpr (Ah (Ag _)))
  ·have:=Ba h
   have h10:Builtin.Str.strKind ⟨#[10]⟩=1:=by decide+kernel
   rw[h10] at this
   unfold Builtin.Str.strKind at this
   split at this
   ·exact absurd this (Nat.lt_irrefl _)
   ·split at this <;> exact absurd this (by decide)
 |false=>
  have hp:=parts_NL z
  rw[←occ_all] at hp
  cases hf:(Builtin.Str.occurrences ⟨z.toArray⟩ ⟨#[10]⟩ 0 (⟨z.toArray⟩:Str).length ((⟨z.toArray⟩:Str).length+1)).isEmpty with
  |true=>
   refine call_meets PySem.F.slot_str_split (typeIs_str _ _ _) PySem.F.entry_str_split (PySem.F.args_str_split_2 _ _) (meets_str_split_not_found _ _ t u h1 rfl hf) (A8u R l hb q (Eq.trans ?_ hp))
   rw[List.isEmpty_iff.mp hf]
   show _=[Builtin.Str.strSub ⟨z.toArray⟩ 0 z.length]
   rw[A3r,cut,List.take_length];rfl
  |false=>
   refine call_meets PySem.F.slot_str_split (typeIs_str _ _ _) PySem.F.entry_str_split (PySem.F.args_str_split_2 _ _) (meets_str_split_sep ⟨z.toArray⟩ ⟨#[10]⟩ t u h1 rfl hf l (by rw[hp,Aw];exact hlen)) ?_
   rw[hp,strsFrom_eq]
   exact A4c R (by rw[Aw];exact hlen) (A8y (numbered_texts _ _) λy hy=>Aa ((A2r z).1 y hy) l) q
theorem str_rule{z:List Nat}{t:Tok}{m:Nat}{vs:List V}{cvs:List Value}(R:Rel P.cx P.l S)(hl:z.length<=sizeLine)(r:VRs P.cx S.G S.σ vs cvs)(hm:[11,40,51,53].contains m=true)(q:(strO z vs S.h m).W K):wpAny P.M P.A (call (.builtin (mId m)) (.str ⟨z.toArray⟩ t::cvs)) (Okx P.cx P.l S K) Y S.s:=by
 rcases B7z hm with rfl | rfl | rfl | rfl
 ·cases z with
  |cons c z=>exact q.elim
  |nil=>
   refine(o1_W q r).rec λx v r q=>(oL_W R q r).rec λxs h q=>h.rec λa o us n ho _ rs=>q.elim λss q=> ?_
   obtain⟨ps,e,hp⟩:=B5r (B5s (λh=>h) rs q.1)
   subst e
   have w:=Aq.mp q.2.1
   refine SC.join ⟨_,ho,rfl,n,rfl⟩ hp (B7j ss (nbl w.2)) λt' tk=> ?_
   rw[B7i]
   exact A4b R (A2o (nbl w.2)) q.2.2
 ·refine(o1_W q r).rec λx v r q=>(oS_W q r).rec λs u l q=>(oC_W q).rec (motive:=λs _=>wpAny P.M P.A (call (.builtin "str.index") [.str ⟨z.toArray⟩ t,.str ⟨s.toArray⟩ u]) (Okx P.cx P.l S K) Y S.s) λc q=> ?_
  exact q.elim λi q=>idx_rule R q.1 q.2
 ·cases vs with
  |cons=>exact q.elim
  |nil=>
   cases r
   refine(oC_W q).rec (motive:=λs _=>wpAny P.M P.A (call (.builtin "str.lower") [.str ⟨s.toArray⟩ t]) (Okx P.cx P.l S K) Y S.s) λc q=> ?_
   have e:=B5f c (nbl q.1)
   refine SC.lower ?_ ?_
   ·exact e▸decide_eq_false (by show¬1>sizeLine;decide)
   ·show Okx P.cx P.l S K (.str (Txt.lower ⟨#[c]⟩) _) _
    rw[e]
    exact A4b (s:=[lowC c]) R (by decide:1<=sizeLine) q.2
 ·refine(o1_W q r).rec λx v r q=>(oS_W q r).rec λs u l q=>(oC_W q).rec (motive:=λs _=>wpAny P.M P.A (call (.builtin "str.split") [.str ⟨z.toArray⟩ t,.str ⟨s.toArray⟩ u]) (Okx P.cx P.l S K) Y S.s) λc q=> ?_
  cases e:Nat.beq c 10 with
  |false=>rw[e] at q;exact q.elim
  |true=>rw[e] at q;cases An e;exact B3i R hl (nbl q.1) q.2
theorem ref_rule{k m:Nat}{vs:List V}{cvs:List Value}(R:Rel P.cx P.l S)(rk:VR P.cx S.G S.σ (.ref k) vx)(r:VRs P.cx S.G S.σ vs cvs)(hm:[13,52,25].contains m=true)(q:(refO k vs S.h m).W K):wpAny P.M P.A (call (.builtin (mId m)) (vx::cvs)) (Okx P.cx P.l S K) Y S.s:=by
 refine rk.rec λa z=> ?_
 obtain⟨c,o,hk,ho,w⟩:=R.cellOf z
 rcases B1i hm with rfl | rfl | rfl
 ·refine(o1_W q r).rec λx v r q=> ?_
  rw[hk] at q
  cases c with
  |lst xs=>cases x with
   |p y=>exact w.rec (motive:=λo _=>S.s.heap.get? a=some o->_) (λvs n l rs ho=>A8i (T:=VRep P.cx S.G) (c:=.lst (xs++[y])) R z ho rs r (nbl q.1) (λ_ w=>w) q.2) ho
   |tup ys=>cases xs with
    |nil=>exact w.rec (motive:=λo _=>S.s.heap.get? a=some o->_) (λvs n l rs ho=>by cases rs;exact A8i (T:=VR P.cx S.G S.σ) (c:=.lstR [.tup ys]) R z ho .nil r (by decide) (λ_ w=>w) q) ho
    |cons=>exact q.elim
   |_=>exact q.elim
  |lstR xs=>exact w.rec (motive:=λo _=>S.s.heap.get? a=some o->_) (λvs n l rs ho=>A8i (T:=VR P.cx S.G S.σ) (c:=.lstR (xs++[x])) R z ho rs r (nbl q.1) (λ_ w=>w) q.2) ho
  |dct=>exact q.elim
 ·cases vs with
  |cons=>exact q.elim
  |nil=>
   cases r
   change (match S.h[k]? with | some c=>(match c with | .lst xs=>.oa xs.getLast? (S.h.set k (.lst xs.dropLast)) | .lstR xs=>.ov xs.getLast? (S.h.set k (.lstR xs.dropLast)) | .dct _ _=>.bad) | none=>.bad:O).W K at q
   rw[hk] at q
   cases c with
   |lst xs=>exact q.elim λy q=>w.rec (motive:=λo _=>S.s.heap.get? a=some o->_) (λvs n l rs ho=>B1o (T:=VRep P.cx S.G) (b:=.p y) (c:=.lst xs.dropLast) R z ho l rs q.1 (λ_ r=>r) (λ_ w=>w) q.2) ho
   |lstR xs=>exact q.elim λy q=>w.rec (motive:=λo _=>S.s.heap.get? a=some o->_) (λvs n l rs ho=>B1o (T:=VR P.cx S.G S.σ) (c:=.lstR xs.dropLast) R z ho l rs q.1 (λ_ r=>r) (λ_ w=>w) q.2) ho
   |dct=>exact q.elim
 ·cases vs with
  |cons=>exact q.elim
  |nil=>
   cases r
   change (oL S.h (.ref k) λxs=>.v (.p .none) (S.h.set k (.lst xs.reverse))).W K at q
   unfold oL at q
   change (match(match S.h[k]? with | some c=>cellL c | none=>none) with | some xs=>.v (.p .none) (S.h.set k (.lst xs.reverse)) | none=>.bad:O).W K at q
   rw[hk] at q
   cases c with
   |lst xs=>exact rev_rule R z ho w q
   |_=>exact q.elim
theorem get_rule{ks:List (List Nat)}{xs:List AVal}{vs:List V}{cvs:List Value}(R:Rel P.cx P.l S)(ra:VR P.cx S.G S.σ (.p (.dict ks xs)) vx)(r:VRs P.cx S.G S.σ vs cvs)(q:(o1 vs λk=>oS k λs=>pvO ((dlk ks xs s).getD .none) S.h).W K):wpAny P.M P.A (call (.builtin "dict.get") (vx::cvs)) (Okx P.cx P.l S K) Y S.s:=by
 refine(o1_W q r).rec λy v r q=>(oS_W q r).rec λs u l q=>ra.elim λes e=>(e.1.map R).1.rec λa z M=> ?_
 refine call_meetsIn PySem.F.slot_dict_get M.typeIs PySem.F.entry_dict_get (PySem.F.args_dict_get_2 _ _) (meets_dict_get (PySem.strKind pw P.cx.w) a (strKind_is _ _ _ u) z) ⟨_,M,?_⟩
 have w:=B2m s (e.1.map R).2 e.2.all
 revert q
 generalize dlk ks xs s=d at w
 intro q
 cases w with
 |no h=>rw[h];exact ok_none R q
 |yes y v h hv=>rw[h];exact A5w (a:=.p y) R hv q
theorem meth_b{m:Nat}{vs:List V}{cvs:List Value}{h0:Ht}(R:Rel P.cx P.l S)(ra:VR P.cx S.G S.σ x vx)(r:VRs P.cx S.G S.σ vs cvs)(hm:mokB x m h0=true)(q:(A9f x m vs S.h).W K):wpAny P.M P.A (call (.builtin (mId m)) (vx::cvs)) (Okx P.cx P.l S K) Y S.s:=by
 cases x with
 |p a=>cases a with
  |str z=>exact ra.rec λt l=>str_rule R l r hm q
  |dict ks xs=>
   cases An hm
   exact get_rule R ra r q
  |_=>exact q.elim
 |ref k=>
  refine ref_rule R ra r ?_ q
  revert hm
  show(match [13,52,25].contains m with | true=>_ | false=>false)=true->_
  cases [13,52,25].contains m with
  |true=>exact λ_=>rfl
  |false=>exact λh=>h
 |_=>exact q.elim
end
section
variable{P:Pl}{E:CE}{env:Env}{S S':St}{K:Kv}{X:Kx}{Y:Value->Shared->Prop}{x:V}{vx:Value}
theorem A5g{M:Model}{A:Around}{f:Value}{args:List (Bool×Sem Value)}{Q:Args->Shared->Prop}{s:Shared}(h0:args.any (·.1)=false)(h:wpAny M A (spliced args) (λvs s'=>Q ⟨vs,[]⟩ s') Y s):wpAny M A (evalArgs f true args []) Q Y s:=by
 cases args with
 |cons x r=>
  obtain⟨b,t⟩:=x
  cases b with
  |true=>cases h0
  |false=>exact Calls.evalArgs_plain h
 |nil=>
  unfold evalArgs
  show wpAny M A (spliced [] >>= _) Q Y s
  refine Ab (Af h (λvs s' h'=> ?_) λ_ _ x=>x)
  first
   |exact Ad h'
   |exact Ab (Ad (wpAny_holding (Ab (Ad (Ab (Ad (Ad h')))))))
   |exact Ad (wpAny_holding (Ab (Ad (Ab (Ad (Ad h'))))))
abbrev Plain(es:List PySem.Expr):Prop:=es.all (λe=> !A9j e)=true
theorem B9g{f:Value}{first:List Value}{es:List PySem.Expr}{pos:Pos}{Q:Value->Shared->Prop}{s:Shared}(hn:Plain es)(hk:keepIn P.cx.K f=true)
  (h:wpAny P.M P.A (spliced (backTo pos (starEach es env))) (λvs s₁=>P.cx.K.In s₁.heap/\wpAny P.M P.A (call f (first++vs)) Q Y s₁) Y s):wpAny P.M P.A (callWith pos f first (backTo pos (starEach es env)) []) Q Y s:=
 callWith_of (by rw[A1s hn];rfl) (keeps_K hk) (A5g (A1s hn pos) h)
noncomputable def rawV:Value->Bool
 |.builtin _=>true
 |.type _=>true
 |_=>false
theorem call_b{f:Value}{first:List Value}{es:List PySem.Expr}{pos:Pos}{Q:Value->Shared->Prop}{s:Shared}(hn:Plain es)(hf:rawV f=true)
  (h:wpAny P.M P.A (spliced (backTo pos (starEach es env))) (λvs s₁=>wpAny P.M P.A (call f (first++vs)) Q Y s₁) Y s):wpAny P.M P.A (callWith pos f first (backTo pos (starEach es env)) []) Q Y s:=
 callWith_of (P:=λ_=>True) (by rw[A1s hn];rfl) (λh _=>⟨.machine,.inr (.inl rfl),by cases f <;> first | exact Looks.now | cases hf⟩)
  (A5g (A1s hn pos) (Af h (λ_ _ z=>⟨trivial,z⟩) λ_ _ e=>e))
theorem A7u{x:Str}{p pos:Pos}{es:List PySem.Expr}{Q:Value->Shared->Prop}{s:Shared}
  (h:wpAny P.M P.A (eval (.Name x p) env) (λf s₁=>wpAny P.M P.A (callWith pos f [] (backTo pos (starEach es env)) []) Q Y s₁) Y s):wpAny P.M P.A (eval (.Call (.Name x p) es [] pos) env) Q Y s:=Ab h
theorem B2z{f:Value}{first:List Value}{es:List PySem.Expr}{xs:List Ex}{pos:Pos}{ρ:Lo}{L:List V->Ht->Prop}(hn:Plain es)(hk:keepIn P.cx.K f=true)(h:SXs P E env es xs)(R:Rel P.cx P.l S)(Lo:A0i P.cx S env E ρ)(q:PR (A1l P.o P.oi xs ρ S.h) L X)
  (k:∀(S':St) as vs,NxM S S'->Rel P.cx P.l S'->VRs P.cx S'.G S'.σ as vs->L as S'.h->wpAny P.M P.A (call f (first++vs)) (Okx P.cx P.l S' K) (Exx P.cx P.l S' .none X) S'.s):wpAny P.M P.A (callWith pos f first (backTo pos (starEach es env)) []) (Okx P.cx P.l S K) (Exx P.cx P.l S .none X) S.s:=
 B9g hn hk (Af (h S ρ _ X pos R Lo q) (λvs _ x=>x.rec λS' as n R' r q=>⟨R'.inK,upX n (.le n) (k S' as vs n R' r q)⟩) λ_ _ e=>e)
theorem args_b{f:Value}{first:List Value}{es:List PySem.Expr}{xs:List Ex}{pos:Pos}{ρ:Lo}{L:List V->Ht->Prop}(hn:Plain es)(hf:rawV f=true)(h:SXs P E env es xs)(R:Rel P.cx P.l S)(Lo:A0i P.cx S env E ρ)(q:PR (A1l P.o P.oi xs ρ S.h) L X)
  (k:∀(S':St) as vs,NxM S S'->Rel P.cx P.l S'->VRs P.cx S'.G S'.σ as vs->L as S'.h->wpAny P.M P.A (call f (first++vs)) (Okx P.cx P.l S' K) (Exx P.cx P.l S' .none X) S'.s):wpAny P.M P.A (callWith pos f first (backTo pos (starEach es env)) []) (Okx P.cx P.l S K) (Exx P.cx P.l S .none X) S.s:=
 call_b hn hf (Af (h S ρ _ X pos R Lo q) (λvs _ x=>x.rec λS' as n R' r q=>upX n (.le n) (k S' as vs n R' r q)) λ_ _ e=>e)
theorem B5o(Fa:Facts P.cx)(V:A2f env E){p pos:Pos}{es:List PySem.Expr}{xs:List Ex}{k:Nat}(hd:(fNm k==("__debug__" :Str))=false)(hg:E.globs.contains (fNm k)=true)(hk:k<83)(hf:fCl k=none)
  (hn:Plain es) (h:SXs P E env es xs):SX P E env (.Call (.Name (fNm k) p) es [] pos) (.call k xs):=λS ρ K X R L q=>
 A7u (A5d V hd hg R (Fa.gfn k hk hf) (B2z hn (Fa.fn k hk).2 h R L (PR.bind q) λS' as vs _ R' r q=>P.co P.A P.l S' k as vs K X P.am R' r q))
theorem sx_new(Fa:Facts P.cx)(V:A2f env E){p pos:Pos}{es:List PySem.Expr}{xs:List Ex}{k:Nat}(hd:(cNm k==("__debug__" :Str))=false)(hg:E.globs.contains (cNm k)=true)(hk:usable k=true)(hf:k<19)
  (hn:Plain es) (h:SXs P E env es xs):SX P E env (.Call (.Name (cNm k) p) es [] pos) (.new k xs):=λS ρ K X R L q=>
 A7u (A5d V hd hg R (Fa.gcls k hf) (B2z hn (Fa.cls k hk).kp h R L (PR.bind q) λS' as vs _ R' r q=>P.cn P.A P.l S' k as vs K X P.am R' r q))
theorem A4d{o:PySem.Expr}{m:Str}{ap pos:Pos}{es:List PySem.Expr}{Q:Value->Shared->Prop}{s:Shared}(hb:∀w:Sem Value,attributeBase o m env w=w)(hl:es.length<30)(hp:(ap.endLine==pos.line)=true)(hn:Plain es)
  (h:wpAny P.M P.A (eval o env) (λov s₁=>wpAny P.M P.A (getMethod ov m (do return(←importBound o env).getD true)) (λfx s₂=>wpAny P.M P.A (callWith pos fx.1 fx.2 (backTo pos (starEach es env)) []) Q Y s₂) Y s₁) Y s):
  wpAny P.M P.A (eval (.Call (.Attribute o m ap) es [] pos) env) Q Y s:=by
 show wpAny P.M P.A (do
  let ov←attributeBase o m env (eval o env)
  standAt ap.atName
  methodCall o m ap pos env ov (es.length+0) (backTo pos (starEach es env)) (backToKw pos (keywordEach [] env))) _ _ s
 rw[hb]
 refine Ab (Af h (λov s₁ h₁=>Ab (wpAny_standAt ?_)) λ_ _ e=>e)
 unfold methodCall
 have few:methodCallForm (es.length+0) (backTo pos (starEach es env)) (backToKw pos (keywordEach [] env))=true:=by
  unfold methodCallForm
  rw[show(backTo pos (starEach es env)).all (λx=> !x.1)=true from Av.mpr λx hx=>Bool.not_eq_eq_eq_not.mpr (Bn.mpr (List.any_eq_false.mp (A1s hn pos) x hx))]
  show(true&&true&&decide (es.length+0+0<30))=true
  exact A8 hl
 rw[few]
 refine Ab (wpAny_holding (Af h₁ (λfx s₂ h₂=> ?_) λ_ _ e=>e))
 show wpAny P.M P.A (methodCallPos true o env ap pos >>= _) _ _ _
 unfold methodCallPos
 rw[if_pos (by rw[hp];rfl:(!true||ap.endLine==pos.line)=true)]
 exact Ab (Ad h₂)
theorem B5n(Fa:Facts P.cx)(V:A2f env E){p ap pos:Pos}{es:List PySem.Expr}{xs:List Ex}{c k:Nat}(hd:(cNm c==("__debug__" :Str))=false)(hg:E.globs.contains (cNm c)=true)(hk:k<83)(hc:c<19)(hf:fCl k=some c)
  (hs:statics.contains k=true) (hl:es.length<30) (hp:(ap.endLine==pos.line)=true) (hn:Plain es) (h:SXs P E env es xs):SX P E env (.Call (.Attribute (.Name (cNm c) p) (fNm k) ap) es [] pos) (.call k xs):=λS ρ K X R L q=>
 A4d (λ_=>rfl) hl hp hn (A5d V hd hg R (Fa.gcls c hc) (Fa.cm c k hf hs _ _ _ _ _ R.inK λtk=>
  Af (B2z (S:={S with s:={S.s with toks:=tk}}) hn (Fa.fn k hk).2 h (R.toks tk) (L.nx (.g' .rfl')) (PR.bind q) λS' as vs _ R' r q=>P.co P.A P.l S' k as vs K X P.am R' r q) (λ_ _=>Okx.le (.g' .rfl')) λ_ _=>Exx.le (.g' .rfl')))
theorem B9n{q:Nat×Nat->Bool}:∀{l:List (Nat×Nat)} {m f:Nat},l.all q=true->asc l m=some f->q (m,f)=true:=by
 intro l
 induction l with
 |nil=>exact λ_ e=>A0a e
 |cons p r ih=>
  intro m f h e
  have h:=Aq.mp h
  rw[asc] at e
  cases z:Nat.beq p.1 m with
  |true=>rw[z] at e;cases An z;exact Option.some.inj e▸h.1
  |false=>rw[z] at e;exact ih h.2 e
theorem A5y{c m f:Nat}(h:A5c c m=some f):usable c=true/\f<83/\m<55:=by
 have k:((List.range 19).all λc=>(mTab.getD c []).all λp=>usable c&& (decide (p.2<83)&&decide (p.1<55)))=true:=by decide+kernel
 have w:(mTab.getD c []).all (λp=>usable c&& (decide (p.2<83)&&decide (p.1<55)))=true:=by
  by_cases hc:c<19
  ·exact Av.mp k c (B3.mpr hc)
  ·rw[List.getD_eq_getElem?_getD,List.getElem?_eq_none (Ca hc)];rfl
 have:=Aq.mp (B9n w h)
 have k:=Aq.mp this.2
 exact⟨this.1,Ba k.1,Ba k.2⟩
theorem lk_none{α:Type}{m:Nat}:∀{ns:List Nat} {xs:List α},ns.contains m=false->lk ns xs m=none:=by
 intro ns
 induction ns with
 |nil=>exact λ_=>rfl
 |cons n ns ih=>
  intro xs h
  cases xs with
  |nil=>rfl
  |cons x xs=>
   have h:=Bool.or_eq_false_iff.mp (Br.symm.trans h)
   show(match Nat.beq n m with | true=>some x | false=>lk ns xs m)=none
   cases z:Nat.beq n m with
   |true=>cases An z;exact absurd h.1 (by rw[beq_self_eq_true];decide)
   |false=>exact ih h.2
theorem B1t(Fa:Facts P.cx){α:Type}{T:α->Value->Prop}{c m f:Nat}{x dx:Addr}{es:List DictEntry}{k:Nat}{ns:List Nat}{xs:List α}{pl:Sem Bool}{Q:Value×List Value->Shared->Prop}(R:Rel P.cx P.l S)(hf:A5c c m=some f)
  (h1:S.s.heap.get? x=some (instObj (P.cx.ca c) dx)) (h2:S.s.heap.get? dx=some (dictOf es k)) (fk:FKey ns es) (h:All2 T xs (es.map (·.val))) (hn:ns.contains m=false) (q:Q (.ref (P.cx.fa f),[.ref x]) S.s):
  wpAny P.M P.A (getMethod (.ref x) (aNm m) pl) Q Y S.s:=by
 have u:=A5y hf
 have g:=Fa.cls c u.1
 refine method_fn R.inK (⟨h1,rfl,rfl,h2⟩:InstAt S.s.heap x (instObj (P.cx.ca c) dx) (P.cx.ca c) (some (dictOf es k))) g.ga g.gat (g.meth m f hf).2 (Fa.fty f u.2.1) ?_ q
 have w:=A8b (g.meth m f hf).1 fk h
 rw[lk_none hn] at w
 cases w with
 |no w=>unfold shadowIn;dsimp only;rw[lookIn_dict,w];rfl
inductive MfnAt(c m f:Nat)(ns:List Nat):Prop
 |mk (h:A5c c m=some f) (n:ns.contains m=false):MfnAt c m f ns
theorem mfn_at{c m f:Nat}{ns:List Nat}(h:(match ns.contains m with | false=>A5c c m | true=>none)=some f):MfnAt c m f ns:=by
 cases e:ns.contains m with
 |true=>rw[e] at h;exact A0a h
 |false=>rw[e] at h;exact⟨h,e⟩
theorem B1s(Fa:Facts P.cx){m f:Nat}{pl:Sem Bool}{Q:Value×List Value->Shared->Prop}(R:Rel P.cx P.l S)(r:VR P.cx S.G S.σ x vx)(h:mfn x m S.h=some f)(q:Q (.ref (P.cx.fa f),[vx]) S.s):wpAny P.M P.A (getMethod vx (aNm m) pl) Q Y S.s/\f<83:=by
 cases x with
 |p a=>cases a with
  |inst c ns ys=>
   obtain⟨h,n⟩:=mfn_at h
   refine⟨?_,(A5y h).2.1⟩
   revert q
   exact r.elim λes r=>r.1.rec λa dx k g1 g2 fk q=>B1t Fa R h (R.stay _ _ g1) (R.stay _ _ g2) fk r.2.all n q
  |_=>exact A0a h
 |obj c k=>
  revert q
  refine r.rec λa dx e g q=> ?_
  obtain⟨d,o,hk,ho,w⟩:=R.cellOf e
  change (match S.h[k]? with | some d=>(match d with | .dct ns _=>(match ns.contains m with | false=>A5c c m | true=>none) | .lst _=>none | .lstR _=>none) | none=>none)=some f at h
  rw[hk] at h
  cases d with
  |dct ns ys=>
   obtain⟨h,n⟩:=mfn_at h
   exact⟨w.rec (motive:=λo _=>S.s.heap.get? dx=some o->_) (λes k l fk rs ho=>B1t Fa R h (R.stay _ _ g) ho fk rs n q) ho,(A5y h).2.1⟩
  |_=>exact A0a h
 |_=>exact A0a h
theorem sx_meth(Fa:Facts P.cx){o:PySem.Expr}{x:Ex}{i:Nat}{ap pos:Pos}{es:List PySem.Expr}{xs:List Ex}(hb:∀w:Sem Value,attributeBase o (aNm i) env w=w)(hl:es.length<30)(hp:(ap.endLine==pos.line)=true)
  (hn:Plain es) (h0:SX P E env o x) (h:SXs P E env es xs):SX P E env (.Call (.Attribute o (aNm i) ap) es [] pos) (.meth x i xs):=λS ρ K X R L q=>by
 refine A4d hb hl hp hn (Af (h0 S ρ _ X R L (PR.bind q)) (λv _ x=>x.rec λS1 a n R1 r q=> ?_) λ_ _ e=>e)
 revert q
 show PR (match A1r i with | true=>_ | false=>_) K X->_
 cases A1r i with
 |true=>
  show PR (match mokB a i S1.h with | true=>_ | false=>_) K X->_
  cases e:mokB a i S1.h with
  |false=>exact λq=>q.elim
  |true=>exact λq=>B7v R1 r e (Af (args_b hn rfl h R1 (L.nx n) (PR.bind q) λS2 as vs n2 R2 rs q=>meth_b R2 (r.mono n2.g n2.u) rs e (O.toW q)) (λ_ _=>Okx.le n) λ_ _=>Exx.le n)
 |false=>
  show PR (match mfn a i S1.h with | some f=>_ | none=>_) K X->_
  cases e:mfn a i S1.h with
  |none=>exact λq=>q.elim
  |some f=>
   have hf:f<83:=(B1s (Q:=λ_ _=>True) (Y:=λ_ _=>True) (pl:=pure true) Fa R1 r e trivial).2
   exact λq=>(B1s Fa R1 r e (Af (B2z hn (Fa.fn f hf).2 h R1 (L.nx n) (PR.bind q) λS2 as vs n2 R2 rs q=>P.co P.A P.l S2 f (a::as) (v::vs) K X P.am R2 ⟨r.mono n2.g n2.u,rs⟩ q) (λ_ _=>Okx.le n) λ_ _=>Exx.le n)).1
end
theorem B4l{M:Model}{A:Around}{E:Value->Shared->Prop}{s:Shared}{Q:Value->Shared->Prop}{v:Value}{text:List Nat}{n:Int}
  (hs:(text.takeWhile (· !=0)).length<=640) (hr:(int_private% "readNumeral") 0 16 (text.takeWhile (· !=0))=(int_private% "Numeral.value") n)
  (ha:((text.takeWhile (· !=0)).length==text.length)=true) (h:Q (.int n s.toks) {s with toks:=s.toks+1}):
  wpAny M A ((int_private% "intFromText") v text 16) Q E s:=by
 obtain⟨hp,g,d,tk,os⟩:=s
 repeat (any_goals (first
  |assumption
  |(with_reducible refine wpAny_ite_true (A8 hs) ?_)
  |(with_reducible refine wpAny_ite_true (A8 ha) ?_)
  |wp_step))
 all_goals (try rw[hr])
 all_goals (try dsimp only)
 repeat (any_goals (first
  |assumption
  |(with_reducible refine wpAny_ite_true (A8 hs) ?_)
  |(with_reducible refine wpAny_ite_true (A8 ha) ?_)
  |wp_step))
noncomputable def hexL:List Nat:=[48,49,50,51,52,53,54,55,56,57,65,66,67,68,69,70,97,98,99,100,101,102]
theorem hex_mem{c n:Nat}(h:A6c c=some n):c∈hexL/\n=(A6c c).getD 0:=by
 refine⟨?_,by rw[h];rfl⟩
 have k:((List.range 103).all λc=>(A6c c).isNone||hexL.contains c)=true:=by decide+kernel
 by_cases hc:c<103
 ·have:=Av.mp k c (B3.mpr hc)
  rw[h] at this;exact A4.mp this
 ·unfold A6c at h
  rw[if_neg λz=>hc (As z.2 (by decide)),if_neg λz=>hc (As z.2 (by decide)),if_neg λz=>hc (As z.2 (by decide))] at h
  exact A0a h
structure Hid(p:Prop):Prop where
 out:p
open PySem.NumText in
theorem B7p{c n:Nat}(h:A6c c=some n):((numTextOf ⟨#[c]⟩).takeWhile (· !=0)).length<=640/\(int_private% "readNumeral") 0 16 ((numTextOf ⟨#[c]⟩).takeWhile (· !=0))=(int_private% "Numeral.value") n/\
  (((numTextOf ⟨#[c]⟩).takeWhile (· !=0)).length==(numTextOf ⟨#[c]⟩).length)=true:=by
 obtain⟨hc,rfl⟩:=hex_mem h
 have a:(hexL.all λc=>decide (((numTextOf ⟨#[c]⟩).takeWhile (· !=0)).length<=640)&& (((numTextOf ⟨#[c]⟩).takeWhile (· !=0)).length==(numTextOf ⟨#[c]⟩).length))=true:=by decide+kernel
 have b:hexL.map (λc=>(int_private% "readNumeral") 0 16 ((numTextOf ⟨#[c]⟩).takeWhile (· !=0)))=hexL.map (λc=>(int_private% "Numeral.value") (((A6c c).getD 0:Nat):Int)):=by kernel_rfl
 have a:=Aq.mp (Av.mp a c hc)
 exact⟨Ba a.1,List.map_inj_left.mp b c hc,a.2⟩
set_option maxHeartbeats 4000000 in
open PySem.NumText in
theorem A9l{c n:Nat}{u w:Tok}(hn:A6c c=some n):Gives (Builtin.«int.__new__» ⟨[.type "int",.str ⟨#[c]⟩ u,.int 16 w],[]⟩) (.int n):=
 .of_wp λM A E s Q h=>by
  obtain⟨hp,g,d,tk,os⟩:=s
  have f1:=PySem.F.conv_sub_int
  have f2:=PySem.F.madeHere_int
  have f3:=PySem.W.KIN.str_int
  have f4:=PySem.W.KIN.str_idx
  have f5:=PySem.W.KIN.str_trunc
  have f6:typeOf (.str ⟨#[c]⟩ u)=pure (.type "str"):=rfl
  have hk:=Hid.mk (B7p hn)
  repeat (any_goals (first
   |assumption
   |((with_reducible show wpAny _ _ ((int_private% "intFromText") _ _ _) _ _ _);refine B4l hk.out.1 hk.out.2.1 hk.out.2.2 ?_)
   |wp_step))
  all_goals first | exact⟨_,rfl,h⟩ | skip
theorem B4h{prog:Program}{w:World}{A:Around}{E:Value->Shared->Prop}{s:Shared}{Q:Value->Shared->Prop}{c n:Nat}{t u:Tok}(h:A6c c=some n)(hq:Q (.int n s.toks) {s with toks:=s.toks+1}):
  wpAny (model prog w) A (call (.type "int") [.str ⟨#[c]⟩ t,.int 16 u]) Q E s:=
 callType_new F.called_int F.newNe_int (by kernel_rfl) (by kernel_rfl) (λobj=>F.args_object_init_3 obj _ _) F.entry_int_new (A9l h).meets (show(Made.int n).post _ s from⟨rfl,hq⟩)
def A1z(cx:Cx):Prop:=∀(A:Around) (l:List Env) (S:St) (v:Value) (xs:List AVal) (ps:List (Int×Int)) (K:Kv) (Y:Value->Shared->Prop),A.handled=none->Rel cx l S->A2y cx S xs v->pairs? xs=some ps->
 K (.p (.lst ((A6n ps).map A4q))) S.h->wpAny (model pw cx.w) A (call (.builtin "sorted") [v]) (Okx cx l S K) Y S.s
theorem neg62:(-(2^62):Int)<=0:=by decide
theorem neg62':(-(2^62):Int)<=-(2^20):=by decide
theorem pos62:(2^20:Int)<=2^62:=by decide
theorem A6u(lo hi:Int):(A0t lo hi).length=(hi-lo).toNat:=(Aw _).trans List.length_range
theorem All2.of_at{α β:Type}{R:α->β->Prop}:∀{xs:List α} {vs:List β},vs.length=xs.length->(∀(j:Nat) x v,xs[j]?=some x->vs[j]?=some v->R x v)->All2 R xs vs:=by
 intro xs
 induction xs with
 |nil=>intro vs h _;cases vs with
  |nil=>exact .nil
  |cons=>cases h
 |cons x xs ih=>intro vs h k;cases vs with
  |nil=>cases h
  |cons v vs=>exact .cons (k 0 x v rfl rfl) (ih (Nat.succ.inj h) λj=>k (j+1))
section
variable{P:Pl}{S S':St}{K:Kv}{X:Kx}{Y:Value->Shared->Prop}{x:V}{vx:Value}
theorem ok_gr{o:Obj}{a:Addr}{b:V}{h':Heap}{tk:Nat}(R:Rel P.cx P.l S)(hn:S.s.heap.get? a=none)(ho:h'.get? a=some o)(kp:∀b o,S.s.heap.get? b=some o->h'.get? b=some o)(r:Sub S.G (S.G.put a o)->VR P.cx (S.G.put a o) S.σ b (.ref a))(k:K b S.h):Okx P.cx P.l S K (.ref a) {S.s with heap:=h',toks:=tk}:=
 ⟨{S with G:=S.G.put a o,s:={S.s with heap:=h',toks:=tk}},b,.g' (GM.sub_put (R.gNone hn)),(R.keep kp).gput (R.gNone hn) (R.fNone hn) (R.off' hn) ho,r (GM.sub_put (R.gNone hn)),k⟩
theorem len_rule{x:V}{v:Value}(R:Rel P.cx P.l S)(r:VR P.cx S.G S.σ x v)(q:(lenO x S.h).W K):wpAny P.M P.A (call (.builtin "len") [v]) (Okx P.cx P.l S K) Y S.s:=by
 have lst:∀{xs:List AVal},A2y P.cx S xs v->(pvO (.int (Int.ofNat xs.length)) S.h).W K->wpAny P.M P.A (call (.builtin "len") [v]) (Okx P.cx P.l S K) Y S.s:=λ{xs} h q=>by
  refine h.rec λa o vs n ho l r=>PyProof.Rows.len_list ⟨_,ho,rfl,n,rfl⟩ (A4v (szM r l)).2 ?_
  rw[Bk,r.length];exact A1w R q
 cases x with
 |p a=>cases a with
  |str z=>exact r.rec λt l=>PyProof.Rows.len_str (Int.not_le.mpr (A4v l).2) (A1w R q)
  |lst xs=>exact lst (A1n (x:=.p (.lst xs)) R rfl r) q
  |tup xs=>
   refine r.elim λvs r=>(r.1.tup R).rec λa h=>PyProof.Rows.len_tuple h (A4v (szM r.2.2.all r.2.1)).2 ?_
   rw[Bk,r.2.2.all.length];exact A1w R q
  |_=>exact q.elim
 |ref k=>exact(oL_W R q r).rec λxs h q=>lst h q
 |_=>exact q.elim
theorem int_rule{x:V}{v:Value}(R:Rel P.cx P.l S)(r:VR P.cx S.G S.σ x v)(q:(intO x S.h).W K):wpAny P.M P.A (call (.type "int") [v]) (Okx P.cx P.l S K) Y S.s:=by
 cases x with
 |p a=>cases a with
  |int i=>exact r.rec λt=>call_int_int (A1w (tk:=S.s.toks) R q)
  |str z=>
   have h:=Aq.mp q.1
   have h':=Aq.mp h.1
   have l:=nbl h'.2
   have f:∀c∈z,48<=c/\c<=57:=λc hc=>let k:=Aq.mp (Av.mp h.2 c hc);⟨nbl k.1,nbl k.2⟩
   have n:z≠[]:=λe=>by rw[e] at h';exact A5 h'.1
   exact r.rec λt _=>PySem.W.KIN.call_text (n:=(numV z:Int)) (PySem.intText_digits (x:=⟨z.toArray⟩) f n (Aa l (by decide))) (Aa l (by decide)) (A1w R q.2)
  |_=>exact q.elim
 |_=>exact q.elim
inductive Two(f:V->V->O)(K:Kv)(cx:Cx)(S:St):List Value->Prop
 |mk (x y:V) (v w:Value) (r:VR cx S.G S.σ x v) (r2:VR cx S.G S.σ y w) (q:(f x y).W K):Two f K cx S [v,w]
theorem o2_W{f:V->V->O}{vs:List V}{cvs:List Value}(q:(o2 vs f).W K)(r:VRs P.cx S.G S.σ vs cvs):Two f K P.cx S cvs:=by
 cases vs with
 |nil=>exact q.elim
 |cons x xs=>cases cvs with
  |nil=>exact r.elim
  |cons v vs=>exact(o1_W q r.2).rec λy w r2 q=>⟨x,y,v,w,r.1,r2,q⟩
theorem abs_if(i:Int):(if i<0 then-i else i)=(Int.ofNat i.natAbs):=by
 cases i with
 |ofNat n=>exact if_neg (Int.not_lt.mpr (By n))
 |negSucc n=>exact if_pos (Int.negSucc_lt_zero n)
theorem A9b(lo hi:Int):Builtin.Range.rangeSize lo hi 1=((A0t lo hi).length:Int):=by
 rw[rangeSize_one,A6u]
 by_cases h:lo<hi
 ·rw[if_pos h];exact(Int.toNat_of_nonneg (Int.sub_nonneg_of_le (Int.le_of_lt h))).symm
 ·rw[if_neg h,Int.toNat_of_nonpos (Int.sub_nonpos_of_le (Int.not_lt.mp h))];rfl
theorem B1n{lo hi:Int}{j:Nat}{x:AVal}(e:((A0t lo hi).map AVal.int)[j]?=some x):x=.int (lo+(j:Int)):=by
 rw[List.getElem?_map,A0t,List.getElem?_map] at e
 by_cases hj:j<(hi-lo).toNat
 ·rw[List.getElem?_range hj] at e;exact(Option.some.inj e).symm
 ·rw[List.getElem?_eq_none (by rw[List.length_range];exact Ca hj)] at e;cases e
theorem of_range{cx:Cx}{G:GM}{lo hi:Int}{acc:Array Value}(h:ItemsOf (λi v=>∃t,v=.int (lo+i*1) t) acc (A0t lo hi).length):All2 (VRep cx G) ((A0t lo hi).map .int) acc.toList:=
 All2.of_at (by rw[Aw,Array.length_toList];exact h.1) λj x v e f=>by
  obtain⟨t,rfl⟩:=h.2 j v (by rw[←Bx];exact f)
  rw[B1n e,Int.mul_one];exact⟨t⟩
theorem B1w{lo hi:Int}{h':Heap}{t u r tk:Nat}(R:Rel P.cx P.l S)(hs:Builtin.Range.small lo hi 1=true)(hl:(A0t lo hi).length<=sizeLine)(k:K (.p (.range lo hi)) S.h):
  Okx P.cx P.l S K (.ref S.s.heap.objs.size) {S.s with heap:=S.s.heap.push {cls:=.type "range",data:=.fields #[.int lo t,.int hi u,.int 1 r]},toks:=tk}:=
 B1x (a:=.p (.range lo hi)) rfl R ⟨_,t,u,r,GM.put_self,hs,hl⟩ k
theorem rl_lim{lo hi:Int}(h:hi-lo<=2^20):(A0t lo hi).length<=sizeLine:=by
 rw[A6u];exact Aa (Int.toNat_le.mpr h) (by decide)
theorem B4c{i:Int}(h:i.natAbs<1000):(B2s i).length<=sizeLine:=by
 have e:(B2s i).length=(Str.ofString (toString i)).length:=Array.length_toList
 have l:=len_str_of_int i
 exact e▸B7.mp (Int.le_trans l (B7.mpr (Aa (Ay (Ak h) 2) (by decide:1000+2<=sizeLine))))
theorem log_lim{n:Nat}(h:n<1000):n.log2<1920:=by
 cases n with
 |zero=>decide
 |succ n=>exact Ap ((Nat.log2_lt (Nat.succ_ne_zero n)).mpr (Ap h (by decide:1000<=2^10))) (by decide)
theorem one16:1<=sizeLine:=by decide
theorem bi_rule(So:A1z P.cx){b:Bi}{vs:List V}{cvs:List Value}(R:Rel P.cx P.l S)(hv:VRs P.cx S.G S.σ vs cvs)(q:(biO b vs S.h).W K):wpAny P.M P.A (call (biV b) cvs) (Okx P.cx P.l S K) Y S.s:=by
 have one:∀{f:V->O},(o1 vs f).W K->One f K P.cx S cvs:=λq=>o1_W q hv
 have two:∀{f:V->V->O},(o2 vs f).W K->Two f K P.cx S cvs:=λq=>o2_W q hv
 cases b with
 |len=>exact(one q).rec λx v r q=>len_rule R r q
 |ord=>exact(one q).rec λx v r q=>(oS_W q r).rec λz t l q=>(oC_W q).rec λc q=>PySem.P.ord_of_char (A1w R q)
 |chr=>exact(one q).rec λx v r q=>(oI_W q r).rec λi t q=>PySem.P.chr_of_int (Bool.or_eq_false_iff.mpr ⟨decide_eq_false (Int.not_lt.mpr (Ba q.1).1),decide_eq_false (Int.not_lt.mpr (Int.le_of_lt_add_one (Ba q.1).2))⟩) (A4b (s:=[i.toNat]) R one16 q.2)
 |int1=>exact(one q).rec λx v r q=>int_rule R r q
 |int16=>
  exact(two q).rec λx y v w r r2 q=>(oS_W q r).rec λz t l q=>(oC_W q).rec λc q=>(oI_W q r2).rec λi u q=>by
   cases e:decide (i=16) with
   |false=>rw[e] at q;exact q.elim
   |true=>
    rw[e] at q
    cases Ba e
    exact q.elim λn q=>B4h q.1 (A1w R q.2)
 |str=>exact(one q).rec λx v r q=>(oI_W q r).rec λi t q=>PySem.P.str_of_int (log_lim (Ba q.1)) (A4b (s:=B2s i) R (B4c (Ba q.1)) q.2)
 |abs=>exact(one q).rec λx v r q=>(oI_W q r).rec λi t q=>PyProof.Rows.call_abs_int λu tk=>A1w R (by rw[abs_if];exact q)
 |min=>
  exact(two q).rec λx y v w r r2 q=>(oI_W q r).rec λi t q=>(oI_W q r2).rec λj u q=>PySem.min_two_ints P.am.handled λh' tk kp=>by
   have e:(if j<i then Value.int j u else .int i t)=.int (min i j) (if j<i then u else t):=by
    by_cases h:j<i
    ·rw[if_pos h,if_pos h,Int.min_eq_right (Int.le_of_lt h)]
    ·rw[if_neg h,if_neg h,Int.min_eq_left (Int.not_lt.mp h)]
   rw[e]
   exact⟨{S with s:={S.s with heap:=h',toks:=tk}},.p (.int (min i j)),.g' .rfl',R.keep kp,⟨_⟩,q⟩
 |max=>
  exact(two q).rec λx y v w r r2 q=>(oI_W q r).rec λi t q=>(oI_W q r2).rec λj u q=>PySem.max_two_ints P.am.handled λh' tk kp=>by
   have e:(if j>i then Value.int j u else .int i t)=.int (max i j) (if j>i then u else t):=by
    by_cases h:j>i
    ·rw[if_pos h,if_pos h,Int.max_eq_right (Int.le_of_lt h)]
    ·rw[if_neg h,if_neg h,Int.max_eq_left (Int.not_lt.mp h)]
   rw[e]
   exact⟨{S with s:={S.s with heap:=h',toks:=tk}},.p (.int (max i j)),.g' .rfl',R.keep kp,⟨_⟩,q⟩
 |range1=>exact(one q).rec λx v r q=>(oI_W q r).rec λi t q=>
   have g:=Ba q.1
   call_range_1 (B1w (h':=S.s.heap) R (small_one neg62 (by decide) (Int.le_trans neg62' (Int.le_of_lt g.1)) (Int.lt_of_lt_of_le g.2 pos62)) (rl_lim ((Int.sub_zero i).symm▸Int.le_of_lt g.2)) q.2)
 |range2=>exact(two q).rec λx y v w r r2 q=>(oI_W q r).rec λi t q=>(oI_W q r2).rec λj u q=>
   have g:=Ba q.1
   call_range_2 (B1w (h':=S.s.heap) R (small_one (Int.le_trans neg62 g.1) (Int.lt_of_lt_of_le g.2.1 pos62) (Int.le_trans neg62 g.2.2.1) (Int.lt_of_lt_of_le g.2.2.2 pos62)) (rl_lim (Int.le_trans (Int.sub_le_self j g.1) (Int.le_of_lt g.2.2.2))) q.2)
 |list=>
  exact(one q).rec λx v r q=>by
   cases x with
   |p a=>cases a with
    |range lo hi=>
     exact r.rec λa t u z g s l=>call_list_range P.am.handled (R.stay _ _ g) s (A9b lo hi) l λh' tk acc c kp ho hI=>
      ok_gr (b:=.p (.lst ((A0t lo hi).map .int))) R fresh ho kp (λsub=>⟨acc.toList,⟨_,_,c,GM.put_self,rfl,congrArg (Data.seq · c) (Array.toArray_toList (xs:=acc)).symm⟩,(Aw (as:=A0t lo hi) AVal.int).symm▸l,VReps.of (of_range hI)⟩) q
    |_=>exact q.elim
   |_=>exact q.elim
 |tuple=>exact(one q).rec λx v r q=>(oL_W R q r).rec λxs h q=>h.rec λa o vs n ho l r=>
   call_tuple_list ⟨_,ho,rfl,n,rfl⟩ (λh' kp=>ok_gr (o:={cls:=.type "tuple",data:=.seq vs.toArray}) (b:=.p (.tup xs)) R (A1p λo e=>Nat.lt_irrefl _ (Heap.lt_size (kp _ _ e))) (Heap.get?_push_size _ rfl) (λb o e=>A0o _ _ (kp b o e)) (λsub=>⟨vs,⟨_,_,_,GM.put_self,rfl,rfl⟩,l,VReps.of (r.mono (VRep.mono sub))⟩) q) (szM r l)
 |sorted=>exact(one q).rec λx v r q=>(oL_W R q r).rec λxs h q=>q.elim λps q=>So P.A P.l S v xs ps K Y P.am.handled R h q.1 q.2
end
section
variable{P:Pl}{E:CE}{env:Env}{S S':St}{K:Kv}{X:Kx}{Y:Value->Shared->Prop}{x:V}{vx:Value}
theorem sx_bi(Fa:Facts P.cx)(So:A1z P.cx)(V:A2f env E){p pos:Pos}{es:List PySem.Expr}{xs:List Ex}{b:Bi}(hd:(biNm b==("__debug__" :Str))=false)(hg:E.globs.contains (biNm b)=true)
  (hn:Plain es) (h:SXs P E env es xs):SX P E env (.Call (.Name (biNm b) p) es [] pos) (.bi b xs):=λS ρ K X R L q=>
 A7u (A5d V hd hg R (Fa.bi b) (args_b hn (by cases b <;> rfl) h R L (PR.bind q) λS' as vs _ R' r q=>bi_rule So R' r (O.toW q)))
abbrev Envs(l:List Env)(F:GM):Prop:=∀env∈l,A6m F env
theorem A6m.up{F F':GM}{env:Env}(k:Sub F F')(h:A6m F env):A6m F' env:=h.rec λL o es ep kd f g d=>⟨L,o,es,ep,kd,f,k _ _ g,d⟩
section
variable{cx:Cx}{l:List Env}{F:GM}{I:Addr}{o o':Obj}{h':Heap}{tk:Nat}
theorem Rel.fput(R:Rel cx l S)(hG:S.G I=none)(hF:S.F I=none)(hσ:∀k:Nat,S.σ[k]?≠some I)(ho:S.s.heap.get? I=some o):Rel cx l {S with F:=S.F.put I o}:=
 {R with
  cell:=λk c e=>(R.cell k c e).rec λa o e q d=>⟨a,o,e,q,d⟩
  off:=λk b e=>⟨(R.off k b e).1,(GM.put_ne λ(q:b=I)=>hσ k (q▸e)).trans (R.off k b e).2⟩
  fram:=λb x e=>by
   rcases GM.of_put e with⟨rfl,rfl⟩ | e
   ·exact⟨hG,_,ho,.same⟩
   ·exact R.fram b x e
  envs:=λenv he=>(R.envs env he).up (GM.sub_put hF)}
theorem notFr(he:Envs l F)(hF:F I=none):I ∉ A3j l:=λh=>by
 obtain⟨env,hm,e⟩:=List.mem_filterMap.mp h
 obtain⟨L,o,es,ep,_,f,g,_⟩:=he env hm
 rw[e] at f;cases f
 rw[hF] at g;cases g
theorem Rel.beside(R:Rel cx l S)(e:S.F I=some o)(he:Envs l F)(hF:F I=none):S.s.heap.get? I=some o:=R.exact e (notFr he hF)
theorem Rel.cBes(R:Rel cx l S)(e:S.F I=some o)(k:Nat):S.σ[k]?≠some I:=λq=>A0a ((R.off k I q).2.symm.trans e)
theorem A4p{F':GM}(k:Sub F F')(hF:F I=none):Sub F (F'.put I o):=λb x e=>(GM.put_ne (A1j hF e)).trans (k b x e)
theorem Rel.fdown(R:Rel cx l S)(sb:Sub F S.F)(he:Envs l F)(k:∀b x,(S.F b=none∨∃o,F b=some o)->S.s.heap.get? b=some x->h'.get? b=some x):Rel cx l {S with F:=F,s:={S.s with heap:=h',toks:=tk}}:=
 {R with
  stay:=λb x q=>k b x (.inl (A1p λo z=>A0a ((R.fram b o z).1.symm.trans q))) (R.stay b x q)
  cell:=λi c q=>(R.cell i c q).rec λa o q w d=>⟨a,o,q,k a o (.inl (R.off i a q).2) w,d⟩
  off:=λi b q=>⟨(R.off i b q).1,A1p λx z=>A0a ((R.off i b q).2.symm.trans (sb b x z))⟩
  fram:=λb x z=>⟨(R.fram b x (sb b x z)).1,(R.fram b x (sb b x z)).2.rec λo2 q m=>⟨o2,k b o2 (.inr ⟨x,z⟩) q,m⟩⟩
  envs:=he}
theorem A7w{F':GM}{b:Addr}(e:F' I=some o)(hF:F I=none)(h:F' b=none∨∃o,F b=some o):b≠I:=λz=>h.elim (λh=>A0a (h.symm.trans (z▸e))) λh=>h.elim λ_ h=>A0a (hF.symm.trans (z▸h))
theorem Rel.fupd'(R:Rel cx l S)(e:S.F I=some o)(he:Envs l (S.F.put I o'))(ho:h'.get? I=some o')(k:∀b x,b≠I->S.s.heap.get? b=some x->h'.get? b=some x):Rel cx l {S with F:=S.F.put I o',s:={S.s with heap:=h',toks:=tk}}:=
 {R with
  stay:=λb x q=>k b x (A1j (R.fram I o e).1 q) (R.stay b x q)
  cell:=λi c q=>(R.cell i c q).rec λa o q w d=>⟨a,o,q,k a o (λz=>R.cBes e i (z▸q)) w,d⟩
  off:=λi b q=>⟨(R.off i b q).1,(GM.put_ne λ(z:b=I)=>R.cBes e i (z▸q)).trans (R.off i b q).2⟩
  fram:=λb x z=>by
   by_cases c:b=I
   ·subst c
    cases Option.some.inj (GM.put_self.symm.trans z)
    exact⟨(R.fram b o e).1,_,ho,.same⟩
   ·have z:=(GM.put_ne c).symm.trans z
    exact⟨(R.fram b x z).1,(R.fram b x z).2.rec λo2 q m=>⟨o2,k b o2 c q,m⟩⟩
  envs:=he}
theorem Rel.fupd(R:Rel cx l S)(e:S.F I=some o)(sb:Sub F S.F)(he:Envs l F)(hF:F I=none)(ho:h'.get? I=some o')(k:∀b x,b≠I->S.s.heap.get? b=some x->h'.get? b=some x):Rel cx l {S with F:=S.F.put I o',s:={S.s with heap:=h',toks:=tk}}:=
 R.fupd' e (λenv hm=>(he env hm).up (A4p sb hF)) ho k
theorem A2n(R:Rel cx l S)(z:o.isFreed=false):Rel cx l {S with F:=S.F.put S.s.heap.objs.size o,s:={S.s with heap:=S.s.heap.push o,toks:=tk}}:=
 Rel.fput (S:={S with s:={S.s with heap:=S.s.heap.push o,toks:=tk}}) (R.keep A0o) (R.gNone fresh) (R.fNone fresh) (R.off' fresh) (A1i z)
theorem A9t.fdn{e:Addr}{fl:Value}{vs:Array Value}(dn:∀{b},Off S b->Off {S with F:=F} b)(m:A9t S e fl vs):A9t {S with F:=F} e fl vs:=m.rec λT oT ts h x d o q z=>⟨T,oT,ts,h,dn x,d,o,q,z⟩
theorem A8j.fdn{e:Addr}{u:Value}{vs:Array Value}(dn:∀{b},Off S b->Off {S with F:=F} b)(t:A8j S e u vs):A8j {S with F:=F} e u vs:=t.rec .no λfl m w=>.yes fl (m.fdn dn) w
theorem ExcB.fdn{p:AVal}{a:Addr}{vs:Array Value}(dn:∀{b},Off S b->Off {S with F:=F} b)(b:ExcB cx S p a vs):ExcB cx {S with F:=F} p a vs:=b.rec λdx es n oe v w x o c i q gd fk ev r=>⟨dx,es,n,oe,v,w,dn x,o,c,i,q,gd,fk,ev,r⟩
theorem Exx.down{s1 s2:Shared}{u v:Value}(hF:S.F I=none)(he:Envs l S.F)(x:Exx cx l {S with F:=S.F.put I o,s:=s1} u X v s2):Exx cx l S u X v s2:=by
 refine x.rec λS1 p n R x k=> ?_
 have sb:Sub S.F S1.F:=n.f.symm▸GM.sub_put hF
 have dn:∀{b:Addr},Off S1 b->Off {S1 with F:=S.F} b:=λo=>⟨o.g,A1p λx z=>A0a (o.f.symm.trans (sb _ x z)),o.x⟩
 refine⟨{S1 with F:=S.F},p,⟨rfl,n.g⟩,R.fdown sb he λ_ _ _ e=>e,x.rec λa vs b t=>⟨a,vs,b.fdn dn,t.fdn dn⟩,k⟩
end
inductive B9u(k:List Nat):Option PySem.Expr->Prop
 |mk (kd:Nat) (p:Pos):B9u k (some (.Constant (.str ⟨k.toArray⟩) kd p))
inductive KeyP(k:List Nat):Value×Value->Prop
 |mk (t:Tok) (v:Value):KeyP k (.str ⟨k.toArray⟩ t,v)
inductive OkPs(cx:Cx)(l:List Env)(S:St)(ks:List (List Nat))(K:List V->Ht->Prop)(ps:List (Value×Value))(s:Shared):Prop
 |mk (h:All2 KeyP ks ps) (o:Okl cx l S K (ps.map (·.2)) s)
theorem B3s{keys:List (Option PySem.Expr)}{ks:List (List Nat)}(hk:All2 B9u ks keys):∀{vals:List PySem.Expr} {xs:List Ex},(∀k∈ks,k.length<=sizeLine)->All2 (SX P E env) vals xs->keys.length=vals.length->∀(S:St) (ρ:Lo) (K:List V->Ht->Prop) (X:Kx) (pos:Pos),Rel P.cx P.l S->A0i P.cx S env E ρ->PR (A1l P.o P.oi xs ρ S.h) K X->
  wpAny P.M P.A (evalPairs (pairTrees keys vals env pos)) (OkPs P.cx P.l S ks K) (Exx P.cx P.l S .none X) S.s:=by
 induction hk with
 |nil=>
  intro vals xs _ hv e S ρ K X pos R L q
  cases hv with
  |nil=>exact pairTrees_nil_walk ⟨.nil,ok_l (a:=[]) R rfl q⟩
  |cons=>cases e
 |@cons k key ks keys h1 _ ih=>
  intro vals xs hl hv e S ρ K X pos R L q
  cases hv with
  |nil=>cases e
  |@cons v x vals xs hv hvs=>
   refine h1.rec λkd p=>pairTrees_cons_walk (wpAny_mkText ?_)
   have n0:NxM S {S with s:={S.s with toks:=S.s.toks+1}}:=.g' .rfl'
   refine Af (hv {S with s:={S.s with toks:=S.s.toks+1}} ρ _ X (R.toks _) (L.nx n0) (PR.bind q)) (λvv _ x=>x.rec λS1 a n R1 r q=> ?_) λ_ _ e=>e.le n0
   refine upX (n0.trans n) (λz=>z) (Af (ih (λk hk=>hl k (.tail _ hk)) hvs (Nat.succ.inj e) S1 ρ _ X pos R1 ((L.nx n0).nx n) (PR.bind q)) (λps _ x=>x.rec λhk x=>⟨.cons ⟨_,_⟩ hk,x.rec λS2 as n2 R2 rs q=>⟨S2,a::as,n0.trans (n.trans n2),R2,⟨r.mono n2.g n2.u,rs⟩,q⟩⟩) λ_ _ e=>e)
noncomputable def strV:Value->Str
 |.str s _=>s
 |_=>⟨#[]⟩
noncomputable def A9h(ps:List (Value×Value)):List (Str×Value):=ps.map λp=>(strV p.1,p.2)
theorem B4f{w:World}{ks:List (List Nat)}{ps:List (Value×Value)}(h:All2 KeyP ks ps):Carries (PySem.strKind pw w) ps (A9h ps):=h.rec trivial λh _ ih=>h.rec λt v=>⟨strKind_is _ _ _ _,rfl,ih⟩
theorem kvs_keys{ks:List (List Nat)}{ps:List (Value×Value)}(h:All2 KeyP ks ps):(A9h ps).map (·.1)=ks.map λk=>(⟨k.toArray⟩:Str):=h.rec rfl λ{k p ks ps} h _ ih=>by
 show strV p.1::(A9h ps).map (·.1)=_::_
 rw[ih];exact h.rec λt v=>rfl
theorem kvs_vals(ps:List (Value×Value)):(A9h ps).map (·.2)=ps.map (·.2):=List.map_map
theorem A9g(more:List (Str×Value)):∀(kvs:List (Str×Value)),((kvs++more).map (·.1)).Nodup->merged kvs more=kvs++more:=by
 induction more with
 |nil=>intro kvs _;exact(A6 kvs).symm
 |cons p r ih=>
  intro kvs h
  have e:stored kvs p.1 p.2=kvs++[p]:=by
   unfold stored
   refine if_neg λhc=> ?_
   obtain⟨x,hx,hxe⟩:=List.any_eq_true.mp hc
   rw[Cp,List.map_cons,List.nodup_append] at h
   exact h.2.2 x.1 (List.mem_map_of_mem hx) p.1 (.head _) (Ba hxe)
  show merged (stored kvs p.1 p.2) r=_
  rw[e,ih (kvs++[p]) (by rw[Ai];exact h),Ai];rfl
theorem dkey_of{w:World}{es:List DictEntry}{kvs:List (Str×Value)}(hp:Pairs (PySem.strKind pw w) es kvs):∀{ks:List (List Nat)},kvs.map (·.1)=ks.map (λk=>(⟨k.toArray⟩:Str))->(∀e∈es,∃k,(PySem.strKind pw w).is k e.key=true/\e.hash=(PySem.strKind pw w).hash k)->DKey w.params ks es/\es.map (·.val)=kvs.map (·.2):=by
 induction hp with
 |nil=>
  intro ks h _
  cases ks with
  |nil=>exact⟨.nil,rfl⟩
  |cons=>cases h
 |@cons e kv es kvs h1 h2 h3 ih=>
  intro ks h hk
  cases ks with
  |nil=>cases h
  |cons k ks=>
   have hh:=List.cons.inj h
   have r:=ih hh.2 λe he=>hk e (.tail _ he)
   obtain⟨t,ht⟩:=Value.isStrOf_shape h1
   obtain⟨k',hk1,hk2⟩:=hk e (.head _)
   have hkk:=(PySem.strKind pw w).inj _ _ _ hk1 h1
   refine⟨.cons ⟨t,ht.trans (congrArg (Value.str · t) hh.1),hk2.trans ((congrArg _ (hkk.trans hh.1)).trans rfl)⟩ r.1,?_⟩
   show e.val::es.map (·.val)=kv.2::kvs.map (·.2)
   rw[h2,r.2]
theorem arr_inj{s t:List Nat}(h:(⟨s.toArray⟩:Str)=⟨t.toArray⟩):s=t:=congrArg (λx:Str=>x.cps.toList) h
theorem all_some{keys:List (Option PySem.Expr)}{ks:List (List Nat)}(hk:All2 B9u ks keys):keys.all (·.isSome)=true:=hk.rec rfl λh _ ih=>h.rec λ_ _=>ih
theorem vps_of{cx:Cx}{G:GM}{σ:List Addr}{as:List V}{ps:List AVal}{vs:List Value}(e:allP as=some ps)(h:VRs cx G σ as vs):VReps cx G ps vs:=(A2x e h).1
theorem sx_dict(Fa:Facts P.cx){keys:List (Option PySem.Expr)}{vals:List PySem.Expr}{ks:List (List Nat)}{xs:List Ex}{pos:Pos}(hk:All2 B9u ks keys)(hl:ks.length<=15)(h0:keys≠[])(hlen:keys.length=vals.length)(hnd:ks.Nodup)
  (h100:∀k∈ks,k.length<=sizeLine) (hv:All2 (SX P E env) vals xs):SX P E env (.Dict keys vals pos) (.dict ks xs):=λS ρ K X R L q=>by
 have hF:=R.fNone (a:=S.s.heap.objs.size) fresh
 have n0:Sub S.F (S.F.put S.s.heap.objs.size {cls:=.type "dict",data:=.dict #[]}):=GM.sub_put hF
 have L1:A0i P.cx {S with F:=S.F.put S.s.heap.objs.size {cls:=.type "dict",data:=.dict #[]},s:={S.s with heap:=S.s.heap.push {cls:=.type "dict",data:=.dict #[]}}} env E ρ:=
  L.rec λm cm n f h=>⟨m,cm,n,⟨f.loc.rec λo es ep h d k f=>⟨o,es,ep,n0 _ _ h,d,k,f⟩,λx c e=>(f.cell x c e).rec λo h d=>⟨o,n0 _ _ h,d⟩⟩,λi v x a b=>(h i v x a b).rec λv r h=>⟨v,r,h⟩⟩
 refine wpAny_Dict_walk (knd:=PySem.strKind pw P.cx.w) (all_some hk) hlen h0 (hk.length▸hl) ?_
 refine Af (B3s hk h100 hv hlen _ ρ _ X pos (A2n (tk:=S.s.toks) R rfl) L1 (PR.bind q)) (λps s₁ x=> ?_) λe s' z=>Exx.down hF R.envs z
 refine x.rec λhp x=>x.rec λS1 as n R1 rs q=> ?_
 obtain⟨qs,eq,q'⟩:=onP q
 have hkv:=kvs_keys hp
 have e1:S1.F S.s.heap.objs.size=some {cls:=.type "dict",data:=.dict #[]}:=(congrFun n.f _).trans GM.put_self
 have hg:=(R1.fram _ _ e1).1
 refine⟨A9h ps,B4f hp,⟨_,#[],0,R1.beside e1 R.envs hF,⟨rfl,rfl,rfl⟩,rfl,λe he=>absurd he (Array.not_mem_empty e),.nil,List.nodup_nil⟩,λh' hd' hs'=> ?_⟩
 have hm:merged [] (A9h ps)=A9h ps:=A9g (A9h ps) [] (by
  rw[List.nil_append,hkv]
  exact List.Pairwise.map _ (λa b h e=>h (arr_inj e)) hnd)
 rw[hm] at hd'
 obtain⟨⟨cl,dd,dat,sl⟩,es,ep,ho',⟨c1,c2,c3⟩,hdat,hks,hpa,_⟩:=hd'
 cases c1;cases c2;cases c3;cases hdat
 have dk:=dkey_of hpa hkv λe he=>hks e (Array.mem_toList_iff.mp he)
 refine⟨{S1 with F:=S.F,G:=S1.G.put S.s.heap.objs.size {cls:=.type "dict",data:=.dict es ep},s:={S1.s with heap:=h',toks:=S1.s.toks+ps.length}},.p (.dict ks qs),⟨rfl,n.g.trans (GM.sub_put hg),n.u⟩,?_,?_,q'⟩
 ·exact Rel.gput (S:={S1 with F:=S.F,s:={S1.s with heap:=h',toks:=S1.s.toks+ps.length}}) (R1.fdown (n.f.symm▸n0) R.envs λb x hb e=>(hs'.2 b (A7w e1 hF hb)).trans e) hg hF (R1.cBes e1) ho'
 ·exact⟨es.toList,⟨_,ep,GM.put_self,beq_eq_false_iff_ne.mpr (Nat.ne_of_gt (modules_low (Fa.nolim _ R.inK))),dk.1⟩,by rw[dk.2,kvs_vals];exact(vps_of eq rs).mono (GM.sub_put hg)⟩
end
inductive ItC(T:String)(cv:Value)(i:Nat)(o:Obj):Prop
 |mk (c:o.cls=.type T) (d:o.data=.fields #[cv,.int i 0])
def ItO(v:V)(cv:Value)(i:Nat)(o:Obj):Prop:=match v with
 |.p a=>(match a with
  |.str z=>ItC (strIterType ⟨z.toArray⟩) cv i o
  |.range lo hi=>o={cls:=.type "range_iterator",data:=.fields #[rawInt (lo+(i:Int)*1),rawInt (((A0t lo hi).length:Int)- (i:Int)),rawInt 1]}
  |.tup _=>ItC "tuple_iterator" cv i o
  |_=>ItC "list_iterator" cv i o)
 |.ref _=>ItC "list_iterator" cv i o
 |.obj _ _=>False
 |.tup _=>False
inductive ItH(v:V)(cv:Value)(I:Addr)(i:Nat)(h:Heap):Prop
 |mk (o:Obj) (g:h.get? I=some o) (t:ItO v cv i o)
inductive ItAt(cx:Cx)(A:Around)(G:GM)(v:V)(cv:Value)(xs:List AVal)(I:Addr)(i:Nat)(h:Heap):Prop
 |mk (fp:List Addr) (n:Nat) (Pv:Nat->Value->Prop) (St:Nat->Heap->Prop) (W:Walks pw cx.w A I fp [I] n Pv St) (hn:n=xs.length) (st:St i h) (pv:∀j x v,xs[j]?=some x->Pv j v->VRep cx G x v) (dn:∀j h,St j h->ItH v cv I j h)
theorem str_walk{w:World}{A:Around}(hh:A.handled=none)(I:Addr)(x:Str)(t:Tok):Walks pw w A I [I] [I] x.cps.size (SignAt x) (λi h=>h.IsStrIter I (strIterType x) x t i):=by
 unfold strIterType
 cases ha:x.cps.all (· <128)
 ·exact Walks.strWide hh I x t
 ·exact Walks.strAscii hh I x t
theorem ItC.h{T:String}{cv:Value}{i:Nat}{o:Obj}{h:Heap}{I:Addr}(g:h.get? I=some o)(t:ItC T cv i o):∃o,h.get? I=some o/\o.cls=.type T/\o.data=.fields #[cv,.int i 0]:=⟨o,g,t.rec λc d=>⟨c,d⟩⟩
theorem List.at_map{α β:Type}{f:α->β}{l:List α}{j:Nat}{y:β}(e:(l.map f)[j]?=some y):∃x,l[j]?=some x/\f x=y:=Option.map_eq_some_iff.mp (List.getElem?_map.symm.trans e)
section
variable{P:Pl}{E:CE}{env:Env}{S S':St}{K:Kv}{X:Kx}{Y:Value->Shared->Prop}{v:V}{cv:Value}{xs:List AVal}{F:GM}{I:Addr}{o:Obj}{i:Nat}{A:Around}
theorem B7m(hh:A.handled=none)(hO:∀j o,ItC "list_iterator" cv j o->ItO v cv j o)(h:A2y P.cx S xs cv)(g:S.s.heap.get? I=some o)(t:ItC "list_iterator" cv i o):ItAt P.cx A S.G v cv xs I i S.s.heap:=by
 revert t hO
 refine h.rec λa oa vs n ho l r hO t=> ?_
 have hne:a≠I:=λe=>by
  subst e
  exact t.rec λc d=>absurd ((congrArg Obj.cls (Option.some.inj (ho.symm.trans g))).trans c) (by intro h;injection h with h;exact absurd h (by decide))
 refine⟨_,_,_,_,Walks.list hh I a hne vs.toArray,Bk.trans r.length,⟨t.h g,_,ho,rfl,n,rfl⟩,λj x v e f=> ?_,λj h st=>st.1.elim λo w=>⟨o,w.1,hO j o ⟨w.2.1,w.2.2⟩⟩⟩
 exact(r.at e).elim λw k=>Option.some.inj (k.1.symm.trans (List.getElem?_toArray.symm.trans f))▸k.2
theorem it_at(hh:A.handled=none)(R:Rel P.cx P.l S)(r:VR P.cx S.G S.σ v cv)(it:A0z S.h v=some xs)(hG:S.G I=none)(g:S.s.heap.get? I=some o)(t:ItO v cv i o):ItAt P.cx A S.G v cv xs I i S.s.heap:=by
 cases v with
 |p a=>cases a with
  |str z=>
   cases it
   revert t
   refine r.rec λu l t=>⟨_,_,_,_,str_walk hh I ⟨z.toArray⟩ u,(Aw (as:=z) _).symm▸Bk,t.h g,λj x v e f=> ?_,λj h st=>st.elim λo w=>⟨o,w.1,w.2.1,w.2.2⟩⟩
   obtain⟨c,e1,rfl⟩:=List.at_map e
   obtain⟨c',u',f,rfl⟩:=f
   cases Option.some.inj (f.symm.trans (List.getElem?_toArray.trans e1))
   exact A9s.mk (s:=[c]) u' one16
  |range lo hi=>
   cases it
   cases t
   exact⟨_,_,_,_,Walks.range hh I lo 1 _,(Aw (as:=A0t lo hi) _).symm,g,λj x v e f=>f.elim λt f=>by rw[B1n e,f,Int.mul_one];exact⟨t⟩,λj h st=>⟨_,st,rfl⟩⟩
  |tup ys=>
   cases it
   revert t
   refine r.elim λvs r=>r.1.rec λa oa n ga c d t=> ?_
   refine⟨_,_,_,_,Walks.tuple hh I a (A1j hG ga) vs.toArray,Bk.trans r.2.2.all.length,⟨t.h g,_,R.stay _ _ ga,c,n,d⟩,λj x v e f=> ?_,λj h st=>st.1.elim λo w=>⟨o,w.1,w.2.1,w.2.2⟩⟩
   exact(r.2.2.all.at e).elim λw k=>Option.some.inj (k.1.symm.trans (List.getElem?_toArray.symm.trans f))▸k.2
  |lst ys=>exact B7m hh (λ_ _ h=>h) (A1n (x:=.p (.lst ys)) R it r) g t
  |_=>cases it
 |ref k=>exact B7m hh (λ_ _ h=>h) (A1n (x:=.ref k) R it r) g t
 |_=>cases it
theorem A9i{Q:Option Value->Shared->Prop}(hh:A.handled=none)(R:Rel P.cx P.l S)(f:S.F I=some o)(sb:Sub F S.F)(he:Envs P.l F)(hF:F I=none)(r:VR P.cx S.G S.σ v cv)(it:A0z S.h v=some xs)(t:ItO v cv i o){x:AVal}(hx:xs[i]?=some x)
  (q:∀w o' h' tk,VRep P.cx S.G x w->ItO v cv (i+1) o'->Rel P.cx P.l {S with F:=S.F.put I o',s:={S.s with heap:=h',toks:=tk}}->Q (some w) {S.s with heap:=h',toks:=tk}):wpAny P.M A (pyNext (.ref I)) Q Y S.s:=
 (it_at hh R r it (R.fram _ _ f).1 (R.beside f he hF) t).rec λfp n Pv St W hn st pv dn=>W.item i S.s Q Y (hn▸(Bm.mp hx).1) st λw h' tk hw st' kp=>
  (dn _ _ st').rec λo' g' t'=>q w o' h' tk (pv _ _ _ hx hw) t' (R.fupd f sb he hF g' λb z hb=>kp b z λm=>hb (Bo.mp m))
theorem B2h{Q:Option Value->Shared->Prop}(hh:A.handled=none)(R:Rel P.cx P.l S)(f:S.F I=some o)(sb:Sub F S.F)(he:Envs P.l F)(hF:F I=none)(r:VR P.cx S.G S.σ v cv)(it:A0z S.h v=some xs)(t:ItO v cv xs.length o)
  (q:∀h' tk,(∀b x,b≠I->S.s.heap.get? b=some x->h'.get? b=some x)->Q none {S.s with heap:=h',toks:=tk}):wpAny P.M A (pyNext (.ref I)) Q Y S.s:=
 (it_at hh R r it (R.fram _ _ f).1 (R.beside f he hF) t).rec λfp n Pv St W hn st pv dn=>W.done S.s Q Y (hn.symm▸st) λh' tk kp=>q h' tk λb z hb=>kp b z λm=>hb (Bo.mp m)
theorem B7k{Q:Value->Shared->Prop}(hh:A.handled=none)(R:Rel P.cx P.l S)(f:S.F I=some o)(sb:Sub F S.F)(he:Envs P.l F)(hF:F I=none)(r:VR P.cx S.G S.σ v cv)(it:A0z S.h v=some xs)(t:ItO v cv i o)(q:Q (.ref I) S.s):wpAny P.M A (pyIter (.ref I)) Q Y S.s:=
 (it_at hh R r it (R.fram _ _ f).1 (R.beside f he hF) t).rec λfp n Pv St W hn st pv dn=>W.self i S.s Q Y st q
theorem B2g{Q:Value->Shared->Prop}(R:Rel P.cx P.l S)(r:VR P.cx S.G S.σ v cv)(it:A0z S.h v=some xs)
  (q:∀o,ItO v cv 0 o->Rel P.cx P.l {S with F:=S.F.put S.s.heap.objs.size o,s:={S.s with heap:=S.s.heap.push o}}->Q (.ref S.s.heap.objs.size) {S.s with heap:=S.s.heap.push o}):wpAny P.M A (pyIter cv) Q Y S.s:=by
 have lst:(∀o,ItC "list_iterator" cv 0 o->ItO v cv 0 o)->A2y P.cx S xs cv->wpAny P.M A (pyIter cv) Q Y S.s:=λhO h=>by
  revert hO q
  exact h.rec λa oa vs n ho l r q hO=>wpAny_pyIter_list ⟨_,ho,rfl,n,rfl⟩ (q _ (hO _ ⟨rfl,rfl⟩) (A2n (tk:=S.s.toks) R rfl))
 cases v with
 |p a=>cases a with
  |str z=>
   revert q
   exact r.rec λu l q=>wpAny_pyIter_strU (q _ ⟨rfl,rfl⟩ (A2n (tk:=S.s.toks) R rfl))
  |range lo hi=>
   revert q
   refine r.rec λa t u z g s l q=>wpAny_pyIter_range (R.stay _ _ g) s (q _ ?_ (A2n (tk:=S.s.toks) R rfl))
   show _=_
   rw[A9b,Int.natCast_zero,Int.zero_mul,Int.add_zero,Int.sub_zero]
  |tup ys=>
   revert q
   exact r.elim λvs r=>r.1.rec λa oa n ga c d q=>wpAny_pyIter_tuple ⟨_,R.stay _ _ ga,c,n,d⟩ (q _ ⟨rfl,rfl⟩ (A2n (tk:=S.s.toks) R rfl))
  |lst ys=>exact lst (λ_ h=>h) (A1n (x:=.p (.lst ys)) R it r)
  |_=>cases it
 |ref k=>exact lst (λ_ h=>h) (A1n (x:=.ref k) R it r)
 |_=>cases it
theorem A5u{h h':Ht}(it:A0z h v=some xs)(s:A2l v xs h'):A0z h' v=some xs:=by
 cases v with
 |p a=>exact it
 |ref k=>
  show(match h'[k]? with | some c=>(match c with | .lst xs=>some xs | .lstR _=>none | .dct _ _=>none) | none=>none)=some xs
  rw[show h'[k]?=some (.lst xs) from s]
 |_=>cases it
end
section
variable{cx:Cx}{E:CE}{env:Env}{S S':St}
noncomputable def clOf(env:Env):List (Str×NameKind)->List (Str×Addr)->List (Str×Addr)
 |[],cs=>cs
 |y::r,cs=>clOf env r (match y.2==.free with | true=>(y.1,(env.cells.lookup y.1).getD 0)::cs | false=>cs)
abbrev Cells(env:Env)(ns:List (Str×NameKind)):Prop:=∀y∈ns,(y.2==NameKind.free)=true->(env.cells.lookup y.1).isSome=true
theorem A9o{sc:Scope}(h:Cells env sc.names):closureFor sc env=pure (clOf env sc.names []):=by
 have key:∀(ns:List (Str×NameKind)) (cs:List (Str×Addr)),Cells env ns->
   (forIn ns cs (λ(x:Str×NameKind) (r:List (Str×Addr))=>if x.2==.free then(do let a←cellOf env x.1;pure (ForInStep.yield ((x.1,a)::r))) else pure (ForInStep.yield r)):Sem (List (Str×Addr)))=pure (clOf env ns cs):=by
  intro ns
  induction ns with
  |nil=>exact λ_ _=>rfl
  |cons y r ih=>
   intro cs hy
   rw[List.forIn_cons,clOf]
   cases hk:y.2==NameKind.free with
   |true=>
    obtain⟨c,hc⟩:=Option.isSome_iff_exists.mp (hy y (.head _) hk)
    have:cellOf env y.1=pure c:=by unfold cellOf;rw[hc]
    rw[if_pos rfl,this,hc]
    exact ih _ λy hm=>hy y (.tail _ hm)
   |false=>exact ih _ λy hm=>hy y (.tail _ hm)
 unfold closureFor
 exact(congrArg (λm=>m >>= pure) (key sc.names [] h)).trans rfl
theorem A1f{α:Type}{y x:Str}{a:α}{l:List (Str×α)}:List.lookup x ((y,a)::l)=match x==y with | true=>some a | false=>l.lookup x:=List.lookup_cons
theorem B8z:∀{ns:List (Str×NameKind)} {cs:List (Str×Addr)},Cells env ns->(∀x c,cs.lookup x=some c->env.cells.lookup x=some c)->∀x c,(clOf env ns cs).lookup x=some c->env.cells.lookup x=some c:=by
 intro ns
 induction ns with
 |nil=>exact λ_ k=>k
 |cons y r ih=>
  intro cs hy k
  refine ih (λy hm=>hy y (.tail _ hm)) λx c e=> ?_
  cases hk:y.2==NameKind.free with
  |false=>rw[hk] at e;exact k x c e
  |true=>
   rw[hk] at e
   change List.lookup x ((y.1,_)::cs)=some c at e
   rw[A1f] at e
   cases z:x==y.1 with
   |false=>rw[z] at e;exact k x c e
   |true=>
    rw[z] at e
    obtain⟨d,hd⟩:=Option.isSome_iff_exists.mp (hy y (.head _) hk)
    rw[eq_of_beq z,hd];rw[hd] at e;exact e
theorem clOf_has{x:Str}:∀{ns:List (Str×NameKind)} {cs:List (Str×Addr)},((x,NameKind.free)∈ns∨(cs.lookup x).isSome=true)->((clOf env ns cs).lookup x).isSome=true:=by
 intro ns
 induction ns with
 |nil=>exact λh=>h.resolve_left (Cn)
 |cons y r ih=>
  intro cs h
  refine ih (h.elim (λh=> ?_) λh=>.inr ?_)
  ·cases h with
   |head=>exact .inr (by show(List.lookup x ((x,_)::cs)).isSome=true;rw[A1f,beq_self_eq_true];rfl)
   |tail _ h=>exact .inl h
  ·cases y.2==NameKind.free with
   |false=>exact h
   |true=>
    show(List.lookup x ((y.1,_)::cs)).isSome=true
    rw[A1f]
    cases x==y.1 with
    |false=>exact h
    |true=>rfl
noncomputable def relK(env:Env)(n:Str)(k:NameKind):NameKind:=if(k==NameKind.free&&env.scope.kind==.function&&env.kindOf n==some .cell) then .cell else k
theorem B3y{α β:Type}{f:Str->α->β}{x:Str}:∀{l:List (Str×α)},(l.map λy=>(y.1,f y.1 y.2)).lookup x=(l.lookup x).map (f x):=by
 intro l
 induction l with
 |nil=>rfl
 |cons y r ih=>
  rw[List.map_cons,A1f,A1f (y:=y.1) (a:=y.2)]
  cases z:x==y.1 with
  |false=>exact ih
  |true=>rw[eq_of_beq z];rfl
theorem A8z{sc:Scope}{x:Str}:(relabel sc env).names.lookup x=(sc.names.lookup x).map (relK env x):=by
 have e:(λ(y:Str×NameKind)=>if(y.2==NameKind.free&&env.scope.kind==.function&&env.kindOf y.1==some .cell) then(y.1,NameKind.cell) else(y.1,y.2))=λy=>(y.1,relK env y.1 y.2):=funext λy=>by
  unfold relK
  cases(y.2==NameKind.free&&env.scope.kind==.function&&env.kindOf y.1==some .cell) <;> rfl
 exact(congrArg (λf=>(sc.names.map f).lookup x) e).trans B3y
structure B1e(E:CE)(sc:Scope)(x:Str):Prop where
 kind:sc.kind=.function
 nocell:∀y∈sc.names,y.2≠ .cell
 own:sc.names.lookup x=some .local
 uniq:∀y∈sc.names,sc.names.lookup y.1=some y.2
 free:∀y,(A2j sc .free).contains y=true->E.cells.contains y=true
 off:(A2j sc .free).contains x=false
theorem A0q{α:Type}:∀{names:List (Str×α)},A3b (names.map (·.1))=true->∀y∈names,names.lookup y.1=some y.2:=by
 intro names
 induction names with
 |nil=>exact λ_ _ h=>absurd h Cn
 |cons z r ih=>
  intro h y hy
  have h:=Aq.mp h
  rw[A1f (y:=z.1) (a:=z.2)]
  cases hy with
  |head=>rw[beq_self_eq_true]
  |tail _ hy=>
   cases q:y.1==z.1 with
   |false=>exact ih h.2 y hy
   |true=>exact absurd (A4.mpr (List.mem_map.mpr ⟨y,hy,eq_of_beq q⟩)) (Bn.mp (Cg _ |>.mp h.1))
theorem A2d{sc:Scope}{k:NameKind}{x:Str}:(A2j sc k).contains x=true↔(x,k)∈sc.names:=
 ⟨λh=>by
  obtain⟨z,hz,rfl⟩:=List.mem_map.mp (A4.mp h)
  obtain⟨h1,h2⟩:=List.mem_filter.mp hz
  exact eq_of_beq h2▸h1,λh=>A4.mpr (List.mem_map.mpr ⟨_,List.mem_filter.mpr ⟨h,beq_self_eq_true k⟩,rfl⟩)⟩
theorem compS_of{sc:Scope}{x:Str}(h:compOK E sc x=true):B1e E sc x:=by
 have h1:=Aq.mp h
 have h2:=Aq.mp h1.1
 have h3:=Aq.mp h2.1
 have h4:=Aq.mp h3.1
 have h5:=Aq.mp h4.1
 exact⟨eq_of_beq h5.1,λy hy e=>Bn.mp (Cg _ |>.mp (Av.mp h5.2 y hy)) (e▸beq_self_eq_true NameKind.cell),eq_of_beq h4.2,A0q h3.2,λy hy=>Av.mp h2.2 y (A4.mp hy),Cg _ |>.mp h1.2⟩
theorem B1e.cells(V:A2f env E){sc:Scope}{x:Str}(h:B1e E sc x):Cells env sc.names:=λy hy e=>Option.isSome_iff_exists.mpr (V.cells _ (h.free _ (A2d.mpr (eq_of_beq e▸hy)))).2
theorem A4h{sc:Scope}{C:Addr}{x:Str}{k:NameKind}(h:sc.names.lookup x=some k):(compEnvC sc (clOf env sc.names []) C env).kindOf x=some (relK env x k):=A8z.trans (congrArg (Option.map (relK env x)) h)
theorem comp_env(V:A2f env E){sc:Scope}{x:Str}{C:Addr}(h:B1e E sc x):A2f (compEnvC sc (clOf env sc.names []) C env) (E.inComp sc x) where
 kind:=h.kind
 glob:=λy hy=>A4h (h.uniq _ (A2d.mp hy))
 globals:=V.globals
 builtins:=V.builtins
 cells:=λy hy=>nomatch hy
inductive CVar(E:CE)(sc:Scope)(x y:Str)(i:Nat):Prop
 |own (e:y=x) (k:i=E.names.length)
 |out (h:(A2j sc .free).contains y=true) (k:sIdx 0 E.names y=some i)
theorem comp_var{sc:Scope}{x y:Str}{i:Nat}(e:(E.inComp sc x).var y=some i):CVar E sc x y i:=by
 change (if(some x==some y) then some E.names.length else if(A2j sc .free).contains y then sIdx 0 E.names y else none)=some i at e
 cases q:(some x==some y) with
 |true=>rw[q] at e;exact .own (Option.some.inj (eq_of_beq q)).symm (Option.some.inj e).symm
 |false=>
  rw[q] at e
  cases z:(A2j sc .free).contains y with
  |true=>rw[z] at e;exact .out z e
  |false=>rw[z] at e;exact A0a e
theorem comp_loc(V:A2f env E){sc:Scope}{x:Str}{C:Addr}{ρ:Lo}{v:Mine.V}{cv:Value}{mC:Str->Option Value}(h:B1e E sc x)(hcv:E.cv=none)(hok:∀y,E.cells.contains y=true->E.ok.contains y=true)
  (L:A0i cx S env E ρ) (hF:Sub S.F S'.F) (g:Sub S.G S'.G) (u:Up S.σ S'.σ) (hC:A4m S'.F C mC) (hm:mC x=some cv) (hv:VR cx S'.G S'.σ v cv):
  A0i cx S' (compEnvC sc (clOf env sc.names []) C env) (E.inComp sc x) (ρ++[some v]):=by
 refine L.rec λm cm hlen f hh=>⟨mC,cm,(λe=>A0a e.symm),⟨hC,λy c e=>(f.cell y c (B8z (cs:=[]) (h.cells V) (λ_ _ e=>A0a e) y c e)).rec λo a b=>⟨o,hF _ _ a,b⟩⟩,λi w y e hi=> ?_⟩
 have hl:=hlen hcv
 cases comp_var e with
 |own e1 e2=>
  subst e1 e2
  rw[←hl,A4j] at hi
  cases hi
  exact⟨cv,hv,.loc (A4h h.own) hm⟩
 |out hf hidx=>
  have hc:=h.free y hf
  have hmem:=A2d.mp hf
  have hk:=(V.cells y hc).1
  have hvar:E.var y=some i:=by
   unfold CE.var
   rw[hcv,hok y hc];exact hidx
  obtain⟨j,hj,hat⟩:=B6d hidx
  rw[Bc] at hj
  subst hj
  rw[Bp (hl▸(Bm.mp hat).1)] at hi
  refine(hh _ w y hvar hi).rec λcw hr hd=>⟨cw,hr.mono g u,?_⟩
  obtain⟨c,hc'⟩:=Option.isSome_iff_exists.mp (clOf_has (env:=env) (cs:=[]) (.inl hmem))
  refine .cell ((A4h (h.uniq _ hmem)).trans (congrArg some ?_)) c hc' ?_
  ·unfold relK;rw[V.kind,hk];rfl
  ·cases hd with
   |loc k _=>exact nomatch k.symm.trans hk
   |cell _ _ _ b=>exact b
end
abbrev F0M:Kx:=λ_=>False
theorem PR.strict{α β:Type}{r:Rs α}{f:α->Ht->Rs β}{K:β->Ht->Prop}{X:Kx}(q:PR (r.must f) K X):PR r (λa h=>PR (f a h) K X) F0M:=by
 cases r <;> exact q
theorem tru_no{α:Type}{v:V}{h:Ht}{t f:Ht->Rs α}{K:α->Ht->Prop}{X X':Kx}(q:PR (onB (truV h v) (t h) (f h)) K X):PR (truR v h) (λb h=>PR (match b with | true=>t h | false=>f h) K X) X':=by
 unfold truR
 revert q
 cases truV h v with
 |none=>exact λq=>q
 |some b=>cases b <;> exact λq=>q
section
variable{fe fc:AVal->Ht->Rs V}{chk:Ht->Prop}{x:AVal}{xs acc:List AVal}{h:Ht}{K:Kv}{X:Kx}
theorem B8t(q:PR (coR fe fc chk [] acc h) K X):chk h/\K (.p (.lst acc)) h:=by
 rw[coR] at q
 by_cases c:chk h
 ·rw[if_pos c] at q;exact⟨c,q⟩
 ·rw[if_neg c] at q;exact q.elim
noncomputable def coE(fe fc:AVal->Ht->Rs V)(chk:Ht->Prop)(x:AVal)(xs acc:List AVal)(h:Ht):Rs V:=(fe x h).must λy h2=>atP y λa=>coR fe fc chk xs (acc++[a]) h2
theorem B8v(q:PR (coR fe fc chk (x::xs) acc h) K X):chk h/\PR (fc x h) (λt h1=>PR (onB (truV h1 t) (coE fe fc chk x xs acc h1) (coR fe fc chk xs acc h1)) K X) F0M:=by
 rw[coR] at q
 by_cases c:chk h
 ·rw[if_pos c] at q;exact⟨c,PR.strict q⟩
 ·rw[if_neg c] at q;exact q.elim
theorem co_chk(q:PR (coR fe fc chk xs acc h) K X):chk h:=by
 cases xs with
 |nil=>exact(B8t q).1
 |cons=>exact(B8v q).1
end
section
variable{P:Pl}{E:CE}{env:Env}{S S':St}{K:Kv}{X:Kx}{Y:Value->Shared->Prop}
theorem Exx.no{α:Type}{t:Sem α}{Q:α->Shared->Prop}{l:List Env}{u:Value}{s:Shared}(h:wpAny P.M P.A t Q (Exx P.cx l S u F0M) s):wpAny P.M P.A t Q Y s:=Af h (λ_ _ z=>z) λe s' z=>z.rec λ_ _ _ _ _ k=>k.elim
theorem A5f{I:Addr}{h h':Heap}(e:Heap.SameBut I h h'):∀b x,b≠I->h.get? b=some x->h'.get? b=some x:=λb x hb hx=>(e.2 b hb).trans hx
theorem A4m.has{F:GM}{C:Addr}{m:Str->Option Value}(h:A4m F C m):∃o,F C=some o:=h.rec λo _ _ h _ _ _=>⟨o,h⟩
theorem A4m.eq{F F':GM}{C:Addr}{m:Str->Option Value}(e:F'=F)(h:A4m F C m):A4m F' C m:=e▸h
theorem A4m.put{F:GM}{C I:Addr}{o:Obj}{m:Str->Option Value}(n:C≠I)(h:A4m F C m):A4m (F.put I o) C m:=h.rec λo es ep h d k f=>⟨o,es,ep,(GM.put_ne n).trans h,d,k,f⟩
theorem Rel.ns{cx:Cx}{l:List Env}{C:Addr}{m:Str->Option Value}(R:Rel cx l S)(h:A4m S.F C m):S.s.heap.Ns C m:=h.rec λo es ep h d k f=>(R.fram _ _ h).2.rec λo' q z=>⟨o',es,ep,q,z.data.trans d,k,f⟩
inductive NsAt(h:Heap)(C:Addr)(m:Str->Option Value):Prop
 |mk (o:Obj) (es:Array DictEntry) (ep:Nat) (g:h.get? C=some o) (d:o.data=.dict es ep) (k:StrKeys es) (f:∀x,nsFind es x=m x)
theorem B6q{h:Heap}{C:Addr}{m:Str->Option Value}(n:h.Ns C m):NsAt h C m:=n.elim λo n=>n.elim λes n=>n.elim λep n=>⟨o,es,ep,n.1,n.2.1,n.2.2.1,n.2.2.2⟩
inductive A7e(P:Pl)(E:CE)(env:Env):List PySem.Expr->Ex->Prop
 |no:A7e P E env [] (.lit (.bool true))
 |one (t:PySem.Expr) (c:Ex) (h:ST P E env t c):A7e P E env [t] c
structure Apart3(F:GM)(D C I:Addr):Prop where
 d:F D=none
 c:F C=none
 i:F I=none
 dc:D≠C
 di:D≠I
 ci:C≠I
abbrev lstO(vs:List Value)(m:Nat):Obj:={cls:=.type "list",data:=.seq vs.toArray m}
inductive CInv(P:Pl)(S:St)(K:Kv)(X:Kx)(fe fc:AVal->Ht->Rs V)(v:V)(cv:Value)(xs:List AVal)(D C I:Addr)(k:Nat):Shared->Prop
 |mk (i:Nat) (S':St) (ys:List AVal) (vs:List Value) (m:Nat) (oI:Obj) (mC:Str->Option Value) (hk:xs.length-i=k) (hi:i<=xs.length) (R:Rel P.cx P.l S') (sb:Sub S.F S'.F) (g:Sub S.G S'.G) (u:Up S.σ S'.σ)
  (fD:S'.F D=some (lstO vs m)) (fC:A4m S'.F C mC) (fI:S'.F I=some oI) (t:ItO v cv i oI) (r:All2 (VRep P.cx S'.G) ys vs) (l:ys.length<=i) (q:PR (coR fe fc (A2l v xs) (xs.drop i) ys S'.h) K X):CInv P S K X fe fc v cv xs D C I k S'.s
theorem B4e(V:A2f env E)(hcv:E.cv=none)(hok:∀y,E.cells.contains y=true->E.ok.contains y=true){elt it:PySem.Expr}{ifs:List PySem.Expr}{x:Str}{px:Pos}{sc:Scope}{pos:Pos}{e c:Ex}(hS:B1e E sc x)
  (he:∀cenv,A2f cenv (E.inComp sc x)->SX P (E.inComp sc x) cenv elt e) (hcond:∀cenv,A2f cenv (E.inComp sc x)->A7e P (E.inComp sc x) cenv ifs c)
  (R0:Rel P.cx P.l S) {ρ:Lo} {v:Mine.V} {cv:Value} {xs:List AVal} (L:A0i P.cx S env E ρ) (hr:VR P.cx S.G S.σ v cv) (hit:A0z S.h v=some xs) (hbig:xs.length<=big) {D C I:Addr} (a3:Apart3 S.F D C I) {Q:Value->Shared->Prop} (hQ:∀{v s},Okx P.cx P.l S K v s->Q v s):
  ∀k s,CInv P S K X (λx h=>runX P.o P.oi e (ρ++[some (.p x)]) h) (λx h=>runX P.o P.oi c (ρ++[some (.p x)]) h) v cv xs D C I k s->
   codeAny P.M P.A (.compLoop (.ListComp elt [⟨.Name x px,it,ifs,0⟩] sc pos) 0 (.ref I) (.ref D) (compEnvC sc (clOf env sc.names []) C env)) (compPost P.M P.A Y none Q (.ref D) C) s:=by
 intro k s inv
 have hV:=comp_env (C:=C) V hS
 have hR:=R0.envs
 refine codeAny_compLoop_tests (CInv P S K X _ _ v cv xs D C I) (λk s inv=>inv.rec λi S1 ys vs m oI mC hk hi R1 sb g u fD fC fI t r l q=> ?_) k inv
 have hit1:=A5u hit (co_chk q)
 by_cases hlt:i<xs.length
 ·have hx:xs[i]?=some xs[i]:=B4 hlt
  rw[List.drop_eq_getElem_cons hlt] at q
  have q:=(B8v q).2
  refine A9i P.am.handled R1 fI sb hR a3.i (hr.mono g u) hit1 t hx λw o' h' tk hw t' R2=>Ab (wpAny_standAt (wpAny_bindName ?_))
  have fC2:A4m (S1.F.put I o') C mC:=fC.put a3.ci
  refine wpAny_storeName_local (A4h hS.own) (R2.ns fC2) (λh2 hn2 hs2=> ?_) (by show(sc.kind==ScopeKind.class|| (sc.kind==ScopeKind.module&&_))=false;rw[hS.kind];rfl)
  refine(B6q hn2).rec λoC es ep gC dC kC fC'=> ?_
  have sb2:Sub S.F (S1.F.put I o'):=A4p sb a3.i
  obtain⟨oC0,eC0⟩:=fC2.has
  have R3:=R2.fupd (tk:=tk+1) eC0 sb2 hR a3.c gC (A5f hs2)
  have sb3:Sub S.F ((S1.F.put I o').put C oC):=A4p sb2 a3.c
  have fC3:A4m ((S1.F.put I o').put C oC) C (λy=>if y=x then some w else mC y):=⟨oC,es,ep,GM.put_self,dC,kC,fC'⟩
  have fD3:((S1.F.put I o').put C oC) D=some (lstO vs m):=(GM.put_ne a3.dc).trans ((GM.put_ne a3.di).trans fD)
  have fI3:((S1.F.put I o').put C oC) I=some o':=(GM.put_ne a3.ci.symm).trans GM.put_self
  have L3:=comp_loc (S':={S1 with F:=(S1.F.put I o').put C oC,s:={S1.s with heap:=h2,toks:=tk+1}}) V hS hcv hok L sb3 g u fC3 (if_pos rfl) (v:=.p xs[i]) hw
  have less:xs.length- (i+1)<k:=hk▸Bs hlt (Ax i)
  have tests:wpAny P.M P.A (forIn ifs true λc r=>if r=true then do let ok←isTrue c (compEnvC sc (clOf env sc.names []) C env) (eval c (compEnvC sc (clOf env sc.names []) C env));pure (ForInStep.yield ok) else pure (ForInStep.yield r))
    (Okb P.cx P.l {S1 with F:=(S1.F.put I o').put C oC,s:={S1.s with heap:=h2,toks:=tk+1}} λb h=>PR (match b with
     |true=>coE (λx h=>runX P.o P.oi e (ρ++[some (.p x)]) h) (λx h=>runX P.o P.oi c (ρ++[some (.p x)]) h) (A2l v xs) xs[i] (xs.drop (i+1)) ys h
     |false=>coR (λx h=>runX P.o P.oi e (ρ++[some (.p x)]) h) (λx h=>runX P.o P.oi c (ρ++[some (.p x)]) h) (A2l v xs) (xs.drop (i+1)) ys h) K X)
    (notedBy P.M P.A (compEnvC sc (clOf env sc.names []) C env) λe s'=>compPost P.M P.A Y none Q (.ref D) C (.error e) s') {S1.s with heap:=h2,toks:=tk+1}:=by
   have hcc:=hcond _ hV
   revert q
   cases hcc with
   |no=>exact λq=>wpAny_tests_nil ⟨_,.rfl',R3,q⟩
   |one t c h=>exact λq=>wpAny_tests_one (Exx.no (h _ _ _ F0M R3 L3 (PR.join (PR.imp (λq=>tru_no q) q))))
  refine Af tests (λok _ z=>z.rec λS4 n4 R4 q4=> ?_) λ_ _ z=>z
  have sb4:Sub S.F S4.F:=n4.f.symm▸sb3
  cases ok with
  |false=>exact⟨_,less,_,S4,ys,vs,m,o',_,rfl,hlt,R4,sb4,g.trans n4.g,u.trans n4.u,n4.f.symm▸fD3,fC3.eq n4.f,n4.f.symm▸fI3,t',r.mono (VRep.mono n4.g),Az l,q4⟩
  |true=>
   refine Exx.no (Af (he _ hV S4 _ _ F0M R4 (L3.nx n4) (PR.strict q4)) (λv5 _ z=>z.rec λS5 y n5 R5 r5 q5=> ?_) λ_ _ z=>z)
   revert q5 r5
   cases y with
   |p y=>
    intro r5 q5
    have sb5:Sub S.F S5.F:=n5.f.symm▸sb4
    have f5:S5.F=(S1.F.put I o').put C oC:=n5.f.trans n4.f
    have fD5:S5.F D=some (lstO vs m):=f5.symm▸fD3
    refine wpAny_list_append_plain ⟨m,R5.beside fD5 hR a3.d⟩ (λh6 ⟨m6,ho6⟩ hs6=> ?_) (szM r (Aa (Aa l hi) (A2o hbig)))
    rw[List.push_toArray] at ho6
    have R6:=R5.fupd (tk:=S5.s.toks) (o':=lstO (vs++[v5]) m6) fD5 sb5 hR a3.d ho6 (A5f hs6)
    refine⟨_,less,_,{S5 with F:=S5.F.put D (lstO (vs++[v5]) m6),s:={S5.s with heap:=h6}},ys++[y],vs++[v5],m6,o',λy=>if y=x then some w else mC y,rfl,hlt,R6,A4p sb5 a3.d,(g.trans n4.g).trans n5.g,(u.trans n4.u).trans n5.u,GM.put_self,?_,(GM.put_ne a3.di.symm).trans (f5.symm▸fI3),t',?_,?_,q5⟩
    ·exact(fC3.eq f5).put a3.dc.symm
    ·exact(r.mono (VRep.mono (n4.g.trans n5.g))).append (.one r5)
    ·rw[Ae];exact Ah l
   |_=>exact λ_ q5=>q5.elim
 ·have hi':i=xs.length:=Nat.le_antisymm hi (Nat.not_lt.mp hlt)
  subst hi'
  rw[List.drop_length] at q
  have q:=(B8t q).2
  refine B2h P.am.handled R1 fI sb hR a3.i (hr.mono g u) hit1 t λh' tk kp=> ?_
  refine(R1.ns fC).elim λoC n=>⟨mC,⟨oC,n.elim λes n=>n.elim λep n=>⟨es,ep,kp _ _ a3.ci n.1,n.2⟩⟩,λh'' hs=> ?_⟩
  have R2:Rel P.cx P.l {S1 with F:=S.F,s:={S1.s with heap:=h'',toks:=tk}}:=R1.fdown sb hR λb x h e=>A5f hs b x (fC.has.elim λo eC=>A7w eC a3.c h) (kp b x (A7w fI a3.i h) e)
  have hg:=(R1.fram _ _ fD).1
  have hD:h''.get? D=some (lstO vs m):=A5f hs D _ a3.dc (kp D _ a3.di (R1.beside fD hR a3.d))
  exact hQ ⟨{S1 with F:=S.F,G:=S1.G.put D (lstO vs m),s:={S1.s with heap:=h'',toks:=tk}},.p (.lst ys),⟨rfl,g.trans (GM.sub_put hg),u⟩,R2.gput hg a3.d (R1.cBes fD) hD,
   ⟨vs,⟨_,_,m,GM.put_self,rfl,rfl⟩,Aa l (A2o hbig),VReps.of (r.mono (VRep.mono (GM.sub_put hg)))⟩,q⟩
theorem A7p{F:GM}{I D:Addr}{o:Obj}(h:F.put I o D=none):F D=none/\D≠I:=by
 have n:D≠I:=λe=>by subst e;exact A0a (h.symm.trans GM.put_self)
 exact⟨(GM.put_ne n).symm.trans h,n⟩
theorem sx_comp(V:A2f env E)(hcv:E.cv=none)(hok:∀y,E.cells.contains y=true->E.ok.contains y=true){elt it:PySem.Expr}{ifs:List PySem.Expr}{x:Str}{px:Pos}{sc:Scope}{pos:Pos}{e c i:Ex}(hS:B1e E sc x)(hs:∀v,foldedSetIterable it env v=pure v)
  (hi:SX P E env it i) (he:∀cenv,A2f cenv (E.inComp sc x)->SX P (E.inComp sc x) cenv elt e) (hcond:∀cenv,A2f cenv (E.inComp sc x)->A7e P (E.inComp sc x) cenv ifs c):
  SX P E env (.ListComp elt [⟨.Name x px,it,ifs,0⟩] sc pos) (.comp e i c):=λS ρ K X R L q=>by
 rw[eval_ListComp]
 refine wpAny_comprehension_free (use:=none) rfl hs (A9o (hS.cells V)) hS.kind (λy hy hl=>(hS.uniq y hy).trans (congrArg some hl)) ?_
 refine Af (hi S ρ _ X R L (PR.bind q)) (λcv _ x=>x.rec λS1 v n R1 r q=> ?_) λ_ _ z=>z
 revert q
 cases hit:A0z S1.h v with
 |none=>exact λq=>q.elim
 |some xs=>
  show PR (match Nat.ble xs.length big with | true=>_ | false=>_) K X->_
  cases hb:Nat.ble xs.length big with
  |false=>exact λq=>q.elim
  |true=>
   intro q
   refine B2g R1 r hit λoI t R2=>A7v (cx:=P.cx) (vs:=[]) (Ag _) ?_
   have nD:=A7p (R2.fNone (a:=(S1.s.heap.push oI).objs.size) fresh)
   have R3:=A2n (tk:=S1.s.toks) (o:=lstO [] 0) R2 rfl
   refine wpAny_newFunctionEnv hS.nocell (λy hy=>absurd hy Cn) (λh3 hns hsb=> ?_) hS.kind
   have f3:((S1.s.heap.push oI).push (lstO [] 0)).get? ((S1.s.heap.push oI).push (lstO [] 0)).objs.size=none:=fresh
   have nC:=A7p (R3.fNone f3)
   have nC2:=A7p nC.1
   refine(B6q hns).rec λoC es ep gC dC kC fC=> ?_
   have kp:∀b o,((S1.s.heap.push oI).push (lstO [] 0)).get? b=some o->h3.get? b=some o:=λb o e=>A5f hsb b o (λz=>A0a (f3.symm.trans (z▸e))) (A0o b o e)
   have R4:=Rel.fput (R3.keep (h':=h3) (tk:=S1.s.toks+0) kp) (R3.gNone f3) (R3.fNone f3) (R3.off' f3) gC
   have a3:Apart3 S1.F (S1.s.heap.push oI).objs.size ((S1.s.heap.push oI).push (lstO [] 0)).objs.size S1.s.heap.objs.size:=⟨nD.1,nC2.1,R1.fNone fresh,nC.2.symm,nD.2,nC2.2⟩
   have sb:Sub S1.F (((S1.F.put S1.s.heap.objs.size oI).put (S1.s.heap.push oI).objs.size (lstO [] 0)).put ((S1.s.heap.push oI).push (lstO [] 0)).objs.size oC):=A4p (A4p (GM.sub_put a3.i) a3.d) a3.c
   have fI:(((S1.F.put S1.s.heap.objs.size oI).put (S1.s.heap.push oI).objs.size (lstO [] 0)).put ((S1.s.heap.push oI).push (lstO [] 0)).objs.size oC) S1.s.heap.objs.size=some oI:=(GM.put_ne a3.ci.symm).trans ((GM.put_ne a3.di.symm).trans GM.put_self)
   have loop:=B4e (Y:=Exx P.cx P.l S .none X) (Q:=Okx P.cx P.l S K) (it:=it) (pos:=pos) (px:=px) V hcv hok hS he hcond R1 (L.nx n) r hit (nbl hb) a3 (λz=>z.le n) xs.length _
    (CInv.mk 0 _ [] [] 0 oI _ rfl (Ag _) R4 sb .rfl' .rfl' ((GM.put_ne a3.dc).trans GM.put_self) ⟨oC,es,ep,GM.put_self,dC,kC,fC⟩ fI t .nil (Ac _) q)
   exact codeAny_compStart_list loop (B7k P.am.handled R4 fI sb R1.envs a3.i r hit t loop)
end
section
variable{cx:Cx}{env:Env}{A:Around}{l:List Env}{S:St}{f:Value}{p:AVal}{e:Value}{a:Addr}{h':Heap}{tk:Nat}{X:Value->Shared->Prop}
theorem Rel.off1(R:Rel cx l S)(o:Off S a)(k:∀b x,b≠a->S.s.heap.get? b=some x->h'.get? b=some x):Rel cx l {S with s:={S.s with heap:=h',toks:=tk}}:=
 {R with
  stay:=λb x q=>k b x (A1j o.g q) (R.stay b x q)
  cell:=λi c q=>(R.cell i c q).rec λa o' q w d=>⟨a,o',q,k a o' (λz=>o.x i (z▸q)) w,d⟩
  fram:=λb x z=>⟨(R.fram b x z).1,(R.fram b x z).2.rec λo2 q m=>⟨o2,k b o2 (A1j o.f z) q,m⟩⟩}
theorem Off.s{s:Shared}(o:Off S a):Off {S with s:=s} a:=⟨o.g,o.f,o.x⟩
theorem Rel.frNone(R:Rel cx l S)(h:S.F a=none):a ∉ A3j l:=notFr R.envs h
theorem Rel.slots(R:Rel cx l S)(hs:Heap.SlotsOnly (A3j l) S.s.heap h'):Rel cx l {S with s:={S.s with heap:=h',toks:=tk}}:=
 have out:∀{b:Addr} {x:Obj},S.F b=none->S.s.heap.get? b=some x->h'.get? b=some x:=λn e=>(hs.2.1 _ (R.frNone n)).trans e
 {R with
  stay:=λb x q=>out (A1p λo z=>A0a ((R.fram b o z).1.symm.trans q)) (R.stay b x q)
  cell:=λi c q=>(R.cell i c q).rec λa o' q w d=>⟨a,o',q,out (R.off i a q).2 w,d⟩
  fram:=λb x z=>⟨(R.fram b x z).1,(R.fram b x z).2.rec λo' q m=>by
   by_cases hb:b∈A3j l
   ·obtain⟨sl,h2⟩:=hs.2.2 b o' q
    refine⟨_,h2,?_⟩
    cases m with
    |same=>exact .slots hb sl
    |slots h sl'=>exact .slots hb sl
   ·exact⟨o',(hs.2.1 b hb).trans q,m⟩⟩}
def noHeap:Heap:={objs:= #[]}
theorem B3t(a:Addr):noHeap.get? a=none:=A2a (Ag _)
theorem B7y(R:Rel cx l S):∀{l':List Env},(∀env∈l',env∈l)->S.s.heap.FunFrames noHeap l':=by
 intro l'
 induction l' with
 |nil=>exact λ_=>trivial
 |cons env r ih=>
  intro hm
  refine(R.envs env (hm env (.head _))).rec λL o es ep k a b d=>(R.fram L o b).2.rec λo' h lk=>⟨k,⟨L,o',a,B3t L,h,λvs e=> ?_⟩,ih λe he=>hm e (.tail _ he)⟩
  rw[lk.data,d] at e;cases e
theorem A1e(o:Obj)(f:Array Value->Array Value):(o.mapFields f).dict=o.dict/\(o.mapFields f).cls=o.cls:=by
 obtain⟨c,d,dt,sl⟩:=o;cases dt <;> exact⟨rfl,rfl⟩
inductive ExcT(cx:Cx)(S:St)(f:Value)(p:AVal):Value->Prop
 |mk (a:Addr) (vs:Array Value) (b:ExcB cx S p a vs) (m:A9t S a f vs):ExcT cx S f p (.ref a)
theorem ExcT.toX{u:Value}(h:ExcT cx S f p e)(w:f=.none∨f=u):A3u cx S u p e:=h.rec λa vs b m=>⟨a,vs,b,.yes _ m w⟩
theorem A3u.up{u:Value}(h:A3u cx S .none p e):A3u cx S u p e:=h.rec λa vs b t=>⟨a,vs,b,t.rec .no λfl m w=>.yes fl m (.inl (w.elim id id))⟩
theorem ExcB.keep{vs:Array Value}(b:ExcB cx S p a vs)(k:∀o,S.s.heap.get? a=some o->h'.get? a=some o):ExcB cx {S with s:={S.s with heap:=h',toks:=tk}} p a vs:=b.rec λdx es n oe v w x o c i q gd fk ev r=>⟨dx,es,n,oe,v,w,x.s,k _ o,c,i,q,gd,fk,ev,r⟩
theorem A0u{h:Heap}{a b:Addr}{g:Obj->Obj}{o:Obj}(n:b≠a)(e:h.get? b=some o):(h.update a g).get? b=some o:=(Heap.get?_update_other _ _ n.symm).trans e
theorem ref_ne(T:Addr):(Value.ref T !=Value.none)=true:=bne_iff_ne.mpr λh=>nomatch h
theorem A2u{fr:Option Addr}{Q:Unit->Shared->Prop}(R:Rel cx l S)(h:ExcT cx S f p e)
  (q:∀h',Rel cx l {S with s:={S.s with heap:=h'}}->ExcT cx {S with s:={S.s with heap:=h'}} (fr.elim .none λa=>rawInt a) p e->Q () {S.s with heap:=h'}):wpAny (model pw cx.w) A (setFlight e fr) Q X S.s:=by
 revert q
 refine h.rec λa vs b m=>b.rec λdx es n oe v w x o c i q gd fk ev r=>m.rec λT oT ts t1 tx td to tq tz K=> ?_
 unfold setFlight
 refine Ab (wpAny_field o q t1 ?_)
 rw[if_pos (ref_ne T)]
 have hsz:3<ts.size:=(Array.getElem?_eq_some_iff.mp tz).1
 have hd:=Obj.data_mapFields tq (·.setIfInBounds 3 (fr.elim Value.none λf=>rawInt f))
 refine wpAny_setField to tq hsz (K _ (R.off1 (tk:=S.s.toks) tx λb x hb hx=>A0u hb hx) ⟨a,vs,⟨dx,es,n,oe,v,w,x.s,A0u td.symm o,c,i,q,gd,fk,ev,r⟩,
  ⟨T,_,_,t1,tx.s,td,Heap.get?_update_self _ to (Obj.isFreed_of_fields hd),hd,Array.getElem?_setIfInBounds_self_of_lt hsz⟩⟩)
theorem place5{pl:List Value}{a b c d e:Value}:((([a,b,c,d,e]:List Value)++pl).toArray)[3]?=some d:=rfl
theorem A5x{outer:List Env}{L:Addr}{Q:Unit->Shared->Prop}(hfr:A.frames=some (env::outer))(hl:l=env::outer)(hf:env.frame=some L)(R:Rel cx l S)(h:A3u cx S (rawInt L) p e)
  (q:∀h',Rel cx l {S with s:={S.s with heap:=h'}}->ExcT cx {S with s:={S.s with heap:=h'}} (rawInt L) p e->Q () {S.s with heap:=h'}):wpAny (model pw cx.w) A (noteFrame e env) Q X S.s:=by
 have new:∀{a:Addr} {vs:Array Value} (hp:Heap) (hd:Value) (b:Bool),(∀h',Rel cx l {S with s:={S.s with heap:=h'}}->ExcT cx {S with s:={S.s with heap:=h'}} (rawInt L) p (.ref a)->Q () {S.s with heap:=h'})->Rel cx l {S with s:={S.s with heap:=hp}}->ExcB cx {S with s:={S.s with heap:=hp}} p a vs->1<vs.size->
   wpAny (model pw cx.w) A (do setField (.ref a) 1 (←EntryCells.newEntry hd (←frameOf env) .none (rawInt L) .none (←entryPlaceOf L b))) Q X {S.s with heap:=hp}:=by
  intro a vs hp hd b K R B hsz
  revert K
  refine B.rec λdx es n oe v w x o c i q gd fk ev r K=> ?_
  refine Ab (wpAny_frameOf_fun hfr (B7y R λ_ he=>hl▸he) hf λh₁ hs₁=> ?_)
  refine Ab (wpAny_entryPlaceOf λpl hpl=> ?_)
  unfold EntryCells.newEntry newFields
  have R1:=R.slots (tk:=S.s.toks) (h':=h₁) (hl▸hs₁)
  have he₁:h₁.get? a=some oe:=(hs₁.2.1 a (hl▸R.frNone x.f)).trans o
  refine Ab (wpAny_newObj_type ?_ (hpl.sizeOk5 _ _ _ _ _))
  have he₂:=A0o (o:={cls:=.type "traceback",data:=.fields ([hd,.ref L,.none,rawInt L,.none]++(if pl.isEmpty then List.replicate 6 Value.none else pl)).toArray}) a oe he₁
  refine wpAny_setField he₂ q hsz ?_
  have hTe:h₁.objs.size≠a:=Nat.ne_of_gt (Heap.lt_size he₁)
  have hd₃:=Obj.data_mapFields q (·.setIfInBounds 1 (Value.ref h₁.objs.size))
  refine K _ ((R1.keep (tk:=S.s.toks) A0o).off1 (tk:=S.s.toks) x.s.s.s λb z hb hz=>A0u hb hz) ⟨a,_,⟨dx,es,n,_,v,w,x.s,Heap.get?_update_self _ he₂ (Obj.isFreed_of_fields hd₃),(A1e _ _).2.trans c,(A1e _ _).1.trans i,hd₃,gd,fk,ev,r⟩,
   ⟨h₁.objs.size,_,_,Array.getElem?_setIfInBounds_self_of_lt hsz,⟨R1.gNone fresh,R1.fNone fresh,R1.off' fresh⟩,hTe,A0u hTe (A1i rfl),rfl,place5⟩⟩
 revert q
 refine h.rec λa vs B t=> ?_
 intro K
 have B0:=B
 revert K B0
 refine B.rec λdx es n oe v w x o c i q gd fk ev r K B0=> ?_
 unfold noteFrame
 simp only[hf]
 cases t with
 |no h5=>
  refine Ab (wpAny_field o q h5 ?_)
  exact new S.s.heap .none false K R B0 (Array.getElem?_eq_some_iff.mp h5).1
 |yes fl m w'=>
  have m0:=m
  revert m0
  refine m.rec λT oT ts t1 tx td to tq tz m0=>Ab (wpAny_field o q t1 ?_)
  rw[if_pos (ref_ne T)]
  refine Ab (wpAny_field to tq tz ?_)
  by_cases hfl:fl=rawInt L
  ·subst hfl
   rw[if_pos (by exact beq_self_eq_true _)]
   exact Ad (K _ R ⟨a,vs,B0,m0⟩)
  ·rw[if_neg λz=>hfl (eq_of_beq z)]
   have hsz:3<ts.size:=(Array.getElem?_eq_some_iff.mp tz).1
   refine Ab (wpAny_setField to tq hsz ?_)
   exact new _ _ _ K (R.off1 (tk:=S.s.toks) tx λb x hb hx=>A0u hb hx) (B0.keep (tk:=S.s.toks) λ_ h=>A0u td.symm h) (Array.getElem?_eq_some_iff.mp t1).1
end
structure EnvF(P:Pl)(env:Env)(outer:List Env)(E:CE):Prop where
 V:A2f env E
 cv:E.cv=none
 ok:∀y,E.cells.contains y=true->E.ok.contains y=true
 own:∀x i,E.var x=some i->env.kindOf x=some .local∨(env.kindOf x=some .cell/\∃c,env.cells.lookup x=some c)
 A:EnvA env
 frame:env.frame=some env.locals
 celled:∀x,env.kindOf x=some .cell->E.cells.contains x=true
 hl:P.l=env::outer
def A3l(env:Env)(a:Addr):Prop:=a=env.locals∨∃x,env.cells.lookup x=some a
structure NxS(env:Env)(S S':St):Prop where
 f:∀a,¬A3l env a->S'.F a=S.F a
 g:Sub S.G S'.G
 u:Up S.σ S'.σ
theorem NxS.rfl'{env:Env}{S:St}:NxS env S S:=⟨λ_ _=>rfl,.rfl',.rfl'⟩
theorem NxS.trans{env:Env}{S S' S'':St}(x:NxS env S S')(y:NxS env S' S''):NxS env S S'':=⟨λa h=>(y.f a h).trans (x.f a h),x.g.trans y.g,x.u.trans y.u⟩
theorem NxM.s{env:Env}{S S':St}(n:NxM S S'):NxS env S S':=⟨λa _=>congrFun n.f a,n.g,n.u⟩
theorem A9x{E:CE}(h:E.cv=none){x:Str}{i:Nat}(hx:E.var x=some i):E.names[i]?=some x:=by
 unfold CE.var at hx
 rw[h] at hx
 cases q:E.ok.contains x with
 |false=>rw[q] at hx;exact A0a hx
 |true=>
  rw[q] at hx
  obtain⟨j,hj,hat⟩:=B6d hx
  exact hj▸(Bc j).symm▸hat
inductive SetAt(E:CE)(ρ:Lo)(x y:Str)(r w:V)(j:Nat):Prop
 |same (e:y=x) (k:w=r)
 |other (e:y≠x) (k:ρ[j]?=some (some w))
theorem set_at{E:CE}(h:E.cv=none){ρ:Lo}{x y:Str}{r w:V}{i j:Nat}(hx:E.var x=some i)(hy:E.var y=some j)(e:(ρ.set i (some r))[j]?=some (some w)):SetAt E ρ x y r w j:=by
 by_cases z:i=j
 ·subst z
  have n:y=x:=Option.some.inj ((A9x h hy).symm.trans (A9x h hx))
  rw[List.getElem?_set,if_pos rfl] at e
  split at e
  ·exact .same n (Option.some.inj (Option.some.inj e)).symm
  ·exact A0a e
 ·rw[List.getElem?_set_ne z] at e
  exact .other (λq=>z (Option.some.inj (hx.symm.trans (q▸hy)))) e
theorem A2t{α:Type}{l:List (Str×α)}{x:Str}{c:α}:l.lookup x=some c->(x,c)∈l:=by
 induction l with
 |nil=>exact λe=>A0a e
 |cons z r ih=>
  intro e
  rw[A1f (y:=z.1) (a:=z.2)] at e
  cases q:x==z.1 with
  |true=>rw[q] at e;cases Option.some.inj e;rw[eq_of_beq q];exact .head _
  |false=>rw[q] at e;exact .tail _ (ih e)
theorem B9a{cells:List (Str×Addr)}(h:cells.Pairwise λx y=>x.2≠y.2){x y:Str}{c:Addr}:cells.lookup x=some c->cells.lookup y=some c->x=y:=by
 intro a b
 have hx:=A2t a
 have hy:=A2t b
 clear a b
 induction h with
 |nil=>exact absurd hx Cn
 |cons h1 _ ih=>
  cases hx with
  |head=>cases hy with
   |head=>rfl
   |tail _ hy=>exact(h1 (y,c) hy rfl).elim
  |tail _ hx=>cases hy with
   |head=>exact(h1 (x,c) hx rfl).elim
   |tail _ hy=>exact ih hx hy
section
variable{P:Pl}{E:CE}{env:Env}{outer:List Env}{S S':St}{X:Value->Shared->Prop}
theorem A3h{A:Around}(V:EnvF P env outer E){x:Str}{i:Nat}{v:Value}{r:Mine.V}{ρ:Lo}{Q:Unit->Shared->Prop}(hx:E.var x=some i)(R:Rel P.cx P.l S)(L:A0i P.cx S env E ρ)(hv:VR P.cx S.G S.σ r v)
  (q:∀S',NxS env S S'->S'.h=S.h->Rel P.cx P.l S'->A0i P.cx S' env E (ρ.set i (some r))->Q () S'.s):wpAny P.M A (storeName env x v) Q X S.s:=by
 revert q
 refine L.rec λm cm hlen f hh q=> ?_
 cases V.own x i hx with
 |inl hk=>
  refine wpAny_storeName_local hk (R.ns f.loc) (λh' hn hs=> ?_) (by rw[V.V.kind];rfl)
  refine(B6q hn).rec λo' es ep ho' hd' hk' hm'=> ?_
  obtain⟨oL,hL1⟩:=f.loc.has
  have he:Envs P.l (S.F.put env.locals o'):=λe he=>(R.envs e he).rec λL o es1 ep1 k a b c=>by
   by_cases hL:L=env.locals
   ·exact⟨L,o',es,ep,k,a,by rw[hL];exact GM.put_self,hd'⟩
   ·exact⟨L,o,es1,ep1,k,a,(GM.put_ne hL).trans b,c⟩
  refine q {S with F:=S.F.put env.locals o',s:={S.s with heap:=h',toks:=S.s.toks+1}} ⟨λa ha=>GM.put_ne λe=>ha (.inl e),.rfl',.rfl'⟩ rfl (R.fupd' hL1 he ho' (A5f hs))
   ⟨λy=>if y=x then some v else m y,cm,λe=>Cq.trans (hlen e),⟨⟨o',es,ep,GM.put_self,hd',hk',hm'⟩,λy c e=>(f.cell y c e).rec λo a b=>⟨o,(GM.put_ne (V.A.off y c (A2t e)).symm).trans a,b⟩⟩,λj w y hy hw=> ?_⟩
  cases set_at V.cv hx hy hw with
  |same e1 e2=>subst e1 e2;exact⟨v,hv,.loc hk (if_pos rfl)⟩
  |other hne hw=>exact(hh j w y hy hw).rec λcw a b=>⟨cw,a,b.rec (λb1 b2=>.loc b1 ((if_neg hne).trans b2)) λb1 c b2 b3=>.cell b1 c b2 b3⟩
 |inr hk=>
  obtain⟨hk,c,hc⟩:=hk
  refine(f.cell x c hc).rec λoc hc1 hc2=>(R.fram _ _ hc1).2.rec λoc' y z=>wpAny_storeName_cell V.V.kind hk hc ⟨oc',y,z.data.trans hc2⟩ λh' hcell hs=> ?_
  obtain⟨o',ho',hd'⟩:=hcell
  have he:Envs P.l (S.F.put c o'):=λe he=>(R.envs e he).rec λL o es1 ep1 k a b d=>⟨L,o,es1,ep1,k,a,(GM.put_ne λz=>by subst z;rw[Option.some.inj (b.symm.trans hc1),hc2] at d;cases d).trans b,d⟩
  refine q {S with F:=S.F.put c o',s:={S.s with heap:=h'}} ⟨λa ha=>GM.put_ne λe=>ha (.inr ⟨x,e▸hc⟩),.rfl',.rfl'⟩ rfl (R.fupd' (tk:=S.s.toks) hc1 he ho' (A5f hs))
   ⟨m,λy=>if y=x then some v else cm y,λe=>Cq.trans (hlen e),⟨f.loc.put (V.A.off x c (A2t hc)),λy c' e=> ?_⟩,λj w y hy hw=> ?_⟩
  ·by_cases hyx:y=x
   ·subst hyx
    cases Option.some.inj (hc.symm.trans e)
    exact⟨o',GM.put_self,hd'.trans (congrArg Data.cell (if_pos rfl).symm)⟩
   ·exact(f.cell y c' e).rec λo a b=>⟨o,(GM.put_ne λq=>hyx (B9a V.A.apart e (hc.trans (congrArg some q.symm)))).trans a,b.trans (congrArg Data.cell (if_neg hyx).symm)⟩
  ·cases set_at V.cv hx hy hw with
   |same e1 e2=>subst e1 e2;exact⟨v,hv,.cell hk c hc (if_pos rfl)⟩
   |other hne hw=>exact(hh j w y hy hw).rec λcw a b=>⟨cw,a,b.rec (λb1 b2=>.loc b1 b2) λb1 c b2 b3=>.cell b1 c b2 ((if_neg hne).trans b3)⟩
end
abbrev Ko:=Ro->Prop
def PO(r:Ro)(K:Ko):Prop:=match r with
 |.next ρ h=>K (.next ρ h)
 |.cont ρ h=>K (.cont ρ h)
 |.ret v h=>K (.ret v h)
 |.exc ρ p=>K (.exc ρ p)
 |.bad=>False
theorem PO.st{α:Type}{r:Rs α}{ρ:Lo}{f:α->Ht->Ro}{K:Ko}(q:PO (r.st ρ f) K):PR r (λa h=>PO (f a h) K) (λp=>K (.exc ρ p)):=by cases r <;> exact q
theorem PO.sq{r:Ro}{f:Lo->Ht->Ro}{K:Ko}(q:PO (r.sq f) K):PO r (λx=>PO (x.sq f) K):=by cases r <;> exact q
theorem PO.turn{r:Ro}{f:Lo->Ht->Ro}{K:Ko}(q:PO (r.turn f) K):PO r (λx=>PO (x.turn f) K):=by cases r <;> exact q
theorem if_on{v:V}{h:Ht}{t f:Ht->Ro}{K:Ko}{X:Kx}(q:PO (ifB (truV h v) (t h) (f h)) K):PR (truR v h) (λb h=>PO (match b with | true=>t h | false=>f h) K) X:=by
 unfold truR
 revert q
 cases truV h v with
 |none=>exact λq=>q
 |some b=>cases b <;> exact λq=>q
inductive OkF(cx:Cx)(l:List Env)(S:St)(env:Env)(E:CE)(K:Ko):Flow->Shared->Prop
 |next (S':St) (ρ:Lo) (n:NxS env S S') (R:Rel cx l S') (L:A0i cx S' env E ρ) (k:K (.next ρ S'.h)):OkF cx l S env E K .next S'.s
 |cont (S':St) (ρ:Lo) (n:NxS env S S') (R:Rel cx l S') (L:A0i cx S' env E ρ) (k:K (.cont ρ S'.h)):OkF cx l S env E K .cont S'.s
 |ret (S':St) (v:Value) (r:V) (n:NxS env S S') (R:Rel cx l S') (hv:VR cx S'.G S'.σ r v) (k:K (.ret r S'.h)):OkF cx l S env E K (.ret v) S'.s
structure NxF(env:Env)(S S':St):Prop where
 f:∀a,¬A3l env a->S'.F a=S.F a
 g:Sub S.G S'.G
theorem NxS.te{env:Env}{S S' S'':St}(n:NxS env S S')(m:NxF env S' S''):NxF env S S'':=⟨λa h=>(m.f a h).trans (n.f a h),n.g.trans m.g⟩
theorem B6k{w:Option V}{v:V}(e:B0f w=some v):∃a,w=some (.p a)/\v=.p a:=by
 cases w with
 |none=>exact A0a e
 |some v=>cases v with
  |p a=>exact⟨a,rfl,(Option.some.inj e).symm⟩
  |_=>exact A0a e
theorem A0i.pure{cx:Cx}{S S':St}{env:Env}{E:CE}{ρ:Lo}(L:A0i cx S env E ρ)(m:NxE S S'):A0i cx S' env E (ρ.map B0f):=
 L.rec λa b n f h=>⟨a,b,λe=>(Aw ..).trans (n e),m.f.symm▸f,λi v x hx hi=>by
  obtain⟨w,e1,e2⟩:=List.at_map hi
  obtain⟨z,rfl,rfl⟩:=B6k e2
  exact(h i _ x hx e1).rec λcv r k=>⟨cv,VRep.mono m.g r,k⟩⟩
inductive ExS(cx:Cx)(l:List Env)(S:St)(env:Env)(E:CE)(K:Ko)(e:Value):Shared->Prop
 |mk (S':St) (ρ:Lo) (p:AVal) (n:NxF env S S') (R:Rel cx l S') (x:A3u cx S' (rawInt env.locals) p e) (L:A0i cx S' env E (ρ.map B0f)) (k:K (.exc ρ p)):ExS cx l S env E K e S'.s
def SS(P:Pl)(E:CE)(env:Env)(st:PySem.Stmt)(c:Cm):Prop:=
 ∀(S:St) (ρ:Lo) (K:Ko),Rel P.cx P.l S->A0i P.cx S env E ρ->PO (runS P.n P.o P.oi c ρ S.h) K->wpAny P.M P.A (exec st env) (OkF P.cx P.l S env E K) (ExS P.cx P.l S env E K) S.s
def SL(P:Pl)(E:CE)(env:Env)(st:List PySem.Stmt)(c:List Cm):Prop:=
 ∀(S:St) (ρ:Lo) (K:Ko),Rel P.cx P.l S->A0i P.cx S env E ρ->PO (runL P.n P.o P.oi c ρ S.h) K->wpAny P.M P.A (execs st env) (OkF P.cx P.l S env E K) (ExS P.cx P.l S env E K) S.s
section
variable{P:Pl}{E:CE}{env:Env}{outer:List Env}{S S':St}{K:Ko}{ρ:Lo}
theorem OkF.le{cx:Cx}{l:List Env}{f:Flow}{s:Shared}(n:NxS env S S')(x:OkF cx l S' env E K f s):OkF cx l S env E K f s:=
 x.rec (λS' ρ m R L k=>.next S' ρ (n.trans m) R L k) (λS' ρ m R L k=>.cont S' ρ (n.trans m) R L k) λS' v r m R hv k=>.ret S' v r (n.trans m) R hv k
theorem ExS.le{cx:Cx}{l:List Env}{e:Value}{s:Shared}(n:NxS env S S')(x:ExS cx l S' env E K e s):ExS cx l S env E K e s:=x.rec λS' ρ p m R x L k=>⟨S',ρ,p,n.te m,R,x,L,k⟩
theorem evS{α:Type}{t:Sem α}{Q:α->Shared->Prop}{s:Shared}(n:NxS env S S')(L:A0i P.cx S' env E ρ)(h:wpAny P.M P.A t Q (Exx P.cx P.l S' .none λp=>K (.exc ρ p)) s):wpAny P.M P.A t Q (ExS P.cx P.l S env E K) s:=
 Af h (λ_ _ z=>z) λ_ _ z=>z.rec λS1 p m R x k=>⟨S1,ρ,p,n.te ⟨λa _=>congrFun m.f a,m.g⟩,R,x.up,L.pure m,k⟩
theorem exS{e:PySem.Expr}{x:Ex}{L:Mine.V->Ht->Prop}{Q:Value->Shared->Prop}(h:SX P E env e x)(R:Rel P.cx P.l S')(n:NxS env S S')(Lo:A0i P.cx S' env E ρ)(q:PR (runX P.o P.oi x ρ S'.h) L (λp=>K (.exc ρ p)))
  (k:∀(S1:St) a v,NxS env S S1->NxM S' S1->Rel P.cx P.l S1->A0i P.cx S1 env E ρ->VR P.cx S1.G S1.σ a v->L a S1.h->Q v S1.s):wpAny P.M P.A (eval e env) Q (ExS P.cx P.l S env E K) S'.s:=
 evS n Lo (Af (h S' ρ L _ R Lo q) (λv _ x=>x.rec λS1 a m R r q=>k S1 a v (n.trans m.s) m R (Lo.nx m) r q) λ_ _ z=>z)
theorem A3y{v:PySem.Expr}{t:Option PySem.Expr}{k:Nat}(h:A1t v=true):swapsWith v t k env=pure false:=by
 cases v <;> first | rfl | cases h
theorem ss_asg(V:EnvF P env outer E){x:Str}{px pos:Pos}{v:PySem.Expr}{i:Nat}{e:Ex}(hx:E.var x=some i)(hc:A1t v=true)(h:SX P E env v e):SS P E env (.Assign [.Name x px] v pos) (.asg i e):=λS ρ K R L q=>by
 rw[exec_Assign_Name _ _ _ _ _ (A3y hc)]
 exact Ab (wpAny_standAt (Ab (exS h R .rfl' L (PO.st q) λS1 a w n _ R1 L1 r q=>Ab (wpAny_standAt (Ab (wpAny_bindName (A3h V hx R1 L1 r λS2 n2 e2 R2 L2=>Ad (.next S2 _ (n.trans n2) R2 L2 (e2.symm▸q)))))))))
theorem ss_expr(V:EnvF P env outer E){pos:Pos}{v:PySem.Expr}{e:Ex}(hc:A1t v=true)(h:SX P E env v e):SS P E env (.Expr v pos) (.ex e):=λS ρ K R L q=>
 wpAny_Expr_any (exS h R .rfl' L (PO.st q) λS1 a w n _ R1 L1 r q=>.next S1 ρ n R1 L1 q) (by unfold interactive;rw[V.V.kind];rfl) (A3y hc)
theorem ss_ret{pos:Pos}{v:PySem.Expr}{e:Ex}(h:SX P E env v e):SS P E env (.Return (some v) pos) (.ret e):=λS ρ K R L q=>
 wpAny_Return_some (exS h R .rfl' L (PO.st q) λS1 a w n _ R1 L1 r q=>.ret S1 w a n R1 r q)
theorem ss_ret0{pos:Pos}:SS P E env (.Return none pos) (.ret (.lit .none)):=λS ρ K R L q=>wpAny_Return_none (.ret S .none (.p .none) .rfl' R rfl q)
theorem ss_cont{pos:Pos}:SS P E env (.Continue pos) .cont:=λS ρ K R L q=>wpAny_Continue (.cont S ρ .rfl' R L q)
theorem ss_abort{st:PySem.Stmt}:SS P E env st .abort:=λS ρ K R L q=>q.elim
theorem sl_nil:SL P E env [] []:=λS ρ K R L q=>wpAny_execs_nil (.next S ρ .rfl' R L q)
theorem sl_cons{st:PySem.Stmt}{c:Cm}{sts:List PySem.Stmt}{cs:List Cm}(h1:SS P E env st c)(h2:SL P E env sts cs):SL P E env (st::sts) (c::cs):=λS ρ K R L q=>
 wpAny_execs_cons (Af (h1 S ρ _ R L (PO.sq q)) (λf _ x=>x.rec (λS1 ρ1 n R1 L1 q=>Af (h2 S1 ρ1 K R1 L1 q) (λ_ _ z=>z.le n) λ_ _ z=>z.le n) (λS1 ρ1 n R1 L1 q=>.cont S1 ρ1 n R1 L1 q) λS1 v r n R1 hv q=>.ret S1 v r n R1 hv q)
  λe _ x=>x.rec λS1 ρ1 p n R1 x L1 q=>⟨S1,ρ1,p,n,R1,x,L1,q⟩)
theorem ss_if{pos:Pos}{t:PySem.Expr}{e:Ex}{b f:List PySem.Stmt}{cb cf:List Cm}(h0:ST P E env t e)(h1:SL P E env b cb)(h2:SL P E env f cf):SS P E env (.If t b f pos) (.ite e cb cf):=λS ρ K R L q=>by
 rw[exec_If]
 refine Ab (wpAny_standAt (Ab (evS .rfl' L (Af (h0 S ρ (λb h=>PO (match b with | true=>runL P.n P.o P.oi cb ρ h | false=>runL P.n P.o P.oi cf ρ h) K) _ R L (PR.join (PR.imp (λq=>if_on (t:=λh=>runL P.n P.o P.oi cb ρ h) (f:=λh=>runL P.n P.o P.oi cf ρ h) q) (PO.st q)))) (λb _ x=>x.rec λS1 n R1 q=> ?_) λ_ _ z=>z))))
 cases b with
 |true=>exact Af (h1 S1 ρ K R1 (L.nx n) q) (λ_ _ z=>z.le n.s) λ_ _ z=>z.le n.s
 |false=>exact Af (h2 S1 ρ K R1 (L.nx n) q) (λ_ _ z=>z.le n.s) λ_ _ z=>z.le n.s
theorem B9d{cx:Cx}{A:Around}{l:List Env}{L:Addr}{f:Value}{p:AVal}{e:Value}{X:Value->Shared->Prop}(hf:env.frame=some L)(R:Rel cx l S)(h:ExcT cx S f p e)
  (q:∀h',Rel cx l {S with s:={S.s with heap:=h'}}->ExcT cx {S with s:={S.s with heap:=h'}} (rawInt L) p e->X e {S.s with heap:=h'}):cameBackBy (model pw cx.w) A env X e S.s:=by
 have h0:=h
 revert h0 q
 refine h.rec λa vs b m=>b.rec λdx es n oe v w x o c i z gd fk ev r=>m.rec λT oT ts t1 tx td to tq tz K h0=> ?_
 unfold cameBackBy
 refine Ab (wpAny_field o z t1 ?_)
 rw[if_neg (show¬((Value.ref T==Value.none)=true) from λh=>nomatch eq_of_beq h),hf]
 exact A2u R h0 K
def LoopR(P:Pl)(S:St)(env:Env)(E:CE)(K:Ko)(r:Result)(s:Shared):Prop:=match r with
 |.ok f=>OkF P.cx P.l S env E K f s
 |.error e=>cameBackBy P.M P.A env (ExS P.cx P.l S env E K) e s
theorem A4t(V:EnvF P env outer E){α:Type}{m:Sem α}{Q:α->Shared->Prop}{s:Shared}(h:wpAny P.M P.A m Q (ExS P.cx P.l S env E K) s):wpAny P.M P.A m Q (notedBy P.M P.A env λe s'=>LoopR P S env E K (.error e) s') s:=
 Af h (λ_ _ z=>z) λe _ z=>z.rec λS1 ρ p n R x L k=>A5x (P.am.frames.trans (congrArg some V.hl)) V.hl V.frame R x λh' R2 x2=>
  B9d V.frame R2 x2 λh2 R3 x3=>⟨{S1 with s:={S1.s with heap:=h2}},ρ,p,⟨n.f,n.g⟩,R3,x3.toX (.inr rfl),L.nx (.g' .rfl'),k⟩
theorem wh_some{c:Lo->Ht->Rs Bool}{b:Lo->Ht->Ro}{h:Ht}(q:PO (whR c b ρ h) K):∃n,PO (whF c b n ρ h) K:=by
 unfold whR at q
 by_cases z:∃n,whF c b n ρ h≠ .bad
 ·rw[dif_pos z] at q;exact⟨_,q⟩
 ·rw[dif_neg z] at q;exact q.elim
theorem ss_whl(V:EnvF P env outer E){pos:Pos}{t:PySem.Expr}{c:Ex}{b:List PySem.Stmt}{cb:List Cm}(h0:ST P E env t c)(h1:SL P E env b cb):SS P E env (.While t b [] pos) (.whl c cb):=λS ρ K R L q=>by
 refine wpAny_While ?_
 show codeAny P.M P.A (.whileLoop t b [] env) (LoopR P S env E K) S.s
 have key:∀(k:Nat) (S1:St) (ρ:Lo),NxS env S S1->Rel P.cx P.l S1->A0i P.cx S1 env E ρ->PO (whF (fun ρ h=>(runX P.o P.oi c ρ h).bind truR) (fun ρ h=>runL P.n P.o P.oi cb ρ h) k ρ S1.h) K->codeAny P.M P.A (.whileLoop t b [] env) (LoopR P S env E K) S1.s:=by
  intro k
  induction k with
  |zero=>exact λ_ _ _ _ _ q=>q.elim
  |succ k ih=>
   intro S1 ρ n R L q
   refine codeAny_of_tree ?_
   show wpAny _ P.A ((whileTurn t b [] env).onRaise (λx=>do noteFrame x env;theTreesLotGoes x)) _ _ S1.s
   refine wpAny_noted ?_
   simp only[whileTurn]
   refine Ab (A4t V (evS n L (Af (h0 S1 ρ _ _ R L (PO.st q)) (λtt _ x=>x.rec λS2 n2 R2 q=> ?_) λ_ _ z=>z)))
   have n2:=n.trans n2.s
   have L2:=L.nx (by assumption)
   cases tt with
   |false=>exact Ab (wpAny_execs_nil (Ad (.next S2 ρ n2 R2 L2 q)))
   |true=>
    exact Ab (A4t V (Af (h1 S2 ρ _ R2 L2 (PO.turn q)) (λf _ x=>x.rec (λS3 ρ' m R3 L3 q=>Ad ⟨rfl,ih S3 ρ' (n2.trans m) R3 L3 q⟩) (λS3 ρ' m R3 L3 q=>Ad ⟨rfl,ih S3 ρ' (n2.trans m) R3 L3 q⟩) λS3 v r m R3 hv q=>Ad (.ret S3 v r (n2.trans m) R3 hv q))
     λe _ x=>x.rec λS3 ρ' p m R3 x L3 q=>⟨S3,ρ',p,n2.te m,R3,x,L3,q⟩))
 exact(wh_some q).elim λk q=>key k S ρ .rfl' R L q
end
inductive NmT(E:CE)(i:Nat):PySem.Expr->Prop
 |mk (x:Str) (px:Pos) (h:E.var x=some i):NmT E i (.Name x px)
abbrev Names(E:CE)(is:List Nat)(ts:List PySem.Expr):Prop:=All2 (NmT E) is ts
theorem Names.each{E:CE}{env:Env}{is:List Nat}{ts:List PySem.Expr}(h:Names E is ts):(assignEach ts env).length=is.length/\(assignEach ts env).findIdx? (·.1)=none:=h.rec ⟨rfl,rfl⟩ λ{i t is ts} h _ ih=>by
 have e:assignEach (t::ts) env=(false,assign t env)::assignEach ts env:=h.rec λ_ _ _=>rfl
 rw[e]
 refine⟨congrArg (· +1) ih.1,?_⟩
 rw[List.findIdx?_cons,ih.2];rfl
theorem VRs.ofP{cx:Cx}{G:GM}{σ:List Addr}:∀{xs:List AVal} {vs:List Value},VReps cx G xs vs->VRs cx G σ (xs.map V.p) vs:=by
 intro xs
 induction xs with
 |nil=>exact λh=>h
 |cons x xs ih=>intro vs h;cases vs with
  |nil=>exact h.elim
  |cons v vs=>exact⟨h.1,ih h.2⟩
inductive UnpAt(cx:Cx)(S:St)(ys:List V)(v:Value):Prop
 |mk (vs:List Value) (t:SeqAt S.G "tuple" vs v) (r:VRs cx S.G S.σ ys vs)
theorem B5e{cx:Cx}{S:St}{x:V}{ys:List V}{v:Value}(e:A7h x=some ys)(r:VR cx S.G S.σ x v):UnpAt cx S ys v:=by
 cases x with
 |p a=>cases a with
  |tup xs=>cases e;exact r.elim λvs r=>⟨vs,r.1,VRs.ofP r.2.2⟩
  |_=>exact A0a e
 |tup xs=>cases e;exact r.elim λvs r=>⟨vs,r.1,r.2.2⟩
 |_=>exact A0a e
section
variable{P:Pl}{E:CE}{env:Env}{outer:List Env}{S S':St}{K:Ko}{ρ:Lo}{X:Value->Shared->Prop}
theorem A9q(V:EnvF P env outer E){is:List Nat}{ts:List PySem.Expr}(hn:Names E is ts):∀{S:St} {ρ:Lo} {ys:List Mine.V} {vs:List Value} {Q:Unit->Shared->Prop},Rel P.cx P.l S->A0i P.cx S env E ρ->VRs P.cx S.G S.σ ys vs->ys.length=is.length->
  (∀S',NxS env S S'->S'.h=S.h->Rel P.cx P.l S'->A0i P.cx S' env E (setL ρ is ys)->Q () S'.s)->wpAny P.M P.A (assignInOrder ((assignEach ts env).map (·.2)) vs) Q X S.s:=by
 induction hn with
 |nil=>intro S ρ ys vs Q R L hv hl q;exact Ad (q S .rfl' rfl R L)
 |@cons i t is ts h _ ih=>
  intro S ρ ys vs Q R L hv hl q
  cases ys with
  |nil=>cases hl
  |cons y ys=>cases vs with
   |nil=>exact hv.elim
   |cons v vs=>
    revert ih
    refine h.rec λx px hx ih=> ?_
    show wpAny P.M P.A (do holding vs (assign (.Name x px) env v);assignInOrder ((assignEach ts env).map (·.2)) vs) Q X S.s
    exact Ab (wpAny_holding (Ab (wpAny_standAt (wpAny_bindName (A3h V hx R L hv.1 λS1 n e R1 L1=>ih R1 L1 (hv.2.mono n.g n.u) (Nat.succ.inj hl) λS2 n2 e2 R2 L2=>q S2 (n.trans n2) (e2.trans e) R2 L2)))))
theorem A5h(V:EnvF P env outer E){is:List Nat}{ts:List PySem.Expr}{k:Nat}{p:Pos}(hn:Names E is ts)(R:Rel P.cx P.l S)(L:A0i P.cx S env E ρ){x:Mine.V}{v:Value}(hv:VR P.cx S.G S.σ x v)(q:PO (asgO x is ρ S.h) K){Q:Unit->Shared->Prop}
  (k0:∀S' ρ',NxS env S S'->Rel P.cx P.l S'->A0i P.cx S' env E ρ'->K (.next ρ' S'.h)->Q () S'.s):wpAny P.M P.A (assign (.Tuple ts k p) env v) Q X S.s:=by
 change PO (match A7h x with | some vs=>(match Nat.beq vs.length is.length with | true=>.next (setL ρ is vs) S.h | false=>.bad) | none=>.bad) K at q
 cases e:A7h x with
 |none=>rw[e] at q;exact q.elim
 |some ys=>
  rw[e] at q
  change PO (match Nat.beq ys.length is.length with | true=>.next (setL ρ is ys) S.h | false=>.bad) K at q
  cases b:Nat.beq ys.length is.length with
  |false=>rw[b] at q;exact q.elim
  |true=>
   rw[b] at q
   have hl:=An b
   revert k0
   refine(B5e e hv).rec λvs t r=>t.rec λa o n g c d k=> ?_
   have e1:=hn.each (env:=env)
   have R1:∀{h':Heap},Heap.ExtBut S.s.heap.objs.size S.s.heap h'->Rel P.cx P.l {S with s:={S.s with heap:=h'}}:=λhe=>R.off1 (tk:=S.s.toks) ⟨R.gNone fresh,R.fNone fresh,R.off' fresh⟩ he
   exact wpAny_assign_Tuple P.am.handled ⟨o,R.stay _ _ g,c,n,d⟩ (e1.1.trans (hl.symm.trans (r.all.length.symm.trans Bk.symm))) e1.2 λh' he=>
    A9q V hn (R1 he) (L.nx (.g' .rfl')) r hl λS2 n2 e2 R2 L2=>k S2 _ ⟨n2.f,n2.g,n2.u⟩ R2 L2 (e2.symm▸q)
theorem ss_asgT(V:EnvF P env outer E){ts:List PySem.Expr}{is:List Nat}{k:Nat}{p pos:Pos}{v:PySem.Expr}{e:Ex}(hn:Names E is ts)(hc:A1t v=true)(ht:swappedStores [.Tuple ts k p] v env=pure none)(h:SX P E env v e):SS P E env (.Assign [.Tuple ts k p] v pos) (.asgT is e):=λS ρ K R L q=>
 wpAny_Assign_stores (exS h R .rfl' L (PO.st q) λS1 a w n _ R1 L1 r q=>by
  show wpAny P.M P.A (assignAll w [assign (.Tuple ts k p) env]) _ _ _
  exact A5h V hn R1 L1 r q λS2 ρ2 n2 R2 L2 q=>.next S2 ρ2 (n.trans n2) R2 L2 q) (by unfold swapsWithSole;exact A3y hc) ht
def GM.del(F:GM)(a:Addr):GM:=λb=>if b=a then none else F b
theorem GM.del_self{F:GM}{a:Addr}:F.del a a=none:=if_pos rfl
theorem GM.del_ne{F:GM}{a b:Addr}(h:b≠a):F.del a b=F b:=if_neg h
theorem GM.del_le{F:GM}{a:Addr}:Sub (F.del a) F:=λb x e=>by
 by_cases h:b=a
 ·exact A0a ((if_pos h).symm.trans e)
 ·exact(GM.del_ne h).symm.trans e
theorem Envs.del{l:List Env}{F F0M:GM}{a:Addr}(h:Envs l F)(h0:Envs l F0M)(ha:F0M a=none):Envs l (F.del a):=λe he=>(h e he).rec λL o es ep k b c d=>(h0 e he).rec λL' o' es' ep' k' b' c' d'=>
 ⟨L,o,es,ep,k,b,(GM.del_ne λz=>A0a (ha.symm.trans ((z▸Option.some.inj (b.symm.trans b'))▸c'))).trans c,d⟩
theorem not_own(L:A0i P.cx S env E ρ){I:Addr}(h:S.F I=none):¬A3l env I:=L.rec λm cm _ f _ z=>z.elim (λz=>f.loc.has.elim λo e=>A0a (h.symm.trans (z▸e))) λz=>z.elim λx hx=>(f.cell x _ hx).rec λo a _=>A0a (h.symm.trans a)
theorem A0i.own(L:A0i P.cx S env E ρ)(hf:∀a,A3l env a->S'.F a=S.F a)(g:Sub S.G S'.G)(u:Up S.σ S'.σ):A0i P.cx S' env E ρ:=
 L.rec λm cm n f h=>⟨m,cm,n,⟨f.loc.rec λo es ep a d k w=>⟨o,es,ep,(hf _ (.inl rfl)).trans a,d,k,w⟩,λx c e=>(f.cell x c e).rec λo a d=>⟨o,(hf _ (.inr ⟨x,e⟩)).trans a,d⟩⟩,λi v x a b=>(h i v x a b).rec λcv r z=>⟨cv,r.mono g u,z⟩⟩
inductive Targ(E:CE):PySem.Expr->List Nat->Bool->Prop
 |name (x:Str) (px:Pos) (i:Nat) (h:E.var x=some i):Targ E (.Name x px) [i] false
 |tup (ts:List PySem.Expr) (k:Nat) (p:Pos) (is:List Nat) (h:Names E is ts):Targ E (.Tuple ts k p) is true
noncomputable def B5y(n:Nat)(o oi:Ob)(is:List Nat)(u:Bool)(b:List Cm)(x:AVal)(ρ:Lo)(h:Ht):Ro:=match u with
 |false=>head1 is λi=>runL n o oi b (ρ.set i (some (.p x))) h
 |true=>(asgO (.p x) is ρ h).sq fun ρ2 h3=>runL n o oi b ρ2 h3
theorem B5m(V:EnvF P env outer E){t:PySem.Expr}{is:List Nat}{u:Bool}{cb:List Cm}(ht:Targ E t is u)(R:Rel P.cx P.l S)(L:A0i P.cx S env E ρ){x:AVal}{v:Value}(hv:VRep P.cx S.G x v){Q:Unit->Shared->Prop}(q:PO (B5y P.n P.o P.oi is u cb x ρ S.h) K)
  (k:∀S' ρ',NxS env S S'->Rel P.cx P.l S'->A0i P.cx S' env E ρ'->PO (runL P.n P.o P.oi cb ρ' S'.h) K->Q () S'.s):wpAny P.M P.A (assign t env v) Q X S.s:=by
 cases ht with
 |name y px i hx=>exact Ab (wpAny_standAt (wpAny_bindName (A3h V hx R L (r:=.p x) hv λS1 n e R1 L1=>k S1 _ n R1 L1 (e.symm▸q))))
 |tup ts k' p _ hn=>exact A5h V hn R L (x:=.p x) hv (PO.sq q) λS1 ρ1 n R1 L1 q=>k S1 ρ1 n R1 L1 q
noncomputable def lets:List String:=["enumerate", "zip", "dict_itemiterator", "dict_reverseitemiterator", "odict_iterator", "itertools.zip_longest", "itertools.pairwise"]
inductive B9s(o:Obj):Prop
 |mk (T:String) (c:o.cls=.type T) (n:lets.contains T=false)
theorem B0c(x:Str):lets.contains (strIterType x)=false:=by
 unfold strIterType
 cases x.cps.all (· <128) <;> decide
theorem ItO.plain{v:Mine.V}{cv:Value}{i:Nat}{o:Obj}(t:ItO v cv i o):B9s o:=by
 cases v with
 |p a=>cases a with
  |str z=>exact t.rec λc d=>⟨_,c,B0c _⟩
  |range lo hi=>exact⟨"range_iterator",congrArg Obj.cls t,by decide⟩
  |tup ys=>exact t.rec λc d=>⟨_,c,by decide⟩
  |_=>exact t.rec λc d=>⟨_,c,by decide⟩
 |ref k=>exact t.rec λc d=>⟨_,c,by decide⟩
 |_=>exact t.elim
theorem A7x{t:PySem.Expr}{is:List Nat}{u:Bool}{M:Model}{A:Around}{s:Shared}(ht:Targ E t is u){o:Obj}{I:Addr}{v:Value}{Q:Unit->Shared->Prop}(p:B9s o)(hi:s.heap.get? I=some o)(hq:Q () s):wpAny M A (letOwnedTupleGo t (.ref I) v) Q X s:=by
 revert hi
 refine p.rec λT hT hno hi=> ?_
 cases ht with
 |name=>exact Ad hq
 |tup=>
  unfold letOwnedTupleGo
  cases v with
  |ref a=>
   refine Ab (wpAny_load hi ?_)
   rw[hT]
   cases hd:o.data <;> first | exact Ad hq | skip
   show wpAny _ _ (if(lets.contains T&&_)=true then _ else _) _ _ _
   rw[hno]
   exact Ad hq
  |_=>exact Ad hq
theorem B7a{fb:AVal->Lo->Ht->Ro}{chk:Ht->Prop}{xs:List AVal}{h:Ht}(q:PO (loR fb chk xs ρ h) K):chk h:=by
 by_cases c:chk h
 ·exact c
 ·cases xs <;> (rw[loR,if_neg c] at q;exact q.elim)
theorem lo_nilM{fb:AVal->Lo->Ht->Ro}{chk:Ht->Prop}{h:Ht}(q:PO (loR fb chk [] ρ h) K):K (.next ρ h):=by
 have c:=B7a q
 rw[loR,if_pos c] at q;exact q
theorem lo_consM{fb:AVal->Lo->Ht->Ro}{chk:Ht->Prop}{x:AVal}{xs:List AVal}{h:Ht}(q:PO (loR fb chk (x::xs) ρ h) K):PO (fb x ρ h) (λr=>PO (r.turn fun ρ' h'=>loR fb chk xs ρ' h') K):=by
 have c:=B7a q
 rw[loR,if_pos c] at q;exact PO.turn q
end
section
variable{P:Pl}{E:CE}{env:Env}{outer:List Env}{S S':St}{K:Ko}{ρ:Lo}{X:Value->Shared->Prop}
inductive FInv(P:Pl)(S:St)(env:Env)(E:CE)(K:Ko)(fb:AVal->Lo->Ht->Ro)(v:V)(cv:Value)(xs:List AVal)(I:Addr)(k:Nat):Shared->Prop
 |mk (i:Nat) (S1:St) (ρ:Lo) (oI:Obj) (hk:xs.length-i=k) (hi:i<=xs.length) (n:∀a,¬A3l env a->a≠I->S1.F a=S.F a) (g:Sub S.G S1.G) (u:Up S.σ S1.σ) (R:Rel P.cx P.l S1) (fI:S1.F I=some oI)
  (L:A0i P.cx S1 env E ρ) (t:ItO v cv i oI) (q:PO (loR fb (A2l v xs) (xs.drop i) ρ S1.h) K):FInv P S env E K fb v cv xs I k S1.s
theorem NxS.nf{env:Env}{S S':St}(n:NxS env S S'):NxF env S S':=⟨n.f,n.g⟩
theorem del_f{I:Addr}{F F':GM}(n:∀a,¬A3l env a->a≠I->F' a=F a)(hI:F I=none)(a:Addr)(h:¬A3l env a):F'.del I a=F a:=by
 by_cases e:a=I
 ·subst e;exact GM.del_self.trans hI.symm
 ·exact(GM.del_ne e).trans (n a h e)
theorem B2r{I:Addr}(n:∀a,¬A3l env a->a≠I->S'.F a=S.F a)(hI:S.F I=none)(g:Sub S.G S'.G)(u:Up S.σ S'.σ)(s:Shared):NxS env S {S' with F:=S'.F.del I,s:=s}:=⟨del_f n hI,g,u⟩
theorem ss_for(V:EnvF P env outer E){t it:PySem.Expr}{b:List PySem.Stmt}{pos:Pos}{is:List Nat}{u:Bool}{e:Ex}{cb:List Cm}(ht:Targ E t is u)(hs:∀v,foldedSetIterable it env v=pure v)(h0:SX P E env it e)(h1:SL P E env b cb):SS P E env (.For t it b [] pos) (.loop is u e cb):=λS ρ K R L q=>by
 refine wpAny_For (exS h0 R .rfl' L (PO.st q) λS1 v cv n m R1 L1 r q=> ?_) hs
 revert q
 cases hit:A0z S1.h v with
 |none=>exact λq=>q.elim
 |some xs=>
  intro q
  have q:PO (loR (B5y P.n P.o P.oi is u cb) (A2l v xs) xs ρ S1.h) K:=q
  have hI:S1.F S1.s.heap.objs.size=none:=R1.fNone fresh
  have hown:¬A3l env S1.s.heap.objs.size:=not_own L1 hI
  refine B2g R1 r hit λoI t0 R2=> ?_
  show codeAny P.M P.A (.forLoop t (.ref S1.s.heap.objs.size) b [] env) (LoopR P S env E K) _
  refine codeAny_forLoop_any (FInv P S1 env E K (B5y P.n P.o P.oi is u cb) v cv xs S1.s.heap.objs.size) (λk s inv=> ?_) xs.length
   (FInv.mk (S:=S1) 0 {S1 with F:=S1.F.put S1.s.heap.objs.size oI,s:={S1.s with heap:=S1.s.heap.push oI}} ρ oI rfl (Ag _) (λa _ h=>GM.put_ne h) .rfl' .rfl' R2 GM.put_self (L1.own (λa h=>GM.put_ne λ(z:a=_)=>hown (z▸h)) .rfl' .rfl') t0 q)
  refine inv.rec λi S2 ρ2 oI hk hi nf g up R2 fI L2 t q=> ?_
  have he:Envs P.l (S2.F.del S1.s.heap.objs.size):=Envs.del R2.envs R1.envs hI
  have hit2:=A5u hit (B7a q)
  by_cases hlt:i<xs.length
  ·have hx:xs[i]?=some xs[i]:=B4 hlt
   rw[List.drop_eq_getElem_cons hlt] at q
   refine A9i P.am.handled R2 fI GM.del_le he GM.del_self (r.mono g up) hit2 t hx λw o' h' tk hw t' R3=> ?_
   refine A7x ht t'.plain (R3.beside (F:=S2.F.del S1.s.heap.objs.size) GM.put_self he GM.del_self) ?_
   have L3:=L2.own (S':={S2 with F:=S2.F.put S1.s.heap.objs.size o',s:={S2.s with heap:=h',toks:=tk}}) (λa h=>GM.put_ne λz=>hown (z▸h)) .rfl' .rfl'
   refine B5m V ht R3 L3 hw (lo_consM q) λS4 ρ4 n4 R4 L4 q4=>A4t V ?_
   have f4:∀{S5:St},NxF env S4 S5->S5.F S1.s.heap.objs.size=some o'/\∀a,¬A3l env a->a≠S1.s.heap.objs.size->S5.F a=S1.F a:=λn5=>⟨(n5.f _ hown).trans ((n4.f _ hown).trans GM.put_self),λa h z=>(n5.f a h).trans ((n4.f a h).trans ((GM.put_ne z).trans (nf a h z)))⟩
   have less:xs.length- (i+1)<k:=hk▸Bs hlt (Ax i)
   have again:∀{S5:St} {ρ5:Lo},NxS env S4 S5->Rel P.cx P.l S5->A0i P.cx S5 env E ρ5->PO (loR (B5y P.n P.o P.oi is u cb) (A2l v xs) (xs.drop (i+1)) ρ5 S5.h) K->∃m,m<k/\FInv P S1 env E K (B5y P.n P.o P.oi is u cb) v cv xs S1.s.heap.objs.size m S5.s:=
    λ{S5} {ρ5} n5 R5 L5 q5=>⟨_,less,.mk (i+1) S5 ρ5 o' rfl hlt (f4 n5.nf).2 (g.trans (n4.g.trans n5.g)) (up.trans (n4.u.trans n5.u)) R5 (f4 n5.nf).1 L5 t' q5⟩
   have down:∀{S5:St},NxS env S4 S5->NxS env S {S5 with F:=S5.F.del S1.s.heap.objs.size}:=λn5=>n.trans (B2r (f4 n5.nf).2 hI (g.trans (n4.g.trans n5.g)) (up.trans (n4.u.trans n5.u)) _)
   have low:∀{S5:St},Rel P.cx P.l S5->Rel P.cx P.l {S5 with F:=S5.F.del S1.s.heap.objs.size}:=λR5=>R5.fdown GM.del_le (Envs.del R5.envs R1.envs hI) λ_ _ _ e=>e
   refine Af (h1 S4 ρ4 _ R4 L4 q4) (λf _ x=>x.rec (λS5 ρ5 n5 R5 L5 q=>again n5 R5 L5 q) (λS5 ρ5 n5 R5 L5 q=>again n5 R5 L5 q) λS5 w r n5 R5 hv q=>.ret {S5 with F:=S5.F.del S1.s.heap.objs.size} w r (down n5) (low R5) hv q)
    λe _ x=>x.rec λS5 ρ5 p n5 R5 x L5 q=> ?_
   have off:∀{a:Addr},Off S5 a->Off {S5 with F:=S5.F.del S1.s.heap.objs.size} a:=λo=>⟨o.g,A1p λx z=>A0a (o.f.symm.trans (GM.del_le _ x z)),o.x⟩
   exact⟨{S5 with F:=S5.F.del S1.s.heap.objs.size},ρ5,p,⟨λa h=>(del_f (f4 n5).2 hI a h).trans (n.f a h),n.g.trans (g.trans (n4.g.trans n5.g))⟩,low R5,x.rec λa vs b t=>⟨a,vs,b.fdn off,t.fdn off⟩,L5.own (λa h=>GM.del_ne λz=>hown (z▸h)) .rfl' .rfl',q⟩
  ·have hi':i=xs.length:=Nat.le_antisymm hi (Nat.not_lt.mp hlt)
   subst hi'
   rw[List.drop_length] at q
   refine B2h P.am.handled R2 fI GM.del_le he GM.del_self (r.mono g up) hit2 t λh' tk kp=>wpAny_execs_nil ?_
   exact .next {S2 with F:=S2.F.del S1.s.heap.objs.size,s:={S2.s with heap:=h',toks:=tk}} ρ2 (n.trans (B2r nf hI g up _)) (R2.fdown GM.del_le he λb x h e=>kp b x (A7w fI GM.del_self h) e) (L2.own (λa h=>GM.del_ne λz=>hown (z▸h)) .rfl' .rfl') (lo_nilM q)
end
structure B9r{α:Type}(T:α->Value->Prop)(ns:List Nat)(xs:List α)(n:Nat)(p:List DictEntry):Prop where
 f:FKey ns p
 v:All2 T xs (p.map (·.val))
 l:p.length<=n+1
theorem B3n{α:Type}{T:α->Value->Prop}{a:Nat}(ha:a<55){h:Int}{t:Tok}{x:α}{v:Value}{fn:Option DictEntry->DictEntry}(f1:∀e,fn (some e)={e with val:=v})(f2:fn none=⟨h,.str (aNm a) t,v⟩)(hx:T x v){ns:List Nat}{es:List DictEntry}(f:FKey ns es):
  ∀{xs:List α},All2 T xs (es.map (·.val))->B9r T (putN ns a) (putV ns xs a x) es.length (nsPutIn (aNm a).cps.size (aNm a).cps.toList fn es).1:=by
 induction f with
 |nil=>
  intro xs hv
  cases hv
  exact⟨.one ⟨t,ha,by rw[f2]⟩,.one (by rw[f2];exact hx),Ac _⟩
 |@cons n e ns es f1' fs ih=>
  obtain⟨t',hn,q⟩:=f1'
  intro xs hv
  cases hv with
  |@cons y _ ys _ h1 h2=>
   show B9r T (match Nat.beq n a with | true=>n::ns | false=>n::putN ns a) (match Nat.beq n a with | true=>x::ys | false=>y::putV ns ys a x) _ _
   unfold nsPutIn
   cases z:Nat.beq n a with
   |true=>
    have z:=An z
    subst z
    rw[if_pos (by rw[Value.isStrByCps_eq,q];exact beq_self_eq_true _)]
    exact⟨.cons ⟨t',hn,by rw[f1];exact q⟩ fs,.cons (by rw[f1];exact hx) h2,A9 _⟩
   |false=>
    rw[if_neg (by rw[Value.isStrByCps_eq,q];exact λw=>beq_ne z (B9o hn ha (eq_of_beq w)))]
    have r:=ih h2
    exact⟨.cons ⟨t',hn,q⟩ r.f,.cons h1 r.v,Ah r.l⟩
theorem A7a{ns:List Nat}{es:List DictEntry}(f:FKey ns es):(es.any (·.refKey))=false:=f.rec rfl λh _ ih=>h.rec λt _ q=>by rw[List.any_cons,ih,DictEntry.refKey,q];rfl
theorem put_at{α:Type}{T:α->Value->Prop}{a:Nat}{fn:Option DictEntry->DictEntry}{es:List DictEntry}{p:List DictEntry×Bool}(hp:nsPutIn (aNm a).cps.size (aNm a).cps.toList fn es=p)(ha:a<55){h:Int}{t:Tok}{x:α}{v:Value}(f1:∀e,fn (some e)={e with val:=v})(f2:fn none=⟨h,.str (aNm a) t,v⟩)(hx:T x v){ns:List Nat}(f:FKey ns es)
  {xs:List α} (hv:All2 T xs (es.map (·.val))):B9r T (putN ns a) (putV ns xs a x) es.length p.1:=hp▸B3n ha f1 f2 hx f hv
inductive PutO(T:V->Value->Prop)(ns:List Nat)(xs:List V)(n:Nat)(o:Obj):Prop
 |mk (es:List DictEntry) (m:Nat) (e:o=dictOf es m) (p:B9r T ns xs n es)
theorem put_obj{T:V->Value->Prop}{a:Nat}(ha:a<55){h:Int}{t:Tok}{x:V}{v:Value}(hx:T x v){ns:List Nat}{es:List DictEntry}{m:Nat}(f:FKey ns es){xs:List V}(hv:All2 T xs (es.map (·.val))):PutO T (putN ns a) (putV ns xs a x) es.length (Obj.putName (aNm a) h (.str (aNm a) t) v (dictOf es m)):=by
 unfold Obj.putName
 dsimp only
 generalize hp:nsPutIn _ _ _ _=p
 have k:=put_at hp ha (λ_=>rfl) rfl hx f hv
 cases p with
 |mk p b=>cases b with
  |false=>exact⟨p,m,rfl,k⟩
  |true=>exact⟨p,m+1,rfl,k⟩
section
variable{P:Pl}{E:CE}{env:Env}{outer:List Env}{S S':St}{K:Ko}{ρ:Lo}{X:Value->Shared->Prop}
theorem set_rule(Fa:Facts P.cx){a:Nat}{w x:V}{cw cx:Value}{h2:Ht}{Q:Unit->Shared->Prop}(R:Rel P.cx P.l S)(rw_:VR P.cx S.G S.σ w cw)(rx:VR P.cx S.G S.σ x cx)(e:setO w a x S.h=some h2)
  (q:∀h' tk,Rel P.cx P.l {S with h:=h2,s:={S.s with heap:=h',toks:=tk}}->Q () {S.s with heap:=h',toks:=tk}):wpAny P.M P.A (setAttr cw (aNm a) cx) Q X S.s:=by
 cases w with
 |obj c k=>
  revert q
  refine rw_.rec λy dx ek g1 q=> ?_
  obtain⟨d,o,hk,ho,w⟩:=R.cellOf ek
  change (match S.h[k]? with | some d=>(match d with | .dct ns xs=>(match(A0r c).contains a&&Nat.ble ns.length 10 with | true=>some (S.h.set k (.dct (putN ns a) (putV ns xs a x))) | false=>none) | .lst _=>none | .lstR _=>none) | none=>none)=some h2 at e
  rw[hk] at e
  cases d with
  |dct ns xs=>
   change (match(A0r c).contains a&&Nat.ble ns.length 10 with | true=>some (S.h.set k (.dct (putN ns a) (putV ns xs a x))) | false=>none)=some h2 at e
   cases b:(A0r c).contains a&&Nat.ble ns.length 10 with
   |false=>rw[b] at e;exact A0a e
   |true=>
    rw[b] at e
    cases e
    have b:=Aq.mp b
    have ft:=A6f b.1
    have g:=Fa.cls c ft.2
    revert ho
    refine w.rec λes m l fk rs ho=> ?_
    have I:InstAt S.s.heap y (instObj (P.cx.ca c) dx) (P.cx.ca c) (some (dictOf es m)):=⟨R.stay _ _ g1,rfl,rfl,ho⟩
    refine set_plain R.inK I g.sa (osa_open (s:={S.s with toks:=S.s.toks+1}) R.inK I g.pl (r:=none) (by unfold takerIn;rw[g.fld a b.1];rfl) λbb=> ?_)
    refine g.cd.rec λcd hc hd'=> ?_
    refine Ab (Ad (Ab (Ab (wpAny_loadPart (R.stay _ _ g1) (Ab ((looks_clsIn (M:=P.M) (R.toks (S.s.toks+1)).inK hc).here (s:={S.s with toks:=S.s.toks+1}) ?_))))))
    rw[hd']
    refine Ad (a:=some dx) (Ab (Ad (Ab ?_)))
    unfold nsSet
    refine Ab (Ab (wpAny_askSetting (Ad (Ab (wpAny_mkText (Ab (wpAny_loadPart ho ?_)))))))
    dsimp only
    rw[aRefKeyMayBeTheName_at,show es.toArray.any (·.refKey)=false from(Array.any_toList (p:=DictEntry.refKey)).symm.trans (A7a fk),Cj]
    refine wpAny_updatePart ho ?_
    refine(put_obj (h:=PyData.keyHash P.cx.w.params (aNm a)) (t:=S.s.toks+1) (m:=m) ft.1 rx fk rs).rec λes' m' e p=> ?_
    have hu:=Heap.get?_update_self (Obj.putName (aNm a) (PyData.keyHash P.cx.w.params (aNm a)) (.str (aNm a) (S.s.toks+1)) cx) ho (by rw[e];rfl)
    rw[e] at hu
    have hl:es'.length<=100:=Aa p.l (Aa (Ah (fk.length▸nbl b.2)) (by decide))
    refine Ab (wpAny_lookBehind hu (pastItsLine_dict (by rw[Bk];exact Aa hl (by decide))) ?_)
    exact Ad (q _ _ (R.hset ek hu ⟨es',m',hl,p.f,p.v⟩ λb z hb hz=>A0u hb hz))
  |_=>exact A0a e
 |_=>exact A0a e
end
theorem ix_atM{n k:Nat}{i:Int}(h:ix n i=some k):A5k n k i:=by
 cases i with
 |ofNat j=>
  change (match Nat.ble (j+1) n with | true=>some j | false=>none)=some k at h
  cases q:Nat.ble (j+1) n with
  |true=>rw[q] at h;cases h;exact .pos (nbl q)
  |false=>rw[q] at h;exact A0a h
 |negSucc j=>
  change (match Nat.ble (j+1) n with | true=>some (n- (j+1)) | false=>none)=some k at h
  cases q:Nat.ble (j+1) n with
  |true=>rw[q] at h;cases h;exact .neg j (nbl q) rfl
  |false=>rw[q] at h;exact A0a h
theorem idx_lt{n k:Nat}{i:Int}(h:A5k n k i):k<n:=h.rec (λh=>h) λj h e=>e▸Nat.sub_lt (Ap (Ar j) h) (Ar j)
section
variable{P:Pl}{E:CE}{env:Env}{outer:List Env}{S S':St}{K:Ko}{ρ:Lo}{X:Value->Shared->Prop}
theorem A0i.ch{h:Ht}{s:Shared}(L:A0i P.cx S env E ρ):A0i P.cx {S with h:=h,s:=s} env E ρ:=L.own (λ_ _=>rfl) .rfl' .rfl'
theorem set_list{A:Around}{s:Shared}{a:Addr}{vs:List Value}{m k:Nat}{i:Int}{u:Tok}{v:Value}{Q:Unit->Shared->Prop}(ho:s.heap.get? a=some {cls:=.type "list",data:=.seq vs.toArray m})(hl:vs.length<=sizeLine)
  (h:A5k vs.length k i) (hq:Q () {s with heap:=s.heap.update a (Obj.mapSeq (·.setIfInBounds k v))}):wpAny (model pw P.cx.w) A (setItem (.ref a) (.int i u) v) Q X s:=by
 have hT:s.TypeIs (.ref a) "list" :=⟨_,ho,rfl⟩
 have f:=h.lim hl
 have hk:vs.toArray[k]?=some (vs[k]'(idx_lt h)):=A9r (B4 (idx_lt h))
 unfold setItem
 try with_reducible refine wpAny_holding ?_
 first | refine Ab (Ad ?_) | skip
 refine Ab (wpAny_sequenceKey hT (by decide) ?_)
 refine Ab (wpAny_callSpecial?_slot (name:=Str.ofString "__setitem__") hT slot_list_setitem
  (wpAny_call_entry slot_list_setitem hT entry_list_setitem ?_ (args_list_setitem _ _ _)))
 show wpAny _ _ (Builtin.List.listSubscript? (.int i u) >>= _) _ _ s
 have hfit:Builtin.List.listFitsIndex i=true:=Aq.mpr ⟨A8 f.1,A8 f.2⟩
 refine Ab (wpAny_listSubscript_int hfit ?_)
 cases h with
 |pos h=>
  show wpAny _ _ ((seqItemAt a k >>= λr=>pure (r.map (k,·))) >>= _) _ _ s
  refine Ab (Ab (wpAny_seqItemAt ho rfl (Ad ?_)))
  rw[hk]
  show wpAny _ _ (setSeqItemAt a k v >>= _) _ _ s
  refine Ab (wpAny_setSeqItemAt ho rfl ?_)
  first
   |exact Ab (Ad (Ad ⟨.none,rfl,Ad hq⟩))
   |exact Ad ⟨.none,rfl,Ad hq⟩
 |neg j h e=>
  show wpAny _ _ ((Builtin.List.listItems (.ref a) >>= λxs=>pure ((seqIndex? (Int.negSucc j) xs.size).bind λi=>xs[i]?.map (i,·))) >>= _) _ _ s
  refine Ab (Ab ?_)
  show wpAny _ _ (seqItems? (.ref a) >>= _) _ _ s
  refine Ab (wpAny_seqItems ho rfl (Ad (Ad ?_)))
  rw[Bk,(A5k.neg j h e).seq,Option.bind_some,hk]
  show wpAny _ _ (setSeqItemAt a k v >>= _) _ _ s
  refine Ab (wpAny_setSeqItemAt ho rfl ?_)
  first
   |exact Ab (Ad (Ad ⟨.none,rfl,Ad hq⟩))
   |exact Ad ⟨.none,rfl,Ad hq⟩
theorem A6k{A:Around}{t v:PySem.Expr}{pos:Pos}{Q:Flow->Shared->Prop}{s:Shared}(hc:A1t v=true)(hw:swappedStores [t] v env=pure none)
  (ht:(assignEach [t] env).map (·.2)=[assign t env]) (h:wpAny P.M A (eval v env) (λw s₁=>wpAny P.M A (assign t env w) (λ_=>Q .next) X s₁) X s):wpAny P.M A (exec (.Assign [t] v pos) env) Q X s:=
 wpAny_Assign_stores (Af h (λw s₁ h₁=>by rw[ht];exact h₁) λ_ _ z=>z) (by unfold swapsWithSole;exact A3y hc) hw
theorem ss_seta(Fa:Facts P.cx){o v:PySem.Expr}{i:Nat}{p pos:Pos}{eo ev:Ex}(hc:A1t v=true)(h1:SX P E env v ev)(h2:SX P E env o eo):
  SS P E env (.Assign [.Attribute o (aNm i) p] v pos) (.seta eo i ev):=λS ρ K R L q=>
 A6k hc rfl rfl (exS h1 R .rfl' L (PO.st q) λS1 x cx n m1 R1 L1 rx q=>by
  rw[arm_assign_Attribute]
  refine Ab (wpAny_holding (exS h2 R1 n L1 (PO.st q) λS2 w cw n2 m2 R2 L2 rw_ q=>Ab (wpAny_standAt (Ab (wpAny_holding ?_)))))
  revert q
  cases e:setO w i x S2.h with
  |none=>exact λq=>q.elim
  |some h2=>exact λq=>set_rule Fa R2 rw_ (rx.mono m2.g m2.u) e λh' tk R3=>wpAny_release' (.next {S2 with h:=h2,s:={S2.s with heap:=h',toks:=tk}} ρ ⟨n2.f,n2.g,n2.u⟩ R3 L2.ch q))
inductive PutI(S:St)(ρ:Lo)(K:Ko)(x w j:V):Prop
 |mk (k:Nat) (i:Int) (a:AVal) (xs:List AVal) (n:Nat) (ew:w=.ref k) (ej:j=.p (.int i)) (ea:x=.p a) (eh:S.h[k]?=some (.lst xs)) (en:ix xs.length i=some n) (q:K (.next ρ (S.h.set k (.lst (xs.set n a)))))
theorem put_i{x w j:V}(q:PO (setiO w j x ρ S.h) K):PutI S ρ K x w j:=by
 change PO (match putI w j x S.h with | some q=>(match q.1 with | some i=>.next ρ (S.h.set q.2.2.1 (.lst (q.2.1.set i q.2.2.2))) | none=>.bad) | none=>.bad) K at q
 cases w with
 |ref k=>cases j with
  |p b=>cases b with
   |int i=>cases x with
    |p a=>
     change PO (match(match S.h[k]? with | some c=>(match c with | .lst xs=>some (ix xs.length i,xs,k,a) | .lstR _=>none | .dct _ _=>none) | none=>none) with | some q=>(match q.1 with | some i=>.next ρ (S.h.set q.2.2.1 (.lst (q.2.1.set i q.2.2.2))) | none=>.bad) | none=>.bad) K at q
     cases e:S.h[k]? with
     |none=>rw[e] at q;exact q.elim
     |some c=>cases c with
      |lst xs=>
       rw[e] at q
       change PO (match ix xs.length i with | some n=>.next ρ (S.h.set k (.lst (xs.set n a))) | none=>.bad) K at q
       cases z:ix xs.length i with
       |none=>rw[z] at q;exact q.elim
       |some n=>rw[z] at q;exact⟨k,i,a,xs,n,rfl,rfl,rfl,e,z,q⟩
      |_=>rw[e] at q;exact q.elim
    |_=>exact q.elim
   |_=>exact q.elim
  |_=>exact q.elim
 |_=>exact q.elim
theorem ss_seti{o ix' v:PySem.Expr}{p pos:Pos}{eo ei ev:Ex}(hc:A1t v=true)(h1:SX P E env v ev)(h2:SX P E env o eo)(h3:SX P E env ix' ei):
  SS P E env (.Assign [.Subscript o ix' p] v pos) (.seti eo ei ev):=λS ρ K R L q=>
 A6k hc rfl rfl (exS h1 R .rfl' L (PO.st q) λS1 x cx n m1 R1 L1 rx q=>by
  rw[arm_assign_Subscript]
  refine Ab (wpAny_holding (exS h2 R1 n L1 (PO.st q) λS2 w cw n2 m2 R2 L2 rw_ q=>Ab (wpAny_holding (exS h3 R2 n2 L2 (PO.st q) λS3 j cj n3 m3 R3 L3 rj q=>Ab (wpAny_standAt (Ab (wpAny_holding ?_)))))))
  obtain⟨k,i,a,xs,m,rfl,rfl,rfl,eh,en,q'⟩:=put_i q
  revert rx
  refine(rw_.mono m3.g m3.u:VR P.cx S3.G S3.σ (.ref k) cw).rec λad ek=>rj.rec λu rx=> ?_
  refine(R3.cell k _ eh).rec λa' o ek' ho w=> ?_
  cases Option.some.inj (ek.symm.trans ek')
  revert ho
  refine w.rec λvs nn l r ho=> ?_
  refine set_list (P:=P) ho (r.length▸l) (ix_atM (r.length.symm▸en)) (wpAny_release' ?_)
  have e:vs.toArray.setIfInBounds m cx=(vs.set m cx).toArray:=List.setIfInBounds_toArray ..
  have hu:(S3.s.heap.update ad (Obj.mapSeq λx=>x.setIfInBounds m cx)).get? ad=some (lstO (vs.set m cx) (if(vs.toArray.setIfInBounds m cx).size==vs.toArray.size then nn else nn+1)):=by
   rw[Heap.get?_update_self (Obj.mapSeq λx=>x.setIfInBounds m cx) ho rfl]
   show some (Obj.mapSeq _ _)=_
   rw[Obj.mapSeq,e]
  exact .next {S3 with h:=S3.h.set k (.lst (xs.set m a)),s:={S3.s with heap:=_}} ρ ⟨n3.f,n3.g,n3.u⟩
   (R3.hset (tk:=S3.s.toks) ek hu ⟨_,_,Cq.symm▸l,All2.set (VRep.mono (m2.g.trans m3.g) rx) r m⟩ λb x hb hx=>A0u hb hx) L3.ch q')
end
section
variable{cx:Cx}{env:Env}{l:List Env}{S S':St}{F:GM}{G:GM}{σ σ':List Addr}
theorem VR.mv{t:Nat->Bool}(k:∀(j:Nat) (a:Addr),t j=true->σ[j]?=some a->σ'[j]?=some a){x:V}{v:Value}(b:rfB t x=true)(h:VR cx G σ x v):VR cx G σ' x v:=by
 cases x with
 |p a=>exact h
 |ref j=>exact h.rec λa e=>⟨a,k j a b e⟩
 |obj c j=>exact h.rec λa dx e g=>⟨a,dx,k j dx b e,g⟩
 |tup xs=>exact nomatch b
theorem all_mv{t:Nat->Bool}(k:∀(j:Nat) (a:Addr),t j=true->σ[j]?=some a->σ'[j]?=some a):∀{xs:List V} {vs:List Value},xs.all (rfB t)=true->All2 (VR cx G σ) xs vs->All2 (VR cx G σ') xs vs:=by
 intro xs
 induction xs with
 |nil=>intro vs _ h;cases h;exact .nil
 |cons x xs ih=>intro vs b h;cases h with
  |cons h hs=>exact .cons (VR.mv k (Aq.mp b).1 h) (ih (Aq.mp b).2 hs)
theorem A2g.mv{t:Nat->Bool}(k:∀(j:Nat) (a:Addr),t j=true->σ[j]?=some a->σ'[j]?=some a){c:Cl}{o:Obj}(b:clB t c=true)(h:A2g cx G σ c o):A2g cx G σ' c o:=by
 cases c with
 |lst xs=>exact h
 |lstR xs=>exact nomatch b
 |dct ns xs=>
  exact h.rec λes n l f r=>⟨es,n,l,f,all_mv k b r⟩
theorem A3t{α:Type}{l:List α}{m k:Nat}{x:α}(e:(l.take m)[k]?=some x):k<m/\l[k]?=some x:=by
 rw[List.getElem?_take] at e
 by_cases h:k<m
 ·rw[if_pos h] at e;exact⟨h,e⟩
 ·rw[if_neg h] at e;exact A0a e
theorem A7j{α:Type}{l:List α}{m k:Nat}{x:α}(h:k<m)(e:l[k]?=some x):(l.take m)[k]?=some x:=by rw[List.getElem?_take,if_pos h];exact e
theorem B3b{α:Type}{p:α->Bool}{l:List α}{k:Nat}{x:α}(h:l.all p=true)(e:l[k]?=some x):p x=true:=Av.mp h x (C1 e)
theorem Rel.cut(R:Rel cx l S)(m:Nat)(c:(S.h.take m).all (cloC m)=true):Rel cx l {S with σ:=S.σ.take m,h:=S.h.take m}:=
 {R with
  cell:=λk d e=>(R.cell k d (A3t e).2).rec λa o e' q w=>⟨a,o,A7j (A3t e).1 e',q,w.mv (λj b t e=>A7j (nbl t) e) (B3b c e)⟩
  off:=λk a e=>R.off k a (A3t e).2
  inj:=λi j a e1 e2=>R.inj i j a (A3t e1).2 (A3t e2).2
  len:=by
   show(S.σ.take m).length=(S.h.take m).length
   rw[Co,Co,R.len]}
theorem Rel.bare(R:Rel cx l S):Rel cx l {S with σ:=[],h:=[]}:=
 {R with
  cell:=λk d e=>A0a e
  off:=λk a e=>A0a e
  inj:=λi j a e1 e2=>A0a e1
  len:=rfl}
theorem B5d{m:Nat}(u:Up σ σ')(e:σ.length=m):Up σ (σ'.take m):=λk a q=>A7j (e▸(Bm.mp q).1) (u k a q)
theorem Rel.leave{L:Addr}(R:Rel cx (env::l) S)(hf:env.frame=some L)(hL:F L=none)(sb:Sub F S.F)(he:Envs l F):Rel cx l {S with F:=F}:=
 {R with
  cell:=λk c e=>(R.cell k c e).rec λa o e q d=>⟨a,o,e,q,d⟩
  off:=λk a e=>⟨(R.off k a e).1,A1p λx z=>A0a ((R.off k a e).2.symm.trans (sb _ x z))⟩
  fram:=λa o e=>⟨(R.fram a o (sb a o e)).1,(R.fram a o (sb a o e)).2.rec λo' q k=>⟨o',q,by
   cases k with
   |same=>exact .same
   |slots h sl=>
    obtain⟨e',hm,hfr⟩:=List.mem_filterMap.mp h
    cases hm with
    |head=>cases Option.some.inj (hf.symm.trans hfr);exact A0a (hL.symm.trans e)
    |tail _ hm=>exact .slots (List.mem_filterMap.mpr ⟨e',hm,hfr⟩) sl⟩⟩
  envs:=he}
theorem Off.fd(sb:Sub F S.F){a:Addr}(o:Off S a):Off {S with F:=F} a:=⟨o.g,A1p λx z=>A0a (o.f.symm.trans (sb _ x z)),o.x⟩
end
section
variable{kd:Str->Option NameKind}{x:Str}
abbrev Apt(x:Str)(ps:List Str):Prop:=ps.contains x=false
theorem zip_off{ps:List Str}{vs:List Value}(h:Apt x ps):∀p∈ps.zip vs,p.1≠x:=λp hp e=>by
 have h:ps.contains x=false:=h
 rw[A4.mpr (e▸(List.of_mem_zip hp).1)] at h;cases h
theorem B0y:∀{bs:List (Str×Value)} {m:Str->Option Value},(∀p∈bs,p.1≠x)->bindL kd bs m x=m x:=by
 intro bs
 induction bs with
 |nil=>exact λ_=>rfl
 |cons p r ih=>
  intro m h
  obtain⟨n,v⟩:=p
  have n1:x≠n:=λe=>h (n,v) (.head _) e.symm
  unfold bindL
  rw[ih λp hp=>h p (.tail _ hp)]
  split
  ·exact if_neg n1
  ·rfl
theorem B0z:∀{bs:List (Str×Value)} {m:Str->Option Value},(∀p∈bs,p.1≠x)->bindC kd bs m x=m x:=by
 intro bs
 induction bs with
 |nil=>exact λ_=>rfl
 |cons p r ih=>
  intro m h
  obtain⟨n,v⟩:=p
  have n1:x≠n:=λe=>h (n,v) (.head _) e.symm
  unfold bindC
  rw[ih λp hp=>h p (.tail _ hp)]
  split
  ·rfl
  ·exact if_neg n1
structure BoundAt(kd:Str->Option NameKind)(x:Str)(v:Value)(bs:List (Str×Value))(m cm:Str->Option Value):Prop where
 l:kd x=some .local->bindL kd bs m x=some v
 c:kd x≠some .local->bindC kd bs cm x=some v
theorem bind_at{v:Value}:∀{ps:List Str} {vs:List Value} {m cm:Str->Option Value} {i:Nat},A3b ps=true->ps[i]?=some x->vs[i]?=some v->BoundAt kd x v (ps.zip vs) m cm:=by
 intro ps
 induction ps with
 |nil=>exact λ_ h=>A0a h
 |cons p ps ih=>
  intro vs m cm i hn h1 h2
  cases vs with
  |nil=>exact A0a h2
  |cons w vs=>
   have hn:=Aq.mp hn
   cases i with
   |zero=>
    have e1:p=x:=Option.some.inj h1
    have e2:w=v:=Option.some.inj h2
    subst e1 e2
    have off:∀q∈ps.zip vs,q.1≠p:=zip_off (Cg _ |>.mp hn.1)
    constructor
    ·intro hk
     show bindL kd (ps.zip vs) _ p=_
     rw[B0y off,if_pos hk];exact if_pos rfl
    ·intro hk
     show bindC kd (ps.zip vs) _ p=_
     rw[B0z off,if_neg hk];exact if_pos rfl
   |succ i=>exact⟨(ih (m:=_) (cm:=cm) hn.2 h1 h2).l,(ih (m:=m) (cm:=_) hn.2 h1 h2).c⟩
end
theorem B6u{sc:Scope}{x:Str}(h:(B0j sc).contains x=true):(x,NameKind.globalImplicit)∈sc.names:=A2d.mp h
inductive LocK(sc:Scope)(x:Str):Prop
 |l (h:(x,NameKind.local)∈sc.names)
 |c (h:(x,NameKind.cell)∈sc.names)
theorem A4w{sc:Scope}{x:Str}(h:x∈A1c sc):LocK sc x:=by
 obtain⟨⟨n,k⟩,hz,rfl⟩:=List.mem_map.mp h
 obtain⟨h1,h2⟩:=List.mem_filter.mp hz
 cases k <;> first | exact .l h1 | exact .c h1 | cases h2
theorem A9p{x:Str}:∀{ns:List (Str×NameKind)} {n:Nat} {acc:List (Str×Addr)},((x,NameKind.cell)∈ns∨(acc.lookup x).isSome=true)->((cellsFrom n ns acc).lookup x).isSome=true:=by
 intro ns
 induction ns with
 |nil=>exact λh=>h.resolve_left Cn
 |cons y r ih=>
  intro n acc h
  have keep:∀{n:Nat},(acc.lookup x).isSome=true->(((y.1,n)::acc).lookup x).isSome=true:=λ{n} h=>by
   rw[A1f]
   cases x==y.1 with
   |false=>exact h
   |true=>rfl
  show((if y.2==.cell then cellsFrom (n+1) r ((y.1,n)::acc) else cellsFrom n r acc).lookup x).isSome=true
  cases hk:y.2==NameKind.cell with
  |true=>
   refine ih (h.elim (λh=> ?_) λh=>.inr (keep h))
   cases h with
   |head=>exact .inr (by rw[A1f,beq_self_eq_true];rfl)
   |tail _ h=>exact .inl h
  |false=>
   refine ih (h.elim (λh=> ?_) λh=>.inr h)
   cases h with
   |head=>exact nomatch hk
   |tail _ h=>exact .inl h
theorem B0w{fd:FuncData}{L:Nat}{x:Str}(h:(x,NameKind.cell)∈fd.scope.names):∃c,(cellsFrom L fd.scope.names []).lookup x=some c:=Option.isSome_iff_exists.mp (A9p (.inl h))
theorem B9b{sc:Scope}{x:Str}{i:Nat}(h:(ceOf sc).var x=some i):(A1c sc)[i]?=some x:=A9x (E:=ceOf sc) rfl h
theorem envF_of{P:Pl}{outer:List Env}{fd:FuncData}{L a:Addr}(hk:fd.scope.kind=.function)(hn:A3b (fd.scope.names.map (·.1))=true)(hg:fd.globals=mainGlobals)(hb:fd.builtins=builtinsNs)
  (hA:EnvA (callEnvC fd L a)) (hl:P.l=callEnvC fd L a::outer):EnvF P (callEnvC fd L a) outer (ceOf fd.scope) where
 V:={
  kind:=hk
  glob:=λx hx=>A0q hn (x,.globalImplicit) (B6u hx)
  globals:=hg
  builtins:=hb
  cells:=λx hx=>⟨A0q hn (x,.cell) (A2d.mp hx),B0w (A2d.mp hx)⟩}
 cv:=rfl
 ok:=λy hy=>A4.mpr (List.mem_map.mpr ⟨_,List.mem_filter.mpr ⟨A2d.mp hy,rfl⟩,rfl⟩)
 own:=λx i hx=>(A4w (C1 (B9b hx))).rec (λh=>.inl (A0q hn (x,.local) h)) λh=>.inr ⟨A0q hn (x,.cell) h,B0w h⟩
 A:=hA
 frame:=rfl
 celled:=λx hx=>A4.mpr (List.mem_map.mpr ⟨(x,.cell),List.mem_filter.mpr ⟨A2t hx,rfl⟩,rfl⟩)
 hl:=hl
theorem A4u:∀{l:List Str},A3b l=true↔l.Nodup:=by
 intro l
 induction l with
 |nil=>exact⟨λ_=>List.nodup_nil,λ_=>rfl⟩
 |cons x r ih=>
  refine⟨λh=> ?_,λh=> ?_⟩
  ·have h:=Aq.mp h
   exact List.nodup_cons.mpr ⟨λhm=>Bn.mp (Cg _ |>.mp h.1) (A4.mpr hm),ih.mp h.2⟩
  ·have h:=List.nodup_cons.mp h
   exact Aq.mpr ⟨(Cg _).mpr (Bn.mpr λq=>h.1 (A4.mp q)),ih.mpr h.2⟩
theorem A9c{sc:Scope}{np:Nat}(h:A3b (sc.names.map (·.1))=true):A3b ((A1c sc).take np)=true:=
 A4u.mpr (((A4u.mp h).sublist (List.Sublist.map _ List.filter_sublist)).sublist (List.take_sublist _ _))
inductive FnObj(cx:Cx)(fa:Addr)(sc:Scope)(body:List PySem.Stmt)(np lo:Nat)(dcs:List Value):Prop
 |mk (o:Obj) (fd:FuncData) (ho:cx.K.lookup fa=some o) (hd:o.data=.func fd) (hsc:fd.scope=sc) (hclo:fd.closure=[]) (hbody:fd.body=.stmts body) (hgl:fd.globals=mainGlobals) (hbu:fd.builtins=builtinsNs)
  (hcode:∀h:Heap,cx.K.In h->h.CodeRec fd.code fd.qualname) (hbind:∀(s:Shared) (vals:List Value),cx.K.In s.heap->lo<=vals.length->vals.length<=np->BindsTo s fd ⟨vals,[]⟩ (((A1c fd.scope).take np).zip (vals++dcs.drop (vals.length-lo))))
structure FnAt(cx:Cx)(fa:Addr)(sc:Scope)(body:List PySem.Stmt)(np lo:Nat)(dcs:List Value):Prop where
 ex:FnObj cx fa sc body np lo dcs
 co:sc.isCoroutine=false
 gen:sc.isGenerator=false
 kind:sc.kind=.function
 nd:A3b (sc.names.map (·.1))=true
 npl:np<=(A1c sc).length
 dl:lo+dcs.length=np
section
variable{cx:Cx}{A:Around}{n:Nat}{l:List Env}{S:St}
theorem Amb.deep{env:Env}(Am:Amb A (n+1) l):Amb (A.deeper env) n (env::l) where
 frames:=by
  show A.frames.map (env:: ·)=_
  rw[Am.frames];rfl
 handled:=Am.handled
 depth:=by
  show A.depth+1+2*n+4<=1000
  have:=Am.depth;omega
 units:=by
  show A.units+3+20*n+3000<=9900
  have:=Am.units;omega
open Classical in
noncomputable def B8m(env:Env)(F:GM)(h:Heap):GM:=λa=>if A3l env a then h.get? a else F a
structure Entered(cx:Cx)(l:List Env)(S:St)(env:Env)(sc:Scope)(vals:List Value)(S1:St):Prop where
 V:∀P:Pl,P.l=env::l->EnvF P env l (ceOf sc)
 R:Rel cx (env::l) S1
 L:∃m cm,FrmE S1.F env m cm/\∀i x v,(ceOf sc).var x=some i->vals[i]?=some v->Hold env m cm x v
 g:S1.G=S.G
 u:S1.σ=S.σ
 h:S1.h=S.h
 fL:S.F env.locals=none
 kp:∀b o,S.s.heap.get? b=some o->S1.s.heap.get? b=some o
 ff:∀{a:Addr} {o:Obj},S.s.heap.get? a=some o->S1.F a=S.F a
 sb:∀F'':GM,(∀a,¬A3l env a->F'' a=S1.F a)->Sub S.F F''
theorem A5a(Fa:Facts cx){fa:Addr}{sc:Scope}{body:List PySem.Stmt}{np lo:Nat}{dcs:List Value}(g:FnAt cx fa sc body np lo dcs){cvs:List Value}(Am:Amb A (n+1) l)(R:Rel cx l S)(h1:lo<=cvs.length)(h2:cvs.length<=np)
  {RR:Result->Shared->Prop}
  (hw:∀(env:Env) (S1:St),Entered cx l S env sc (cvs++dcs.drop (cvs.length-lo)) S1->
   wpAny (model pw cx.w) (A.deeper env) (execs body env) (λfl s'=>RR (.ok (.ret (match fl with | .ret v=>v | _=>.none))) s')
    (λe s'=>wpAny (model pw cx.w) (A.deeper env) (leaving env e) (λ_ s''=>RR (.error e) s'') (λe' s''=>RR (.error e') s'') s') S1.s):codeAny (model pw cx.w) A (.call (.ref fa) ⟨cvs,[]⟩) RR S.s:=by
 obtain⟨⟨o,fd,ho,hd,hsc,hclo,hbody,hgl,hbu,hcode,hbind⟩,hco,hgen,hk,hnd,hnp,hdl⟩:=g
 subst hsc
 have hX:=R.inK
 refine codeAny_call_function (by show A.depth<1000;have:=Am.depth;omega) (hX _ _ ho) hd hco hgen hbody (hcode _ hX) ?_
 refine hbind S.s cvs hX h1 h2 _ _ _ _ ?_
 rw[hclo]
 refine wpAny_newFunctionEnv_cells hk (λx hx=> ?_) λenv he s₁ hin=> ?_
 ·exact(A4w (List.mem_of_mem_take (List.of_mem_zip hx).1)).rec (λh=>.inl (A0q hnd (_,.local) h)) λh=>.inr ⟨A0q hnd (_,.cell) h,A9p (.inl h)⟩
 subst he
 refine⟨(Fa.nolim _ hX).keeps hin.toInCall.keep,codeAny_func ?_⟩
 change InCallC S.s (callEnvC fd S.s.heap.objs.size fa).locals (bindL (callEnvC fd S.s.heap.objs.size fa).kindOf _ λ_=>none) (callEnvC fd S.s.heap.objs.size fa).cells (bindC (callEnvC fd S.s.heap.objs.size fa).kindOf _ λ_=>none) s₁ at hin
 change wpAny (model pw cx.w) (A.deeper (callEnvC fd S.s.heap.objs.size fa)) (execs body (callEnvC fd S.s.heap.objs.size fa)) _ _ s₁
 have V:∀P:Pl,P.l=callEnvC fd S.s.heap.objs.size fa::l->EnvF P (callEnvC fd S.s.heap.objs.size fa) l (ceOf fd.scope):=λP=>envF_of hk hnd hgl hbu ⟨hin.apart,λx c hm=>B8 (hin.above x c hm)⟩
 have hloc:(callEnvC fd S.s.heap.objs.size fa).locals=S.s.heap.objs.size:=rfl
 have hframe:(callEnvC fd S.s.heap.objs.size fa).frame=some (callEnvC fd S.s.heap.objs.size fa).locals:=rfl
 have hkind:(callEnvC fd S.s.heap.objs.size fa).scope.kind=.function:=hk
 have own:∀x i,(ceOf fd.scope).var x=some i->(callEnvC fd S.s.heap.objs.size fa).kindOf x=some .local∨((callEnvC fd S.s.heap.objs.size fa).kindOf x=some .cell/\∃c,(callEnvC fd S.s.heap.objs.size fa).cells.lookup x=some c):=
  λx i hx=>(A4w (C1 (B9b hx))).rec (λh=>.inl (A0q hnd (x,.local) h)) λh=>.inr ⟨A0q hnd (x,.cell) h,B0w h⟩
 generalize henv:callEnvC fd S.s.heap.objs.size fa=env at hin V hloc hframe hkind own ⊢
 have ownNone:∀a,A3l env a->S.s.heap.get? a=none:=λa h=>h.elim (λh=>by rw[h,hloc];exact fresh) λh=>h.elim λx hx=>A2a (Ak (hloc▸hin.above x a (A2t hx)))
 obtain⟨h',tk,hs₁⟩:=hin.toInCall.same
 have hkeep:=hin.toInCall.keep
 subst hs₁
 have R1:Rel cx l {S with s:={S.s with heap:=h',toks:=tk}}:=R.keep hkeep
 have notOwn:∀{a o},S.F a=some o->¬A3l env a:=λe h=>A0a ((R.fNone (ownNone _ h)).symm.trans e)
 have sb:∀F'':GM,(∀a,¬A3l env a->F'' a=B8m env S.F h' a)->Sub S.F F'':=λF'' hst a o e=>(hst a (notOwn e)).trans ((if_neg (notOwn e)).trans e)
 refine(B6q hin.toInCall.ns).rec λoL esL epL hoL hdL hskL hmL=> ?_
 have fL:B8m env S.F h' env.locals=some oL:=(if_pos (.inl rfl)).trans hoL
 have R2:Rel cx (env::l) {S with F:=B8m env S.F h',s:={S.s with heap:=h',toks:=tk}}:=
  {R1 with
   cell:=λk c e=>(R1.cell k c e).rec λa o e q d=>⟨a,o,e,q,d⟩
   off:=λk a e=>⟨(R1.off k a e).1,(if_neg λh=>R.off' (ownNone a h) k e).trans (R1.off k a e).2⟩
   fram:=λa o e=>by
    by_cases hO:A3l env a
    ·exact⟨R.gNone (ownNone a hO),o,(if_pos hO).symm.trans e,.same⟩
    ·have e':S.F a=some o:=(if_neg hO).symm.trans e
     refine⟨(R1.fram a o e').1,(R1.fram a o e').2.rec λo' q k=>⟨o',q,?_⟩⟩
     cases k with
     |same=>exact .same
     |slots h sl=>exact .slots ((List.mem_filterMap.mp h).elim λe' h=>List.mem_filterMap.mpr ⟨e',.tail _ h.1,h.2⟩) sl
   envs:=λe he=>by
    cases he with
    |head=>exact⟨env.locals,oL,esL,epL,(by rw[hkind];exact λh=>nomatch h),hframe,fL,hdL⟩
    |tail _ he=>exact(R1.envs e he).up (sb _ λ_ _=>rfl)}
 refine Af (hw env _ ⟨V,R2,⟨_,_,⟨⟨oL,esL,epL,fL,hdL,hskL,hmL⟩,λx c hx=>(hin.cell x c hx).elim λoc h=>⟨oc,(if_pos (.inr ⟨x,hx⟩)).trans h.1,h.2⟩⟩,λi x w hx hiv=> ?_⟩,rfl,rfl,rfl,R.fNone (ownNone _ (.inl rfl)),hkeep,λe=>if_neg λh=>A0a ((ownNone _ h).symm.trans e),sb⟩) (λf s' h=>by cases f <;> exact h) λe s' h=>by subst henv;exact h
 have hal:(cvs++dcs.drop (cvs.length-lo)).length=np:=by rw[Ae,List.length_drop];omega
 have hlt:i<np:=hal▸(Bm.mp hiv).1
 have bb:=bind_at (kd:=env.kindOf) (m:=λ_=>none) (cm:=λ_=>none) (A9c hnd) (A7j hlt (B9b hx)) hiv
 exact(own x i hx).elim (λhk1=>.loc hk1 (bb.l hk1)) λhk1=>hk1.2.elim λc hc=>.cell hk1.1 c hc (bb.c (by rw[hk1.1];exact λh=>nomatch h))
end
structure OKn(cx:Cx)(n:Nat):Prop where
 co:∀(A:Around) (l:List Env) (S:St) (f:Nat) (vs:List V) (cvs:List Value) (K:Kv) (X:Kx),Amb A n l->Rel cx l S->VRs cx S.G S.σ vs cvs->PR (A2v (A0b n).1 f vs S.h) K X->
  wpAny (model pw cx.w) A (call (.ref (cx.fa f)) cvs) (Okx cx l S K) (Exx cx l S .none X) S.s
 cn:NewOK cx n (A0b n).2
inductive FnOK(cx:Cx)(f:Nat):Prop
 |mk (sc:Scope) (body:List PySem.Stmt) (dcs:List Value) (at_:FnAt cx (cx.fa f) sc body (npT.getD f 0) (npT.getD f 0- (dvT f).length) dcs) (nl:(A1c sc).length=nlT.getD f 0) (dv:VReps cx (KG cx) (dvT f) dcs)
  (so:∀(P:Pl) (env:Env) (outer:List Env),P.cx=cx->(∀m,m<=P.n->OKn cx m)->EnvF P env outer (ceOf sc)->SL P (ceOf sc) env body (bodies.getD f []))
theorem fin_po{f m:Nat}{r:Ro}{K:Kv}{X:Kx}(q:PR (fin f m r) K X):PO r (λx=>PR (fin f m x) K X):=by cases r <;> exact q
section
variable{cx:Cx}{A:Around}{n:Nat}{l:List Env}{S S3:St}{K:Kv}{X:Kx}{f m k:Nat}{v:Value}{a:AVal}
theorem finC_ok(R:Rel cx l S3)(n:NxM S S3)(hm:S.σ.length=m)(r:VRep cx S3.G a v)(q:PR (finC m (.p a) S3.h) K X):Okx cx l S K v S3.s:=by
 unfold finC at q
 cases c:(S3.h.take m).all (cloC m) with
 |false=>rw[c] at q;exact q.elim
 |true=>rw[c] at q;exact⟨{S3 with σ:=S3.σ.take m,h:=S3.h.take m},.p a,⟨n.f,n.g,B5d n.u hm⟩,R.cut m c,r,q⟩
theorem B8d(R:Rel cx l S3)(n:NxM S S3)(hm:S.σ.length=m)(r:VRep cx S3.G a v)(q:PR (finH f m (.p a) S3.h) K X):Okx cx l S K v S3.s:=by
 unfold finH at q
 cases c:Nat.beq f 39 with
 |false=>rw[c] at q;exact finC_ok R n hm r q
 |true=>rw[c] at q;exact⟨S3,.p a,n,R,r,q⟩
theorem frz_ok(R:Rel cx l S3)(n:NxM S S3)(hm:S.σ.length=m){ad:Addr}(e:S3.σ[k]?=some ad){xs:List AVal}(eh:S3.h[k]?=some (.lst xs))(hk:m<=k)(q:PR (finC m (.p (.lst xs)) S3.h) K X):Okx cx l S K (.ref ad) S3.s:=by
 unfold finC at q
 cases c:(S3.h.take m).all (cloC m) with
 |false=>rw[c] at q;exact q.elim
 |true=>
  rw[c] at q
  refine(R.cell k _ eh).rec λa' o ek' ho w=> ?_
  cases Option.some.inj (e.symm.trans ek')
  have hg:=(R.off k ad e).1
  revert ho
  refine w.rec λvs nn hl r ho=> ?_
  exact⟨{S3 with G:=S3.G.put ad (lstO vs nn),σ:=S3.σ.take m,h:=S3.h.take m},.p (.lst xs),⟨n.f,n.g.trans (GM.sub_put hg),B5d n.u hm⟩,
   Rel.gput (S:={S3 with σ:=S3.σ.take m,h:=S3.h.take m}) (R.cut m c) hg (R.off k ad e).2 (λj z=>Nat.lt_irrefl _ (Ap (R.inj j k ad (A3t z).2 e▸(A3t z).1) hk)) ho,
   ⟨vs,⟨_,_,nn,GM.put_self,rfl,rfl⟩,hl,VReps.of (r.mono (VRep.mono (GM.sub_put hg)))⟩,q⟩
theorem B1v{c:Cl}(R:Rel cx l S3)(e:S3.h=[c]){ad:Addr}(h:S3.σ[k]?=some ad):k=0:=by
 have l1:S3.σ.length=1:=by rw[R.len,e];rfl
 exact Nat.lt_one_iff.mp (l1▸(Bm.mp h).1)
theorem finR_ok(R:Rel cx l S3)(n:NxM S S3)(hm:S.σ.length=m)(r:B9p S3.σ k v)(q:PR (finR f m k S3.h) K X):Okx cx l S K v S3.s:=by
 unfold finR at q
 revert q
 refine r.rec λad e q=> ?_
 cases c:Nat.beq f 63 with
 |true=>
  rw[c] at q
  cases m with
  |succ m=>exact q.elim
  |zero=>
   cases eh:S3.h with
   |nil=>rw[eh] at q;exact q.elim
   |cons c1 r1=>cases r1 with
    |cons=>rw[eh] at q;exact q.elim
    |nil=>
     rw[eh] at q
     change PR (match cloC 0 c1 with | true=>.ok (.ref 0) [c1] | false=>.bad) K X at q
     cases b:cloC 0 c1 with
     |false=>rw[b] at q;exact q.elim
     |true=>
      rw[b] at q
      have k0:=B1v R eh e
      subst k0
      exact⟨S3,.ref 0,n,R,⟨ad,e⟩,eh.symm▸q⟩
 |false=>
  rw[c] at q
  change PR (match S3.h[k]? with | some c=>(match c with | .lst xs=>(match Nat.ble m k with | true=>finC m (.p (.lst xs)) S3.h | false=>.bad) | .lstR _=>.bad | .dct _ _=>.bad) | none=>.bad) K X at q
  cases eh:S3.h[k]? with
  |none=>rw[eh] at q;exact q.elim
  |some c1=>cases c1 with
   |lst xs=>
    rw[eh] at q
    change PR (match Nat.ble m k with | true=>finC m (.p (.lst xs)) S3.h | false=>.bad) K X at q
    cases b:Nat.ble m k with
    |false=>rw[b] at q;exact q.elim
    |true=>rw[b] at q;exact frz_ok R n hm e eh (nbl b) q
   |_=>rw[eh] at q;exact q.elim
theorem A3u.fdn{F:GM}{u:Value}{p:AVal}{e:Value}(sb:Sub F S.F)(x:A3u cx S u p e):A3u cx {S with F:=F} u p e:=x.rec λa vs b t=>⟨a,vs,b.fdn (Off.fd sb),t.fdn (Off.fd sb)⟩
theorem A8t{env:Env}{sc:Scope}{S1:St}{vs dv:List V}{vals:List Value}{np nl:Nat}(hnl:(A1c sc).length=nl)(hnp:np<=nl)(hal:(vs++dv).length=np)(hv:VRs cx S1.G S1.σ (vs++dv) vals)
  (L:∃m cm,FrmE S1.F env m cm/\∀i x v,(ceOf sc).var x=some i->vals[i]?=some v->Hold env m cm x v):A0i cx S1 env (ceOf sc) ((vs++dv).map some++List.replicate (nl- (vs++dv).length) none):=by
 obtain⟨m,cm,fr,hh⟩:=L
 refine⟨m,cm,λ_=> ?_,fr,λi w x hx hi=> ?_⟩
 ·rw[Ae,Aw,List.length_replicate,hal,Nat.add_sub_cancel' hnp];exact hnl.symm
 ·have hiv:(vs++dv)[i]?=some w:=by
   by_cases hlt:i<((vs++dv).map some).length
   ·rw[Bp hlt] at hi
    obtain⟨z,e,e2⟩:=List.at_map hi
    exact e.trans e2
   ·rw[List.getElem?_append_right (Ca hlt),List.getElem?_replicate] at hi
    split at hi <;> cases hi
  exact(hv.all.at hiv).elim λcw k=>⟨cw,k.2,hh i x cw hx k.1⟩
def RetR(cx:Cx)(l:List Env)(S:St)(K:Kv)(X:Kx)(r:Result)(s':Shared):Prop:=match r with
 |.ok (.ret v)=>Okx cx l S K v s'
 |.ok _=>False
 |.error e=>Exx cx l S .none X e s'
theorem VRs.app{G:GM}{σ:List Addr}{xs ys:List V}{vs us:List Value}(a:VRs cx G σ xs vs)(b:VRs cx G σ ys us):VRs cx G σ (xs++ys) (vs++us):=VRs.of (a.all.append b.all)
theorem A7b(Fa:Facts cx)(Ia:∀m,m<=n->OKn cx m)(g:FnOK cx f){vs:List V}{cvs:List Value}(Am:Amb A (n+1) l)(R:Rel cx l S)(hv:VRs cx S.G S.σ vs cvs)(q:PR ((A0b (n+1)).1 f vs S.h) K X){RR:Result->Shared->Prop}
  (hR:∀r s',RetR cx l S K X r s'->RR r s'):codeAny (model pw cx.w) A (.call (.ref (cx.fa f)) ⟨cvs,[]⟩) RR S.s:=by
 have I:=Ia n (Ac n)
 change PR (match arity f vs.length with | true=>fin f S.h.length (runL n (A0b n).1 (A0b n).2 (bodies.getD f []) (A1v f vs) S.h) | false=>.bad) K X at q
 cases ha:arity f vs.length with
 |false=>rw[ha] at q;exact q.elim
 |true=>
  rw[ha] at q
  have q:=fin_po q
  have ha:=Aq.mp (Aq.mp ha).2
  have h1:=nbl ha.1
  have h2:=nbl ha.2
  obtain⟨sc,body,dcs,at_,nl,dv,so⟩:=g
  have hlen:=hv.all.length
  refine A5a Fa at_ Am R (hlen.symm▸h1) (hlen.symm▸h2) λenv S1 E=> ?_
  have hdl:=dv.all.length
  have hargs:VRs cx S1.G S1.σ (vs++((dvT f).drop (vs.length- (npT.getD f 0- (dvT f).length))).map V.p) (cvs++dcs.drop (cvs.length- (npT.getD f 0- (dvT f).length))):=by
   rw[E.g,E.u,hlen]
   exact hv.app (VRs.ofP (VReps.of ((dv.all.drop _).mono λh=>VRep.mono R.kin h)))
  have hal:(vs++((dvT f).drop (vs.length- (npT.getD f 0- (dvT f).length))).map V.p).length=npT.getD f 0:=by
   have:=at_.dl
   rw[Ae,Aw,List.length_drop];omega
  have L:=A8t nl (nl▸at_.npl) hal hargs E.L
  have hsl:S.σ.length=S1.h.length:=R.len.trans (congrArg List.length E.h.symm)
  have hframe:env.frame=some env.locals:=(E.V ⟨cx,A.deeper env,n,env::l,_,_,Am.deep,I.co,I.cn⟩ rfl).frame
  have low:∀{S2:St},NxS env S1 S2->Rel cx (env::l) S2->Rel cx l {S2 with F:=S.F}:=λn2 R2=>R2.leave hframe E.fL (E.sb _ n2.f) R.envs
  have nx:∀{S2:St},NxS env S1 S2->NxM S {S2 with F:=S.F}:=λn2=>⟨rfl,E.g▸n2.g,E.u▸n2.u⟩
  refine Af (so ⟨cx,A.deeper env,n,env::l,_,_,Am.deep,I.co,I.cn⟩ env l rfl Ia (E.V _ rfl) S1 _ _ E.R L (E.h.symm▸q)) (λfl s₂ x=>hR _ _ ?_) λe s₂ x=> ?_
  ·exact x.rec (λS2 ρ n2 R2 L2 k=>B8d (S3:={S2 with F:=S.F}) (low n2 R2) (nx n2) hsl (a:=.none) rfl k) (λS2 ρ n2 R2 L2 k=>k.elim) λS2 v r n2 R2 hv k=>by
    cases r with
    |p a=>exact B8d (S3:={S2 with F:=S.F}) (low n2 R2) (nx n2) hsl hv k
    |ref j=>exact finR_ok (S3:={S2 with F:=S.F}) (low n2 R2) (nx n2) hsl hv k
    |_=>exact k.elim
  ·refine x.rec λS2 ρ p n2 R2 x L2 k=> ?_
   unfold leaving
   refine Ab (A5x (Am.deep (env:=env)).frames rfl hframe R2 x λh2 R3 x3=> ?_)
   refine A2u (fr:=none) R3 x3 λh3 R4 x4=>hR _ _ ?_
   have sb:=E.sb _ n2.f
   exact⟨{S2 with F:=S.F,s:={S2.s with heap:=h3}},p,⟨rfl,E.g▸n2.g⟩,R4.leave hframe E.fL sb R.envs,A3u.fdn (S:={S2 with s:={S2.s with heap:=h3}}) sb (x4.toX (.inl rfl)),k⟩
end
abbrev AtK{α:Type}(l:List α):List Nat->List α->Prop:=All2 (λ(k:Nat) (a:α)=>l[k]?=some a)
theorem gets_at{h:Ht}:∀{ks:List Nat} {cs:Ht},gets h ks=some cs->AtK h ks cs:=by
 intro ks
 induction ks with
 |nil=>intro cs e;cases e;exact .nil
 |cons k ks ih=>
  intro cs e
  change (match h[k]? with | some c=>(match gets h ks with | some r=>some (c::r) | none=>none) | none=>none)=some cs at e
  cases e1:h[k]? with
  |none=>rw[e1] at e;exact A0a e
  |some c=>
   rw[e1] at e
   change (match gets h ks with | some r=>some (c::r) | none=>none)=some cs at e
   cases e2:gets h ks with
   |none=>rw[e2] at e;exact A0a e
   |some r=>rw[e2] at e;cases e;exact .cons e1 (ih e2)
theorem AtK.same{α β:Type}{l:List α}{m:List β}(hl:l.length=m.length){ks:List Nat}{xs:List α}(h:AtK l ks xs):∃ys,AtK m ks ys:=h.rec ⟨[],.nil⟩ λ{k x ks xs} h _ ih=>ih.elim λys ih=>(A4i (l:=m) (k:=k) (hl▸(Bm.mp h).1)).elim λy hy=>⟨y::ys,.cons hy ih⟩
inductive Zip{α:Type}(l:List α)(ks:List Nat)(i:Nat)(x:α):Prop
 |mk (k:Nat) (e:ks[i]?=some k) (h:l[k]?=some x)
theorem AtK.at{α:Type}{l:List α}{ks:List Nat}{xs:List α}(h:AtK l ks xs):∀{i:Nat} {x:α},xs[i]?=some x->Zip l ks i x:=by
 induction h with
 |nil=>exact λe=>A0a e
 |cons h _ ih=>
  intro i x e
  cases i with
  |zero=>cases Option.some.inj e;exact⟨_,rfl,h⟩
  |succ i=>exact(ih e).rec λk a b=>⟨k,a,b⟩
theorem AtK.of{α:Type}{l:List α}{ks:List Nat}{xs:List α}(h:AtK l ks xs){i k:Nat}(e:ks[i]?=some k):∃x,xs[i]?=some x/\l[k]?=some x:=All2.at h e
theorem ndB_inj:∀{ks:List Nat},ndB ks=true->∀{i j k:Nat},ks[i]?=some k->ks[j]?=some k->i=j:=by
 intro ks
 induction ks with
 |nil=>exact λ_ _ _ _ e=>A0a e
 |cons a ks ih=>
  intro h i j k e1 e2
  change (match ks.all λj=> !Nat.beq j a with | true=>ndB ks | false=>false)=true at h
  cases q:ks.all λj=> !Nat.beq j a with
  |false=>rw[q] at h;cases h
  |true=>
   rw[q] at h
   have out:∀{i:Nat},ks[i]?=some a->False:=λe=>by
    have:=B3b q e
    rw[Nat.beq_refl] at this;cases this
   cases i with
   |zero=>cases j with
    |zero=>rfl
    |succ j=>cases Option.some.inj e1;exact(out e2).elim
   |succ i=>cases j with
    |zero=>cases Option.some.inj e2;exact(out e1).elim
    |succ j=>exact congrArg _ (ih h e1 e2)
theorem A5n{h cs:Ht}:puts h [] cs=h:=by cases cs <;> rfl
inductive PutsAt(h:Ht)(ks:List Nat)(cs:Ht)(k:Nat)(c:Cl):Prop
 |at_ (i:Nat) (e:ks[i]?=some k) (f:cs[i]?=some c)
 |old (e:∀i:Nat,ks[i]?≠some k) (f:h[k]?=some c)
theorem puts_at{k:Nat}{c:Cl}:∀{ks:List Nat} {h cs:Ht},ks.length<=cs.length->(puts h ks cs)[k]?=some c->PutsAt h ks cs k c:=by
 intro ks
 induction ks with
 |nil=>exact λ_ e=>.old (λ_ e=>A0a e) (by rw[A5n] at e;exact e)
 |cons k0 ks ih=>
  intro h cs hl e
  cases cs with
  |nil=>exact absurd hl (Nat.not_succ_le_zero _)
  |cons c0 cs=>
   cases ih (Nat.le_of_succ_le_succ hl) e with
   |at_ i e f=>exact .at_ (i+1) e f
   |old e f=>
    rw[List.getElem?_set] at f
    by_cases z:k0=k
    ·subst z
     rw[if_pos rfl] at f
     split at f
     ·cases f;exact .at_ 0 rfl rfl
     ·exact A0a f
    ·rw[if_neg z] at f
     exact .old (λi q=>by cases i with
      |zero=>exact z (Option.some.inj q)
      |succ i=>exact e i q) f
theorem puts_len:∀{ks:List Nat} {h cs:Ht},(puts h ks cs).length=h.length:=by
 intro ks
 induction ks with
 |nil=>exact congrArg List.length A5n
 |cons k ks ih=>
  intro h cs
  cases cs with
  |nil=>rfl
  |cons c cs=>exact ih.trans Cq
theorem B0e{ks:List Nat}{j:Nat}(h:sameK ks j=true):ks[j]?=some j:=by
 unfold sameK at h
 cases e:ks[j]? with
 |none=>rw[e] at h;cases h
 |some k=>rw[e] at h;rw[An h]
section
variable{cx:Cx}{l:List Env}{S S':St}{ks:List Nat}{σl:List Addr}{cs:Ht}
open Classical in
noncomputable def outF(S:St)(σl:List Addr):GM:=λa=>if(a∈S.σ/\a ∉ σl) then S.s.heap.get? a else S.F a
theorem A4r(R:Rel cx l S):Sub S.F (outF S σl):=λa o e=>(if_neg λh=>by
 obtain⟨k,hk⟩:=List.getElem?_of_mem h.1
 exact A0a ((R.off k a hk).2.symm.trans e)).trans e
theorem out_in{a:Addr}(h:a∈σl):outF S σl a=S.F a:=if_neg λh'=>h'.2 h
theorem A7s{a:Addr}(h:a∈S.σ)(n:a ∉ σl):outF S σl a=S.s.heap.get? a:=if_pos ⟨h,n⟩
theorem B2d(R:Rel cx l S)(hk:AtK S.σ ks σl)(hc:AtK S.h ks cs)(nd:ndB ks=true)(sc:cs.all (A2s ks)=true):Rel cx l {S with F:=outF S σl,σ:=σl,h:=cs}:=
 {R with
  cell:=λi c e=>(hc.at e).rec λk e1 e2=>by
   obtain⟨a,f1,f2⟩:=hk.of e1
   refine(R.cell k c e2).rec λa' o g q w=> ?_
   cases Option.some.inj (f2.symm.trans g)
   exact⟨a,o,f1,q,w.mv (λj b t z=>(hk.of (B0e t)).elim λy hy=>hy.1.trans (hy.2.symm.trans z)) (B3b sc e)⟩
  off:=λi a e=>(hk.at e).rec λk _ e2=>⟨(R.off k a e2).1,(out_in (C1 e)).trans (R.off k a e2).2⟩
  inj:=λi j a e1 e2=>(hk.at e1).rec λk z1 z2=>(hk.at e2).rec λk' y1 y2=>ndB_inj nd z1 (R.inj k' k a y2 z2▸y1)
  len:=(All2.length hk).trans (All2.length hc).symm
  fram:=λa o e=>by
   by_cases h:a∈S.σ/\a ∉ σl
   ·obtain⟨k,hk⟩:=List.getElem?_of_mem h.1
    exact⟨(R.off k a hk).1,o,(A7s h.1 h.2).symm.trans e,.same⟩
   ·exact R.fram a o ((if_neg h).symm.trans e)
  envs:=λenv he=>(R.envs env he).up (A4r R)}
theorem B1b(R:Rel cx l S)(hk:AtK S.σ ks σl)(R':Rel cx l S')(f:S'.F=outF S σl)(g:Sub S.G S'.G)(u:Up σl S'.σ)(sc:∀(i k:Nat) (c:Cl),ks[i]?=some k->S'.h[i]?=some c->A2s ks c=true):Rel cx l {S' with F:=S.F,σ:=S.σ,h:=puts S.h ks S'.h}:=by
 have hl:ks.length<=S'.h.length:=by
  rw[←R'.len,←All2.length hk]
  exact Ca λh=>by
   obtain⟨a,ha⟩:=A4i (l:=σl) (k:=S'.σ.length) h
   exact Nat.lt_irrefl _ (Bm.mp (u _ _ ha)).1
 have kept:∀{k:Nat} {a:Addr},S.σ[k]?=some a->a ∉ σl->∃o,S.s.heap.get? a=some o/\S'.F a=some o:=λe n=>by
  obtain⟨c,o,_,q,_⟩:=R.cellOf e
  exact⟨o,q,(congrFun f _).trans ((A7s (C1 e) n).trans q)⟩
 have sbF:Sub S.F S'.F:=f▸A4r R
 exact{R' with
  cell:=λk c e=>by
   cases puts_at hl e with
   |at_ i e1 e2=>
    obtain⟨a,f1,f2⟩:=hk.of e1
    refine(R'.cell i c e2).rec λa' o z q w=> ?_
    cases Option.some.inj ((u _ _ f1).symm.trans z)
    refine⟨a,o,f2,q,w.mv (λj b t z=> ?_) (sc i k c e1 e2)⟩
    obtain⟨y,y1,y2⟩:=hk.of (B0e t)
    exact y2.trans ((u _ _ y1).symm.trans z)
   |old e1 e2=>
    refine(R.cell k c e2).rec λa o z q w=> ?_
    have n:a ∉ σl:=λh=>by
     obtain⟨i,hi⟩:=List.getElem?_of_mem h
     exact(hk.at hi).rec λk' y1 y2=>e1 i (R.inj k' k a y2 z▸y1)
    obtain⟨o',q',fo⟩:=kept z n
    cases Option.some.inj (q.symm.trans q')
    exact⟨a,o,z,R'.exact fo (notFr R.envs (R.off k a z).2),w.mono g .rfl'⟩
  off:=λk a e=>⟨by
   by_cases h:a∈σl
   ·obtain⟨i,hi⟩:=List.getElem?_of_mem h
    exact(R'.off i a (u _ _ hi)).1
   ·exact(kept e h).elim λo z=>(R'.fram a o z.2).1,(R.off k a e).2⟩
  inj:=R.inj
  len:=R.len.trans puts_len.symm
  fram:=λa o e=>R'.fram a o (sbF a o e)
  envs:=R.envs}
theorem foot_ok{G:GM}{σ:List Addr}:∀{vs:List V} {j:Nat} {q:List V×List Nat},foot vs j=some q->∀{cvs:List Value} {pre σl:List Addr},VRs cx G σ vs cvs->pre.length=j->AtK σ q.2 σl->VRs cx G (pre++σl) q.1 cvs:=by
 intro vs
 induction vs with
 |nil=>intro j q e cvs pre σl h _ _;cases e;exact h
 |cons v r ih=>
  intro j q e cvs pre σl h hp hk
  cases cvs with
  |nil=>exact h.elim
  |cons cv cvs=>
   have snoc:∀{a:Addr} {t:List Addr},(pre++a::t)[j]?=some a:=λ{a t}=>by
    rw[List.getElem?_append_right (Aj hp),hp,Nat.sub_self];rfl
   cases v with
   |p a=>
    change (match foot r j with | some q=>some (.p a::q.1,q.2) | none=>none)=some q at e
    cases e1:foot r j with
    |none=>rw[e1] at e;exact A0a e
    |some q'=>rw[e1] at e;cases e;exact⟨h.1,ih e1 h.2 hp hk⟩
   |ref k=>
    change (match foot r (j+1) with | some q=>some (.ref j::q.1,k::q.2) | none=>none)=some q at e
    cases e1:foot r (j+1) with
    |none=>rw[e1] at e;exact A0a e
    |some q'=>
     rw[e1] at e;cases e
     cases hk with
     |@cons _ a _ t h1 h2=>
      have w:=ih e1 (pre:=pre++[a]) h.2 (by rw[Ae,hp];rfl) h2
      rw[Ai] at w
      exact⟨(h.1:B9p σ k cv).rec λb eb=>⟨b,snoc.trans (h1.symm.trans eb)⟩,w⟩
   |obj c k=>
    change (match Nat.beq c 18 with
     |true=>(match Nat.beq k 0&&Nat.beq j 0 with | true=>(match foot r 2 with | some q=>some (.obj 18 0::q.1,0::1::q.2) | none=>none) | false=>none)
     |false=>(match foot r (j+1) with | some q=>some (.obj c j::q.1,k::q.2) | none=>none))=some q at e
    cases b:Nat.beq c 18 with
    |true=>
     rw[b] at e
     cases An b
     change (match Nat.beq k 0&&Nat.beq j 0 with | true=>(match foot r 2 with | some q=>some (.obj 18 0::q.1,0::1::q.2) | none=>none) | false=>none)=some q at e
     cases b2:Nat.beq k 0&&Nat.beq j 0 with
     |false=>rw[b2] at e;exact A0a e
     |true=>
      rw[b2] at e
      have b2:=Aq.mp b2
      cases An b2.1
      cases An b2.2
      change (match foot r 2 with | some q=>some (.obj 18 0::q.1,0::1::q.2) | none=>none)=some q at e
      cases e1:foot r 2 with
      |none=>rw[e1] at e;exact A0a e
      |some q'=>
       rw[e1] at e;cases e
       cases hk with
       |@cons _ a _ t h1 h2=>cases h2 with
        |@cons _ a2 _ t h2 h3=>
         have w:=ih e1 (pre:=pre++[a,a2]) h.2 (by rw[Ae,hp];rfl) h3
         rw[Ai] at w
         exact⟨(h.1:B9t G σ (cx.ca 18) 0 cv).rec λx dx eb g=>⟨x,dx,snoc.trans (h1.symm.trans eb),g⟩,w⟩
    |false=>
     rw[b] at e
     change (match foot r (j+1) with | some q=>some (.obj c j::q.1,k::q.2) | none=>none)=some q at e
     cases e1:foot r (j+1) with
     |none=>rw[e1] at e;exact A0a e
     |some q'=>
      rw[e1] at e;cases e
      cases hk with
      |@cons _ a _ t h1 h2=>
       have w:=ih e1 (pre:=pre++[a]) h.2 (by rw[Ae,hp];rfl) h2
       rw[Ai] at w
       exact⟨(h.1:B9t G σ (cx.ca c) k cv).rec λx dx eb g=>⟨x,dx,snoc.trans (h1.symm.trans eb),g⟩,w⟩
   |tup xs=>exact A0a e
end
section
variable{cx:Cx}{A:Around}{n:Nat}{l:List Env}{S S':St}{K:Kv}{X:Kx}
theorem after_pr{h:Ht}{ks:List Nat}{r:Rs V}(q:PR (A3e h ks r) K X):PR r (λv cs=>PR (match cs.all (A2s ks) with | true=>backR h ks v cs | false=>.bad) K X) X:=by cases r <;> exact q
theorem B9f{f:Nat}{vs:List V}{h:Ht}(q:PR ((A0b (n+1)).1 f vs h) K X):f<83:=by
 change PR (match arity f vs.length with | true=>fin f h.length (runL n (A0b n).1 (A0b n).2 (bodies.getD f []) (A1v f vs) h) | false=>.bad) K X at q
 cases ha:arity f vs.length with
 |false=>rw[ha] at q;exact q.elim
 |true=>exact nbl (Aq.mp ha).1
theorem A3u.chg{F:GM}{σ:List Addr}{h:Ht}{u:Value}{p:AVal}{e:Value}(off:∀{b},Off S b->Off {S with F:=F,σ:=σ,h:=h} b)(x:A3u cx S u p e):A3u cx {S with F:=F,σ:=σ,h:=h} u p e:=
 x.rec λa vs b t=>⟨a,vs,b.rec λdx es n oe v w x o c i q gd fk ev r=>⟨dx,es,n,oe,v,w,off x,o,c,i,q,gd,fk,ev,r⟩,t.rec .no λfl m w=>.yes fl (m.rec λT oT ts h x d o q z=>⟨T,oT,ts,h,off x,d,o,q,z⟩) w⟩
theorem exc_back{e:Value}{s:Shared}(R:Rel cx l S){F:GM}(sb:Sub S.F F){S0:St}(hF:S0.F=F)(g:Sub S.G S0.G)(x:Exx cx l S0 .none X e s):Exx cx l S .none X e s:=
 x.rec λS1 p n R1 x k=>by
  have sb1:Sub S.F S1.F:=λa o e=>((congrFun n.f a).trans (congrFun hF a)).trans (sb a o e)
  exact⟨{S1 with F:=S.F,σ:=[],h:=[]},p,⟨rfl,g.trans n.g⟩,(R1.fdown (tk:=S1.s.toks) sb1 R.envs λ_ _ _ e=>e).bare,x.chg λo=>⟨o.g,A1p λx z=>A0a (o.f.symm.trans (sb1 _ x z)),λ_ e=>A0a e⟩,k⟩
theorem B1z(R:Rel cx l S)(R':Rel cx l S')(f:S'.F=outF S [])(g:Sub S.G S'.G){c:Cl}{ad:Addr}(e:S'.σ[0]?=some ad)(eh:S'.h=[c])(sc:A2s [] c=true):Rel cx l {S' with F:=S.F,σ:=S.σ++[ad],h:=S.h++[c]}:=by
 have RB:=B1b R .nil R' f g (λ_ _ e=>A0a e) (λ_ _ _ e=>A0a e)
 rw[A5n] at RB
 have off:=R'.off 0 ad e
 refine(R'.cell 0 c (eh▸rfl)).rec λa' o z q w=> ?_
 cases Option.some.inj (e.symm.trans z)
 have hF:outF S [] ad=none:=(congrFun f ad).symm.trans off.2
 exact RB.hput off.1 (A1p λx z=>A0a (hF.symm.trans (A4r R _ x z))) (λk z=>by
  obtain⟨c',o',_,q',_⟩:=R.cellOf z
  exact A0a (hF.symm.trans ((A7s (S:=S) (C1 z) Cn).trans q'))) q (w.mv (λj b t z=>A0a (B0e t)) sc)
theorem B4g(Fa:Facts cx)(I:∀m,m<=n->OKn cx m){f:Nat}(g:FnOK cx f){vs:List V}{cvs:List Value}(Am:Amb A (n+1) l)(R:Rel cx l S)(hv:VRs cx S.G S.σ vs cvs)(q:PR ((A0b (n+1)).1 f vs S.h) K X):wpAny (model pw cx.w) A (call (.ref (cx.fa f)) cvs) (Okx cx l S K) (Exx cx l S .none X) S.s:=
 wpAny_call (A7b Fa I g Am R hv q λr s' h=>by rcases r with e | (_ | _ | _ | v) <;> exact h)
theorem call_ok(Fa:Facts cx)(I:∀m,m<=n->OKn cx m)(good:∀f,f<83->FnOK cx f){f:Nat}{vs:List V}{cvs:List Value}(Am:Amb A (n+1) l)(R:Rel cx l S)(hv:VRs cx S.G S.σ vs cvs)(q:PR (A2v (A0b (n+1)).1 f vs S.h) K X):
  wpAny (model pw cx.w) A (call (.ref (cx.fa f)) cvs) (Okx cx l S K) (Exx cx l S .none X) S.s:=by
 unfold A2v at q
 cases e1:foot vs 0 with
 |none=>rw[e1] at q;exact q.elim
 |some uk=>
  rw[e1] at q
  obtain⟨us,ks⟩:=uk
  change PR (match gets S.h ks with | some cs=>(match ndB ks&&cs.all (A2s ks) with | true=>A3e S.h ks ((A0b (n+1)).1 f us cs) | false=>.bad) | none=>.bad) K X at q
  cases e2:gets S.h ks with
  |none=>rw[e2] at q;exact q.elim
  |some cs=>
   rw[e2] at q
   change PR (match ndB ks&&cs.all (A2s ks) with | true=>A3e S.h ks ((A0b (n+1)).1 f us cs) | false=>.bad) K X at q
   cases b:ndB ks&&cs.all (A2s ks) with
   |false=>rw[b] at q;exact q.elim
   |true=>
    rw[b] at q
    have b:=Aq.mp b
    have q:=after_pr q
    have hc:=gets_at e2
    obtain⟨σl,hk⟩:=hc.same R.len.symm
    have RL:=B2d R hk hc b.1 b.2
    refine Af (B4g (S:={S with F:=outF S σl,σ:=σl,h:=cs}) Fa I (good f (B9f q)) Am RL (foot_ok (pre:=[]) e1 hv rfl hk) q) (λv s x=> ?_) λe s x=>exc_back (S0:={S with F:=outF S σl,σ:=σl,h:=cs}) R (A4r R) rfl .rfl' x
    refine x.rec λS1 a n1 R1 r k=> ?_
    cases c:S1.h.all (A2s ks) with
    |false=>rw[c] at k;exact k.elim
    |true=>
     rw[c] at k
     cases a with
     |p a=>exact⟨{S1 with F:=S.F,σ:=S.σ,h:=puts S.h ks S1.h},.p a,⟨rfl,n1.g,.rfl'⟩,B1b R hk R1 n1.f n1.g n1.u (λi k c' _ e=>B3b c e),r,k⟩
     |ref j=>
      cases ks with
      |cons=>exact k.elim
      |nil=>
       cases hk
       cases eh:S1.h with
       |nil=>rw[eh] at k;exact k.elim
       |cons c1 r1=>cases r1 with
        |cons=>rw[eh] at k;exact k.elim
        |nil=>
         rw[eh] at k c
         revert r
         refine λr=>B9p.rec (λad e=> ?_) r
         have k0:=B1v R1 eh e
         subst k0
         exact⟨{S1 with F:=S.F,σ:=S.σ++[ad],h:=S.h++[c1]},.ref S.h.length,⟨rfl,n1.g,.snoc⟩,B1z R R1 n1.f n1.g e eh (Aq.mp c).1,⟨ad,R.len▸A4j⟩,k⟩
     |_=>exact k.elim
end
section
variable{cx:Cx}{A:Around}{n:Nat}{l:List Env}{S S':St}{K:Kv}{X:Kx}{c:Nat}
theorem Amb.under{C:Addr}{vals:List Value}(Am:Amb A (n+2) l):Amb (A.under (.builtin "type.__call__" ⟨.ref C::vals,[]⟩)) (n+1) l where
 frames:=by
  have:(A.under (.builtin "type.__call__" ⟨.ref C::vals,[]⟩)).frames=A.frames:=by
   unfold Around.under
   dsimp only
   rw[Am.frames];rfl
  rw[this];exact Am.frames
 handled:=Am.handled
 depth:=by
  show A.depth+1+2*(n+1)+4<=1000
  have:=Am.depth;omega
 units:=by
  show A.units+1+20*(n+1)+3000<=9900
  have:=Am.units;omega
noncomputable abbrev madeS(S:St)(C:Addr):St:={F:=outF S [],G:=S.G.put (S.s.heap.objs.size+1) (instObj C S.s.heap.objs.size),σ:=[S.s.heap.objs.size],h:=[.dct [] []],s:={S.s with heap:=(S.s.heap.push emptyDict).push (instObj C S.s.heap.objs.size)}}
theorem made_rel(R:Rel cx l S){C:Addr}:Rel cx l (madeS S C)/\S.G (S.s.heap.objs.size+1)=none:=by
 have R0:=B2d R (ks:=[]) (σl:=[]) (cs:=[]) .nil .nil rfl rfl
 have R1:=(R0.keep (tk:=S.s.toks) (h':=S.s.heap.push emptyDict) A0o).hput (c:=.dct [] []) (R0.gNone fresh) (R0.fNone fresh) (R0.off' fresh) (A1i (o:=emptyDict) rfl) ⟨[],0,Ag _,.nil,.nil⟩
 have hsz:(S.s.heap.push emptyDict).objs.size=S.s.heap.objs.size+1:=Heap.size_push ..
 have hx:(S.s.heap.push emptyDict).get? (S.s.heap.objs.size+1)=none:=A2a (Aj hsz)
 have ho:((S.s.heap.push emptyDict).push (instObj C S.s.heap.objs.size)).get? (S.s.heap.objs.size+1)=some (instObj C S.s.heap.objs.size):=by
  rw[←hsz];exact A1i rfl
 exact⟨(R1.keep (tk:=S.s.toks) (h':=(S.s.heap.push emptyDict).push (instObj C S.s.heap.objs.size)) A0o).gput (R1.gNone hx) (R1.fNone hx) (R1.off' hx) ho,R1.gNone hx⟩
theorem new_pr{h:Ht}{r:Rs V}(q:PR (A6l c h r) K X):PR r (λv cs=>PR (A6l c h (.ok v cs)) K X) F0M:=by cases r <;> exact q
theorem B1u{cs:Ht}{f:Cl->Rs V}(q:PR (oneC cs f) K X):∃c,cs=[c]/\PR (f c) K X:=by
 cases cs with
 |nil=>exact q.elim
 |cons c r=>cases r with
  |nil=>exact⟨c,rfl,q⟩
  |cons=>exact q.elim
theorem none_v{v:V}{G:GM}{σ:List Addr}{w:Value}(h:noneV v=true)(r:VR cx G σ v w):w=.none:=by
 cases v with
 |p a=>cases a with
  |none=>exact r.symm
  |_=>cases h
 |_=>cases h
theorem all_p{G:GM}{σ:List Addr}:∀{xs:List V} {ps:List AVal} {vs:List Value},allP xs=some ps->All2 (VR cx G σ) xs vs->All2 (VRep cx G) ps vs:=by
 intro xs
 induction xs with
 |nil=>intro ps vs e h;cases e;cases h;exact .nil
 |cons x xs ih=>
  intro ps vs e h
  cases h with
  |cons h hs=>cases x with
   |p a=>
    change (match allP xs with | some l=>some (a::l) | none=>none)=some ps at e
    cases q:allP xs with
    |none=>rw[q] at e;exact A0a e
    |some l=>rw[q] at e;cases e;exact .cons h (ih q hs)
   |_=>exact A0a e
theorem made_ok(R:Rel cx l S){D:Addr}{a:V}{w:Value}(R':Rel cx l S')(f:S'.F=outF S [])(g:Sub S.G S'.G)(e:S'.σ[0]?=some D)(gx:S'.G (S.s.heap.objs.size+1)=some (instObj (cx.ca c) D))(r:VR cx S'.G S'.σ a w)(q:PR (A6l c S.h (.ok a S'.h)) K X):
  w=.none/\Okx cx l S K (.ref (S.s.heap.objs.size+1)) S'.s:=by
 change PR (match noneV a with
  |true=>(match Nat.beq c 18 with
   |true=>(match S.h with | []=>.ok (.obj 18 0) S'.h | _::_=>.bad)
   |false=>(match Nat.beq c 3 with
    |true=>oneC S'.h λx=>(match A2s [] x with | true=>.ok (.obj 3 S.h.length) (S.h++[x]) | false=>.bad)
    |false=>oneC S'.h λx=>(match x with | .dct ns xs=>(match allP xs with | some ps=>.ok (.p (.inst c ns ps)) S.h | none=>.bad) | .lst _=>.bad | .lstR _=>.bad)))
  |false=>.bad) K X at q
 cases hn:noneV a with
 |false=>rw[hn] at q;exact q.elim
 |true=>
  rw[hn] at q
  refine⟨none_v hn r,?_⟩
  cases b:Nat.beq c 18 with
  |true=>
   rw[b] at q
   cases An b
   cases eh:S.h with
   |cons=>rw[eh] at q;exact q.elim
   |nil=>
    rw[eh] at q
    have hs:S.σ=[]:=List.eq_nil_of_length_eq_zero (R.len.trans (congrArg List.length eh))
    exact⟨{S' with F:=S.F},.obj 18 0,⟨rfl,g,λk a z=>A0a ((hs▸z:([]:List Addr)[k]?=some a))⟩,R'.fdown (tk:=S'.s.toks) (f▸A4r R) R.envs λ_ _ _ e=>e,⟨_,D,e,gx⟩,q⟩
  |false=>
   rw[b] at q
   cases b3:Nat.beq c 3 with
   |true=>
    rw[b3] at q
    cases An b3
    obtain⟨x,eh,q⟩:=B1u q
    cases sc:A2s [] x with
    |false=>rw[sc] at q;exact q.elim
    |true=>
     rw[sc] at q
     exact⟨{S' with F:=S.F,σ:=S.σ++[D],h:=S.h++[x]},.obj 3 S.h.length,⟨rfl,g,.snoc⟩,B1z R R' f g e eh sc,⟨_,D,R.len▸A4j,gx⟩,q⟩
   |false=>
    rw[b3] at q
    obtain⟨x,eh,q⟩:=B1u q
    cases x with
    |dct ns xs=>
     change PR (match allP xs with | some ps=>.ok (.p (.inst c ns ps)) S.h | none=>.bad) K X at q
     cases ea:allP xs with
     |none=>rw[ea] at q;exact q.elim
     |some ps=>
      rw[ea] at q
      have RB:=B1b R .nil R' f g (λ_ _ e=>A0a e) (λ_ _ _ e=>A0a e)
      rw[A5n] at RB
      have off:=R'.off 0 D e
      refine(R'.cell 0 _ (by rw[eh];rfl)).rec λa' o z hD w=> ?_
      cases Option.some.inj (e.symm.trans z)
      revert hD
      refine w.rec λes m hl fk rs hD=> ?_
      have hF:outF S [] D=none:=(congrFun f D).symm.trans off.2
      exact⟨{S' with F:=S.F,σ:=S.σ,h:=S.h,G:=S'.G.put D (dictOf es m)},.p (.inst c ns ps),⟨rfl,g.trans (GM.sub_put off.1),.rfl'⟩,
       RB.gput off.1 (A1p λx z=>A0a (hF.symm.trans (A4r R _ x z))) (λk z=>by
        obtain⟨c',o',_,q',_⟩:=R.cellOf z
        exact A0a (hF.symm.trans ((A7s (S:=S) (C1 z) Cn).trans q'))) hD,
       ⟨es,⟨_,D,m,GM.sub_put off.1 _ _ gx,GM.put_self,fk⟩,VReps.of ((all_p ea rs).mono (VRep.mono (GM.sub_put off.1)))⟩,q⟩
    |_=>exact q.elim
theorem new_none(Fa:Facts cx)(R:Rel cx l S)(hu:usable c=true)(hi:A5e c=none)(q:K (.p (.inst c [] [])) S.h){Y:Value->Shared->Prop}:wpAny (model pw cx.w) A (call (.ref (cx.ca c)) []) (Okx cx l S K) Y S.s:=by
 have gc:=Fa.cls c hu
 have hinit:findIn cx.K (.ref (cx.ca c)) "__init__" =some (some (.builtin "object.__init__")):=by
  have:=gc.init;rw[hi] at this;exact this
 have R1:=(R.keep (tk:=S.s.toks) (h':=S.s.heap.push emptyDict) A0o).gput (R.gNone fresh) (R.fNone fresh) (R.off' fresh) (A1i (o:=emptyDict) rfl)
 have hsz:(S.s.heap.push emptyDict).objs.size=S.s.heap.objs.size+1:=Heap.size_push ..
 have hx:(S.s.heap.push emptyDict).get? (S.s.heap.objs.size+1)=none:=A2a (Aj hsz)
 have hxx:((S.s.heap.push emptyDict).push (instObj (cx.ca c) S.s.heap.objs.size)).get? (S.s.heap.objs.size+1)=some (instObj (cx.ca c) S.s.heap.objs.size):=by
  rw[←hsz];exact A1i rfl
 have R2:=(R1.keep (tk:=S.s.toks) (h':=(S.s.heap.push emptyDict).push (instObj (cx.ca c) S.s.heap.objs.size)) A0o).gput (R1.gNone hx) (R1.fNone hx) (R1.off' hx) hxx
 have Y:=makes_of (M:=model pw cx.w) R.inK gc.made
 refine wpAny_call (make_core Y (looks_findIn R.inK hinit) (λself=>Looks.of_pure (oi_bind self)) (.inr ⟨rfl,rfl⟩) ?_)
 have t1:Looks (model pw cx.w) ((S.s.heap.push emptyDict).push (instObj (cx.ca c) S.s.heap.objs.size)) (typeOf (.ref (S.s.heap.objs.size+1))) (.ref (cx.ca c)):=(Looks.ld hxx).andThen .now
 have t2:Looks (model pw cx.w) ((S.s.heap.push emptyDict).push (instObj (cx.ca c) S.s.heap.objs.size)) (isInstance (.ref (S.s.heap.objs.size+1)) (.type "object")) true:=t1.andThen (Y.top.keeps λb o e=>A0o _ _ (A0o _ _ e))
 refine codeAny_call_builtin oi_plain entry_oi (@check_slot (model pw cx.w) _ _ _ "object.__init__" "object" "__init__" (.ref (S.s.heap.objs.size+1)) [] [] _ oi_kind oi_split t2 (oi_args (.ref (S.s.heap.objs.size+1))) ?_)
 rw[oi_run]
 have g1:=GM.sub_put (o:=emptyDict) (R.gNone fresh)
 have g2:=GM.sub_put (o:=instObj (cx.ca c) S.s.heap.objs.size) (R1.gNone hx)
 exact Ad (And.intro rfl ⟨{S with G:=(S.G.put S.s.heap.objs.size emptyDict).put (S.s.heap.objs.size+1) (instObj (cx.ca c) S.s.heap.objs.size),s:={S.s with heap:=(S.s.heap.push emptyDict).push (instObj (cx.ca c) S.s.heap.objs.size)}},.p (.inst c [] []),⟨rfl,g1.trans g2,.rfl'⟩,R2,
  ⟨[],⟨_,S.s.heap.objs.size,0,GM.put_self,g2 _ _ GM.put_self,.nil⟩,rfl⟩,q⟩)
inductive Makes1(cx:Cx)(N:Nat)(o:Ob):Prop
 |bad (h:o=λ_ _ _=>.bad)
 |ok (m:Nat) (e:N=m+2) (h:o=(A0b (m+1)).1) (I:∀k,k<=m->OKn cx k)
theorem new_ok(Fa:Facts cx)(good:∀f,f<83->FnOK cx f){N:Nat}{o:Ob}(M:Makes1 cx N o):NewOK cx N o:=λA l S c vs cvs K X Am R hv q=>by
 unfold newX at q
 cases hu:usable c with
 |false=>rw[hu] at q;exact q.elim
 |true=>
  rw[hu] at q
  change PR (match A5e c with | some f=>(match allP vs with | some ps=>A6l c S.h (o f (.obj c 0::ps.map V.p) [.dct [] []]) | none=>.bad) | none=>(match(generalizing:=false) vs with | []=>.ok (.p (.inst c [] [])) S.h | _::_=>.bad)) K X at q
  cases hi:A5e c with
  |none=>
   rw[hi] at q
   cases vs with
   |cons=>exact q.elim
   |nil=>cases hv;exact new_none Fa R hu hi q
  |some f=>
   rw[hi] at q
   change PR (match allP vs with | some ps=>A6l c S.h (o f (.obj c 0::ps.map V.p) [.dct [] []]) | none=>.bad) K X at q
   cases ea:allP vs with
   |none=>rw[ea] at q;exact q.elim
   |some ps=>
    rw[ea] at q
    have q:=new_pr q
    cases M with
    |bad h=>rw[h] at q;exact q.elim
    |ok m e h I=>
     subst e h
     have gc:=Fa.cls c hu
     have hf:=B9f q
     have hinit:findIn cx.K (.ref (cx.ca c)) "__init__" =some (some (.ref (cx.fa f))):=by
      have:=gc.init;rw[hi] at this;exact this
     have R2:=made_rel R (C:=cx.ca c)
     have hargs:VRs cx (madeS S (cx.ca c)).G (madeS S (cx.ca c)).σ (.obj c 0::ps.map V.p) (.ref (S.s.heap.objs.size+1)::cvs):=⟨⟨_,_,rfl,GM.put_self⟩,VRs.ofP ((vps_of ea hv).mono (GM.sub_put R2.2))⟩
     refine wpAny_call (make_core (makes_of R.inK gc.made) (looks_findIn R.inK hinit) (λself=>bind_fn R.inK self (Fa.fty f hf)) (.inl rfl) ?_)
     refine A7b (S:=madeS S (cx.ca c)) Fa I (good f hf) (Am.under (C:=cx.ca c) (vals:=cvs)) R2.1 hargs q λr s' h=> ?_
     rcases r with e | (_ | _ | _ | v)
     ·exact Exx.rec (λ_ _ _ _ _ k=>k.elim) h
     ·exact h.elim
     ·exact h.elim
     ·exact h.elim
     ·exact Okx.rec (λS1 a n1 R1 r k=>made_ok R R1 n1.f ((GM.sub_put R2.2).trans n1.g) (n1.u _ _ rfl) (n1.g _ _ GM.put_self) r k) h
theorem bad_call{f:Nat}{vs:List V}{h:Ht}(q:PR (A2v (A0b 0).1 f vs h) K X):False:=by
 unfold A2v at q
 cases e1:foot vs 0 with
 |none=>rw[e1] at q;exact q
 |some uk=>
  rw[e1] at q
  change PR (match gets h uk.2 with | some cs=>(match ndB uk.2&&cs.all (A2s uk.2) with | true=>.bad | false=>.bad) | none=>.bad) K X at q
  cases e2:gets h uk.2 with
  |none=>rw[e2] at q;exact q
  |some cs=>
   rw[e2] at q
   change PR (match ndB uk.2&&cs.all (A2s uk.2) with | true=>.bad | false=>.bad) K X at q
   cases b:ndB uk.2&&cs.all (A2s uk.2) <;> (rw[b] at q;exact q)
theorem ok_all(Fa:Facts cx)(good:∀f,f<83->FnOK cx f):∀n m,m<=n->OKn cx m:=by
 have zero:OKn cx 0:=⟨λA l S f vs cvs K X _ _ _ q=>(bad_call q).elim,new_ok Fa good (.bad rfl)⟩
 intro n
 induction n with
 |zero=>exact λm h=>Nat.le_zero.mp h▸zero
 |succ n ih=>
  intro m h
  by_cases e:m<=n
  ·exact ih m e
  ·cases Nat.le_antisymm h (Nat.lt_of_not_le e)
   refine⟨λA l S f vs cvs K X Am R hv q=>call_ok Fa ih good Am R hv q,new_ok Fa good ?_⟩
   cases n with
   |zero=>exact .bad rfl
   |succ m=>exact .ok m rfl rfl λk h=>ih k (Az h)
end
end Mine
end
section
open PySem PySem.W PySem.Calls PyProof.Rows Builtin Builtin.ObjectAttr
namespace Mine
noncomputable def A5l(K:Frag)(C:Addr):Bool:=match K.lookup C with
 |some ⟨_,_,.cls cd,sl⟩=> !cd.abstract&& !cd.hasDel&& (sl.toList[4]?).join==some (.builtin "Exception.__new__")&& !cd.mro.isEmpty&&cd.mro.contains (.ref C)&&cd.mro.contains (.type "Exception")&&cd.mro.contains (.type "BaseException")&&
   !cd.mro.contains (.type "AttributeError")&& !cd.mro.contains (.type "NameError")&&specialIn K (.ref C) "__call__" ==some (some (.builtin "type.__call__"))&&instIn K (.ref C) (.type "type")==some true
 |_=>false
structure XMakes(M:Model)(h:Heap)(C:Addr):Prop where
 obj:∃oc od cd sl,h.get? C=some ⟨oc,od,.cls cd,sl⟩/\cd.abstract=false/\cd.hasDel=false/\cd.mro.isEmpty=false
 made:Looks M h (Bind.madeBy (.ref C)) (some "Exception.__new__")
 base:Looks M h (Bind.staticBase (.ref C)) (.ref C)
 self:Looks M h (isSubtype (.ref C) (.ref C)) true
 exc:Looks M h (isSubtype (.ref C) (.type "Exception")) true
 bexc:Looks M h (isSubtype (.ref C) (.type "BaseException")) true
 noA:Looks M h (isSubtype (.ref C) (.type "AttributeError")) false
 noN:Looks M h (isSubtype (.ref C) (.type "NameError")) false
 call:Looks M h (specialOf (.ref C) "__call__") (some (.builtin "type.__call__"))
 typ:Looks M h (isInstance (.ref C) (.type "type")) true
theorem A2z{K:Frag}{M:Model}{h:Heap}(X:K.In h){C:Addr}(e:A5l K C=true):XMakes M h C:=by
 unfold A5l at e
 split at e
 ·rename_i oc od cd sl ho
  simp only[Bool.and_eq_true,Cg,beq_iff_eq] at e
  obtain⟨⟨⟨⟨⟨⟨⟨⟨⟨⟨e1,e2⟩,e3⟩,e4⟩,e5⟩,e6⟩,e7⟩,e8⟩,e9⟩,e10⟩,e11⟩:=e
  have hc:clsIn K C=some cd:=by unfold clsIn;rw[ho]
  have hm:Looks M h (mroOf (.ref C)) cd.mro:=(looks_clsIn X hc).andThen .now
  obtain⟨c,l,hl⟩:∃c l,cd.mro=c::l:=by cases q:cd.mro with | nil=>rw[q] at e4;cases e4 | cons c l=>exact⟨c,l,rfl⟩
  have made:Looks M h (Bind.madeBy (.ref C)) (some "Exception.__new__"):=by
   intro A Q E s k q
   unfold Bind.madeBy
   refine Ab (hm A _ E s k ?_)
   rw[hl,List.forIn_cons]
   refine Ab (Ab (Ab (Ab (wpAny_loadPart (k _ _ (X _ _ ho)) (Ad ?_)))))
   dsimp only
   rw[←Bx,e3]
   exact Ad (Ad (Ad q))
  have sub:∀{b:Value} {r:Bool},cd.mro.contains b=r->Looks M h (isSubtype (.ref C) b) r:=λ{b r} e=>looks_mroIn X (by unfold mroIn;rw[hc,Option.bind_some,if_neg (by rw[e4];decide),e])
  refine⟨⟨oc,od,cd,sl,X _ _ ho,e1,e2,e4⟩,made,?_,sub e5,sub e6,sub e7,sub e8,sub e9,looks_specialIn X e10,looks_instIn X e11⟩
  intro A Q E s k q
  unfold Bind.staticBase
  refine Ab (hm A _ E s k ?_)
  rw[hl,List.forIn_cons]
  exact Ab (Ab (Ab (made A _ E s k (Ad (Ad (Ad q))))))
 ·cases e
section
variable{prog:Program}{w:World}{A:Around}{C:Addr}{R:Result->Shared->Prop}{h:Heap}{g:Array GenState}{d:Drawn}{t:Nat}{os:OsState}
abbrev A3p(C T:Addr):Obj:={cls:=.ref C,data:=.fields #[.ref T,.none,.none,.none,.bool false,.none]}
abbrev A3x(vs:List Value):Obj:={cls:=.type "tuple",data:=.seq vs.toArray}
theorem xnew{rest:List Value}(Y:XMakes (model prog w) h C)(hrest:rest.length<=sizeLine)
  (hq:R (.ok (.ret (.ref (h.objs.size+1)))) ⟨(h.push (A3x rest)).push (A3p C h.objs.size),g,d,t,os⟩):
  codeAny (model prog w) A (.call (.builtin "Exception.__new__") ⟨.ref C::rest,[]⟩) R ⟨h,g,d,t,os⟩:=by
 obtain⟨⟨oc,od,cd,sl,hC,e1,e2,e4⟩,made,base,self,exc,bexc,noA,noN,call,typ⟩:=Y
 have F:=PySem.F.excBase_Exception
 refine codeAny_call_builtin_code (Code.quiet_builtin _ F.quiet) ?_
 simp only[checkBuiltinCall,F.newKind,F.newSplit,F.newRow]
 have here:∀id,Manifest.canonical "Exception.__new__" =Manifest.canonical id->Looks (model prog w) h (Bind.madeHere id (.ref C)) ():=λid e=>base.andThen (made.andThen (Looks.of_pure (by simp only[Option.map_some,e,bne_self_eq_false,Bool.false_eq_true,if_false])))
 have h1:=here "Exception.__new__" rfl
 have hstar:=F.noStar
 repeat (first | simp only[bne_self_eq_false,Bool.false_eq_true,if_false] | lk)
 have h2:Manifest.canonical "Exception.__new__" =Manifest.canonical "BaseException.__new__" :=F.canon
 have hb:=here "BaseException.__new__" h2
 have hends:=F.ends
 refine codeAny_builtinAt F.entry ?_
 unfold Builtin.«BaseException.__new__»
 refine PySem.wpAt_bind ?_
 show PySem.wpAt _ _ _ (stack >>= _) _ _ _
 refine PySem.wpAt_bind (PySem.wpAt_stack λp below=>PySem.wpAt_of_wpAny ?_)
 wp_walk
 refine PySem.wpAt_of_wpAny ?_
 rw[F.owner]
 repeat (first | lk | wp_step)
 refine wpAny_load (Heap.get?_push_of_some _ (Heap.get?_push_of_some _ hC)) ?_
 dsimp only
 rw[e2]
 refine Ad ?_
 simp only[Bool.false_eq_true,if_false]
 refine Ad ?_
 refine Ad ?_
 show R _ _
 rw[Heap.size_push]
 exact hq
end
section
variable{prog:Program}{w:World}{A:Around}{C:Addr}{R:Result->Shared->Prop}{h:Heap}{g:Array GenState}{d:Drawn}{t:Nat}{os:OsState}
theorem B3f{rest:List Value}{init:Value}(Y:XMakes (model prog w) h C)(hrest:rest.length<=sizeLine)(hi:Looks (model prog w) h (typeLookup (.ref C) "__init__") (some init))
  (hb:∀self,Looks (model prog w) h (bindSpecial init self) (init,[self]))
  (hq:codeAny (model prog w) (A.under (.builtin "type.__call__" ⟨.ref C::rest,[]⟩)) (.call init ⟨.ref (h.objs.size+1)::rest,[]⟩) (InitBack (h.objs.size+1) R) ⟨(h.push (A3x rest)).push (A3p C h.objs.size),g,d,t,os⟩):
  codeAny (model prog w) A (.call (.ref C) ⟨rest,[]⟩) R ⟨h,g,d,t,os⟩:=by
 have Y':=Y
 obtain⟨⟨oc,od,cd,sl,hC,e1,e2,e4⟩,made,base,self,exc,bexc,noA,noN,call,typ⟩:=Y
 refine codeAny_of_tree ?_
 show wpAny _ _ (callAny (.ref C) _) _ _ _
 refine nd_load hC ?_
 show wpAny _ _ (callAny.viaDunder (.ref C) _) _ _ _
 unfold callAny.viaDunder
 refine Ab (call.at ?_)
 dsimp only
 rw[tc_bind]
 refine Ab (Ad (Ab (Ad ?_)))
 refine Ad (a:=Fin.again (.call (.builtin "type.__call__") ⟨.ref C::rest,[]⟩)) (And.intro rfl ?_)
 refine codeAny_call_builtin_at (Code.quiet_builtin _ (by decide+kernel)) entry_typeCall (check_slot tc_kind tc_split typ (tc_args _ _ _) ?_)
 unfold Builtin.«type.__call__»
 have hm:Looks (model prog w) h (mroOf (.ref C)) cd.mro:=((Looks.ld (part:=none) hC).andThen .now).andThen .now
 repeat (first | simp only[e4,Bool.false_eq_true,if_false] | with_reducible refine wpAny_call ?_ | lk)
 refine xnew Y' hrest ?_
 have k:∀b o,h.get? b=some o->((h.push (A3x rest)).push (A3p C h.objs.size)).get? b=some o:=λb o e=>Heap.get?_push_of_some _ (Heap.get?_push_of_some _ e)
 have hx:((h.push (A3x rest)).push (A3p C h.objs.size)).get? (h.objs.size+1)=some (A3p C h.objs.size):=by heap_get
 have t1:Looks (model prog w) ((h.push (A3x rest)).push (A3p C h.objs.size)) (typeOf (.ref (h.objs.size+1))) (.ref C):=(Looks.ld hx).andThen .now
 have s1:=self.keeps k
 have i1:=hi.keeps k
 have b1:=(hb (.ref (h.objs.size+1))).keeps k
 unfold isInstance callSpecial? specialOf
 repeat (first | with_reducible refine wpAny_call ?_ | lk)
 refine codeAny_mono hq λr s' z=> ?_
 rcases r with e | (v | _ | _ | _) <;> first | exact z | exact z.elim | skip
 obtain⟨rfl,z⟩:=z
 exact Ad (Ad z)
end
noncomputable def A4s:List Value->Bool
 |[.type a,.type b,.type c]=>a== "Exception" &&b== "BaseException" &&c== "object"
 |.ref _::r=>A4s r
 |_=>false
theorem A6t(self:Value):∀{l:List Value},A4s l=true->refuseLoop self "__setattr__" l=pure ()
 |[.type a,.type b,.type c],e=>by
  simp only[A4s,Bool.and_eq_true,beq_iff_eq] at e
  obtain⟨⟨rfl,rfl⟩,rfl⟩:=e
  exact PySem.F.store_Exception.passes self
 |.ref c::r,e=>by rw[refuseLoop_ref];exact A6t self (by cases r <;> first | exact e | cases e)
theorem B8k:∀{l:List Value},A4s l=true->l.contains (.type "object")=true
 |[.type a,.type b,.type c],e=>by
  simp only[A4s,Bool.and_eq_true,beq_iff_eq] at e
  obtain⟨⟨rfl,rfl⟩,rfl⟩:=e
  simp
 |.ref c::r,e=>by rw[Br,B8k (l:=r) (by cases r <;> first | exact e | cases e),Bool.or_true]
noncomputable def B0r(K:Frag)(C:Addr):Bool:=(clsIn K C).any λcd=>A4s cd.mro
section
variable{prog:Program}{w:World}{A:Around}{E:Value->Shared->Prop}{s:Shared}{K:Frag}{x C:Addr}{R:Result->Shared->Prop}
theorem B6m{ox:Obj}{od:Option Obj}{name:Str}{tk:Tok}{v:Value}{r:Option Value}(X:K.In s.heap)(I:InstAt s.heap x ox C od)(hp:B0r K C=true)(ht:takerIn K C name=some r)
  (h:∀b,wpAny (model prog w) A.in1 (match r with | some a=>setByDescriptor a (.ref x) v | none=>storeInOwnDict (.ref x) (.ref C) (.str name tk) name v b)
   (λfin s'=>match fin with | .done f=>R (.ok f) s' | .again c'=>c'.quiet=true/\codeAny (model prog w) A c' R s') (λe s'=>R (.error e) s') s):
  codeAny (model prog w) A (.call (.builtin "object.__setattr__") ⟨[.ref x,.str name tk,v],[]⟩) R s:=by
 have SF:=PySem.F.store_object
 obtain⟨cd,hc,ho⟩:=any_some hp
 have ne:cd.mro.isEmpty=false:=by cases q:cd.mro with | nil=>rw[q] at ho;cases ho | cons _ _=>rfl
 have sub:Looks (model prog w) s.heap (isInstance (.ref x) (.type "object")) true:=I.type.andThen (looks_mroIn X (by unfold mroIn;rw[hc,Option.bind_some,if_neg (by rw[ne];decide),B8k ho]))
 refine codeAny_call_builtin SF.slot.plain SF.entry (@check_slot (model prog w) _ _ s "object.__setattr__" "object" "__setattr__" (.ref x) [.str name tk,v] [] _ SF.kind SF.split sub (SF.args (.ref x) (.str name tk) v) ?_)
 obtain⟨attr,ha,hr⟩:=Option.bind_eq_some_iff.mp ht
 have hm:Looks (model prog w) s.heap (mroOf (.ref C)) cd.mro:=(looks_clsIn X hc).andThen .now
 have L3:Looks (model prog w) s.heap (storeTaker? attr) r:=by
  cases attr with
  |none=>cases hr;exact .now
  |some a=>
   obtain⟨b,hb,rfl⟩:=Option.map_eq_some_iff.mp hr
   refine(looks_takesIn X hb).andThen ?_
   cases b <;> exact .now
 rw[osa_eq,refuse_eq]
 refine Ab (Ab (I.type.here (Ab (hm.here ?_))))
 rw[A6t _ ho]
 refine Ad (Ab (I.type.here (Ab ((looks_findIn X ha).here (Ab (L3.here ?_))))))
 exact h _
end
inductive ExcD(cx:Cx)(S:St)(x:Addr)(ox:Obj)(ns:List Nat)(xs:List AVal):Prop
 |no (h:ox.dict=none) (hn:ns=[]) (hx:xs=[])
 |yes (dx:Addr) (es:List DictEntry) (n:Nat) (h:ox.dict=some dx) (ne:dx≠x) (o:Off S dx) (g:S.s.heap.get? dx=some (dictOf es n)) (f:FKey ns es) (v:All2 (VRep cx S.G) xs (es.map (·.val)))
inductive ExcA(cx:Cx)(l:List Env)(S:St)(x:Addr)(vs:Array Value)(ns:List Nat)(xs:List AVal):Prop
 |mk (R:Rel cx l S) (off:Off S x) (ox:Obj) (h1:S.s.heap.get? x=some ox) (hc:ox.cls=.ref (cx.ca 2)) (hd:ox.data=.fields vs) (d:ExcD cx S x ox ns xs)
structure XGood(cx:Cx):Prop where
 cd:CdAt cx 2
 sa:findIn cx.K (.ref (cx.ca 2)) "__setattr__" =some (some (.builtin "object.__setattr__"))
 ga:findIn cx.K (.ref (cx.ca 2)) "__getattribute__" =some (some (.builtin "BaseException.__getattribute__"))
 gat:findIn cx.K (.ref (cx.ca 2)) "__getattr__" =some none
 eo:B0r cx.K (cx.ca 2)=true
 mks:A5l cx.K (cx.ca 2)=true
 kp:keepIn cx.K (.ref (cx.ca 2))=true
 ty:typeIn cx.K (.ref (cx.ca 2))=some (.type "type")
 f1:findIn cx.K (.ref (cx.ca 2)) (aNm 54)=some none
 f2:findIn cx.K (.ref (cx.ca 2)) (aNm 4)=some none
theorem put_objP{T:AVal->Value->Prop}{a:Nat}(ha:a<55){h:Int}{t:Tok}{x:AVal}{v:Value}(hx:T x v){ns:List Nat}{es:List DictEntry}{m:Nat}(f:FKey ns es){xs:List AVal}(hv:All2 T xs (es.map (·.val))):
  ∃es' m',Obj.putName (aNm a) h (.str (aNm a) t) v (dictOf es m)=dictOf es' m'/\B9r T (putN ns a) (putV ns xs a x) es.length es':=by
 unfold Obj.putName
 dsimp only
 generalize hp:nsPutIn _ _ _ _=p
 have k:=put_at hp ha (λ_=>rfl) rfl hx f hv
 cases p with
 |mk p b=>cases b with
  |false=>exact⟨p,m,rfl,k⟩
  |true=>exact⟨p,m+1,rfl,k⟩
section
variable{cx:Cx}{A:Around}{l:List Env}{S:St}
theorem A8w(Xg:XGood cx){a:Nat}{x:Addr}{y:AVal}{v:Value}{vs:Array Value}{ns:List Nat}{xs:List AVal}{Q:Unit->Shared->Prop}{X:Value->Shared->Prop}(R0:ExcA cx l S x vs ns xs)(ha:a<55)(hv:VRep cx S.G y v)
  (hf:findIn cx.K (.ref (cx.ca 2)) (aNm a)=some none) (hn:ns.length<=10)
  (hq:∀h' tk,ExcA cx l {S with s:={S.s with heap:=h',toks:=tk}} x vs (putN ns a) (putV ns xs a y)->Q () {S.s with heap:=h',toks:=tk}):wpAny (model pw cx.w) A (setAttr (.ref x) (aNm a) v) Q X S.s:=by
 revert hq
 refine R0.rec λR off ox h1 hcls hdat hdict hq=> ?_
 clear R0
 have hnc:notCls ox=true:=by unfold notCls;rw[hdat]
 refine Xg.cd.rec λcd hc hd'=> ?_
 have X0:=R.inK
 have fin:∀(S:St) (dx:Addr) (es:List DictEntry) (m:Nat) (ox:Obj),Rel cx l S->Off S x->VRep cx S.G y v->S.s.heap.get? x=some ox->ox.cls=.ref (cx.ca 2)->ox.data=.fields vs->ox.dict=some dx->dx≠x->Off S dx->S.s.heap.get? dx=some (dictOf es m)->FKey ns es->All2 (VRep cx S.G) xs (es.map (·.val))->
   (∀h' tk,ExcA cx l {S with s:={S.s with heap:=h',toks:=tk}} x vs (putN ns a) (putV ns xs a y)->Q () {S.s with heap:=h',toks:=tk})->
   wpAny (model pw cx.w) A.in1 (do nsSet dx (aNm a) v;lookBehind dx (some (.str (aNm a) 0));ret .none) (λfin s'=>fin=.done (.ret .none)/\Q () s') X S.s:=by
  intro S dx es m ox R off hv h1 hcls hdat hdi hne hg ho fk hs hq
  obtain⟨es',m',e,p⟩:=put_objP (h:=PyData.keyHash cx.w.params (aNm a)) (t:=S.s.toks) (m:=m) ha hv fk hs
  unfold nsSet
  refine Ab (Ab (Ab (wpAny_askSetting (Ad (Ab (wpAny_mkText (Ab (wpAny_loadPart ho ?_))))))))
  dsimp only
  rw[aRefKeyMayBeTheName_at,show es.toArray.any (·.refKey)=false from(Array.any_toList (p:=DictEntry.refKey)).symm.trans (A7a fk),Cj]
  refine wpAny_updatePart ho ?_
  have hu:=Heap.get?_update_self (Obj.putName (aNm a) (PyData.keyHash cx.w.params (aNm a)) (.str (aNm a) S.s.toks) v) ho (by rw[e];rfl)
  rw[e] at hu
  have hl:es'.length<=100:=Aa p.l (Aa (Ah (fk.length▸hn)) (by decide))
  refine Ab (wpAny_lookBehind hu (pastItsLine_dict (by rw[Bk];exact Aa hl (by decide))) ?_)
  exact Ad (And.intro rfl (hq _ _ ⟨R.off1 hg λb z hb hz=>A0u hb hz,off.s,ox,A0u hne.symm h1,hcls,hdat,.yes dx es' m' hdi hne hg.s hu p.f p.v⟩))
 have tail:∀(od:Option Obj),InstAt S.s.heap x ox (cx.ca 2) od->(∀b,wpAny (model pw cx.w) A.in1 (storeInOwnDict (.ref x) (.ref (cx.ca 2)) (.str (aNm a) S.s.toks) (aNm a) v b) (λfin s'=>fin=.done (.ret .none)/\Q () s') X {S.s with toks:=S.s.toks+1})->wpAny (model pw cx.w) A (setAttr (.ref x) (aNm a) v) Q X S.s:=λod I hh=>
  set_plain X0 I Xg.sa (B6m (s:={S.s with toks:=S.s.toks+1}) X0 I Xg.eo (r:=none) (by unfold takerIn;rw[hf];rfl) λb=>Af (hh b) (λfin s' z=>by obtain⟨rfl,z⟩:=z;exact z) λ_ _ z=>z)
 cases hdict with
 |no hdn en ex=>
  subst en ex
  refine tail none ⟨h1,hcls,hnc,by rw[hdn];trivial⟩ λb=> ?_
  obtain⟨oc,odi,oda,osl⟩:=ox
  dsimp only at hcls hdn hdat
  subst hcls hdn hdat
  refine Ab (Ad (Ab (Ab (wpAny_loadPart h1 (Ab ((looks_clsIn (M:=model pw cx.w) X0 hc).here (s:={S.s with toks:=S.s.toks+1}) ?_))))))
  rw[hd']
  have hxs:x≠S.s.heap.objs.size:=B8 (Heap.lt_size h1)
  show wpAny _ _ (alloc {cls:=.type "dict",data:=.dict #[]} >>= _) _ _ _
  have hx₁:=A0o (o:={cls:=.type "dict",data:=.dict #[]}) x _ h1
  refine Ab (wpAny_alloc' (Ab (wpAny_update' hx₁ (Ad ?_))))
  have hgd:=A0u (g:=λo=>{cls:=o.cls,dict:=some S.s.heap.objs.size,data:=o.data,slots:=o.slots}) hxs.symm (A1i (h:=S.s.heap) (o:={cls:=.type "dict",data:=.dict #[]}) rfl)
  have hxd:=Heap.get?_update_self (h:=S.s.heap.push {cls:=.type "dict",data:=.dict #[]}) (λo=>{cls:=o.cls,dict:=some S.s.heap.objs.size,data:=o.data,slots:=o.slots}) hx₁ rfl
  have R2:=(R.keep (tk:=S.s.toks+1) (h':=S.s.heap.push {cls:=.type "dict",data:=.dict #[]}) A0o).off1 (tk:=S.s.toks+1) off.s (h':=(S.s.heap.push {cls:=.type "dict",data:=.dict #[]}).update x λo=>{cls:=o.cls,dict:=some S.s.heap.objs.size,data:=o.data,slots:=o.slots}) λb z hb hz=>A0u hb hz
  show wpAny _ _ (storeInDict S.s.heap.objs.size (.str (aNm a) S.s.toks) (aNm a) v) _ _ _
  unfold storeInDict newKeyGuard
  refine Ab (Ad ?_)
  exact fin _ S.s.heap.objs.size [] 0 _ R2 off.s hv hxd rfl rfl rfl hxs.symm ⟨R.gNone fresh,R.fNone fresh,R.off' fresh⟩ hgd .nil .nil λh' tk z=>hq h' tk z
 |yes dx es m hdi hne hg ho fk hs=>
  obtain⟨oc,odi,oda,osl⟩:=ox
  dsimp only at hcls hdi hdat
  subst hcls hdi hdat
  refine tail (some (dictOf es m)) ⟨h1,rfl,hnc,ho⟩ λb=> ?_
  refine Ab (Ad (Ab (Ab (wpAny_loadPart h1 (Ab ((looks_clsIn (M:=model pw cx.w) X0 hc).here (s:={S.s with toks:=S.s.toks+1}) ?_))))))
  rw[hd']
  refine Ad (a:=some dx) ?_
  show wpAny _ _ (storeInDict dx (.str (aNm a) S.s.toks) (aNm a) v) _ _ _
  unfold storeInDict newKeyGuard
  refine Ab (Ad ?_)
  exact fin {S with s:={S.s with toks:=S.s.toks+1}} dx es m _ (R.toks _) off.s hv h1 rfl rfl rfl hne hg.s ho fk hs λh' tk z=>hq h' tk z
end
end Mine
end
section
open PySem PySem.W PySem.Calls PyProof.Rows Builtin Builtin.ObjectAttr PySem.Builtin
namespace Mine
theorem exc_cls(K:Frag):findCls K (.type "Exception") (.type "type") "__init__" =some (.val (.builtin "Exception.__init__")):=by kernel_rfl
theorem exc_typ:typeOf (.type "Exception")=pure (.type "type"):=by kernel_rfl
section
variable{cx:Cx}{A:Around}{n:Nat}{l:List Env}{S:St}{s:Shared}
theorem B3g(Xg:XGood cx){x T:Addr}{v:Value}{vs:Array Value}{ns:List Nat}{xs:List AVal}{Q:Value->Shared->Prop}{X:Value->Shared->Prop}(R0:ExcA cx l S x vs ns xs)(h0:vs[0]?=some (.ref T))
  (hq:∀h' T',ExcA cx l {S with s:={S.s with heap:=h'}} x (vs.setIfInBounds 0 (.ref T')) ns xs->Q .none {S.s with heap:=h'}):wpAny (model pw cx.w) A (call (.builtin "Exception.__init__") [.ref x,v]) Q X S.s:=by
 revert hq
 refine R0.rec λR off ox h1 hcls hdat hdict hq=> ?_
 clear R0
 have Fx:=PySem.F.excBase_Exception
 have Y:=A2z (M:=model pw cx.w) R.inK Xg.mks
 have hsz:0<vs.size:=(Array.getElem?_eq_some_iff.mp h0).1
 have t1:Looks (model pw cx.w) S.s.heap (typeOf (.ref x)) (.ref (cx.ca 2)):=hcls▸(Looks.ld h1).andThen .now
 have t2:Looks (model pw cx.w) S.s.heap (isInstance (.ref x) (.type "Exception")) true:=t1.andThen Y.exc
 have hx₁:=A0o (h:=S.s.heap) (o:={cls:=.type "tuple",data:=.seq #[v]}) x _ h1
 have hd₃:=Obj.data_mapFields hdat (·.setIfInBounds 0 (Value.ref S.s.heap.objs.size))
 have hT:=Heap.get?_update_self (Obj.mapFields (·.setIfInBounds 0 (Value.ref S.s.heap.objs.size))) hx₁ (Obj.isFreed_of_fields hd₃)
 have oth:∀b z,b≠x->S.s.heap.get? b=some z->((S.s.heap.push {cls:=.type "tuple",data:=.seq #[v]}).update x (Obj.mapFields (·.setIfInBounds 0 (Value.ref S.s.heap.objs.size)))).get? b=some z:=λb z hb hz=>A0u hb (A0o b z hz)
 have done:=hq _ S.s.heap.objs.size ⟨R.off1 (tk:=S.s.toks) off oth,off.s,_,hT,(A1e _ _).2.trans hcls,hd₃,by
  cases hdict with
  |no h a b=>exact .no ((A1e _ _).1.trans h) a b
  |yes dx es m hdi hne hg ho fk hs=>exact .yes dx es m ((A1e _ _).1.trans hdi) hne hg.s (oth _ _ hne ho) fk hs⟩
 clear hq
 refine wpAny_call (codeAny_call_builtin Fx.init.plain Fx.initEntry ?_)
 simp only[checkBuiltinCall,Fx.initKind,Fx.initSplit,Fx.initRow]
 refine Ab (t2.here ?_)
 simp only[Bool.not_true,Bool.false_eq_true,if_false]
 have hshort:=Fx.noStar
 clear hdict oth off R
 generalize S.s=s at*
 obtain⟨hp,g,d,tk,os⟩:=s
 obtain⟨⟨oc,od,cd,sl,hC,e1,e2,e4⟩,made,base,self,exc,bexc,noA,noN,call,typ⟩:=Y
 repeat (first | with_reducible refine wpAny_loadPart_at hC ?_ | wp_step | (rw[hcls]))
 rw[hdat]
 refine Ad ?_
 rw[h0]
 refine Ad ?_
 exact Ab (wpAny_setField hx₁ hdat hsz (wpAny_letGo (Ad done)))
theorem exc_meth{pl:Sem Bool}{Q:Value×List Value->Shared->Prop}{E:Value->Shared->Prop}(X:cx.K.In s.heap)(h:Q (.builtin "Exception.__init__",[]) {s with toks:=s.toks+1}):wpAny (model pw cx.w) A (getMethod (.type "Exception") "__init__" pl) Q E s:=by
 have hstub:opaqueClassAbove (.type "Exception")=pure none:=by
  unfold opaqueClassAbove;dsimp only;rw[show Manifest.isStub "Exception" =false from by decide+kernel];rfl
 have L0:Looks (model pw cx.w) s.heap (typeOf (.type "Exception")) (.type "type"):=Looks.of_pure exc_typ
 have hg:findIn cx.K (.type "type") "__getattribute__" =some (some (.builtin "type.__getattribute__")):=type_tga
 unfold getMethod specialOf
 refine Ab (Ab (L0.here ((looks_findIn X hg).here ?_)))
 dsimp only
 rw[if_pos canon_tga]
 refine Ab (Af (Q:=λv=>Q (v,[])) (E:=E) ?_ (λ_ _ z=>Ad z) λ_ _ z=>z)
 have LO:Looks (model pw cx.w) s.heap (opaqueClassAbove (.type "Exception")) none:=Looks.of_pure hstub
 refine cls_open X LO L0 hg (looks_hook X (r:=none) (by rfl)) (by show subIn cx.K _ _=_;rfl) (exc_cls _)
  (Ad (by show wpAny _ _ (handedOut _) _ _ _;rw[handedOut_of rfl];exact Ad h))
inductive TEAt(cx:Cx)(tf:Addr):Prop
 |mk (sc:Scope) (pe pa ps pw pc px p1 p2 p3 p4 p5 p6 p7 p8:Pos) (g:FnAt cx tf sc
  [.Expr (.Call (.Attribute (.Name "Exception" pe) "__init__" pa) [.Name "self" ps,.Name "what" pw] [] pc) px,.Assign [.Attribute (.Name "self" p1) (aNm 54) p2] (.Name "what" p3) p4,.Assign [.Attribute (.Name "self" p5) (aNm 4) p6] (.Name "at" p7) p8] 3 2 [.none])
  (hline:(pa.endLine==pc.line)=true) (v0:(ceOf sc).var "self" =some 0) (v1:(ceOf sc).var "what" =some 1) (v2:(ceOf sc).var "at" =some 2) (hg:(ceOf sc).globs.contains "Exception" =true) (gl:A5j cx "Exception" (.type "Exception"))
theorem ExcA.toks{x:Addr}{vs:Array Value}{ns:List Nat}{xs:List AVal}(h:ExcA cx l S x vs ns xs)(tk:Nat):ExcA cx l {S with s:={S.s with toks:=tk}} x vs ns xs:=
 h.rec λR off ox h1 hc hd d=>⟨R.toks tk,off.s,ox,h1,hc,hd,d.rec .no λdx es n h ne o g f v=>.yes dx es n h ne o.s g f v⟩
end
end Mine
end
section
open PySem PySem.W PySem.Calls PyProof.Rows
namespace Mine
section
variable{cx:Cx}{A:Around}{n:Nat}{l:List Env}{S:St}
theorem ExcA.enter{x:Addr}{vs:Array Value}{ns:List Nat}{xs:List AVal}{env:Env}{sc:Scope}{vals:List Value}{S1:St}(h:ExcA cx l S x vs ns xs)(E:Entered cx l S env sc vals S1):ExcA cx (env::l) S1 x vs ns xs:=
 h.rec λR off ox h1 hc hd d=>by
  have mv:∀{a:Addr} {o:Obj},S.s.heap.get? a=some o->Off S a->Off S1 a:=λe o=>⟨E.g▸o.g,(E.ff e).trans o.f,E.u▸o.x⟩
  refine⟨E.R,mv h1 off,ox,E.kp _ _ h1,hc,hd,d.rec .no λdx es n h ne o g f v=>.yes dx es n h ne (mv g o) (E.kp _ _ g) f (v.mono λ{x v} z=>E.g.symm▸z)⟩
theorem ExcA.leave{x:Addr}{vs:Array Value}{ns:List Nat}{xs:List AVal}{env:Env}{F:GM}{L:Addr}(h:ExcA cx (env::l) S x vs ns xs)(hf:env.frame=some L)(hL:F L=none)(sb:Sub F S.F)(he:Envs l F):ExcA cx l {S with F:=F} x vs ns xs:=
 h.rec λR off ox h1 hc hd d=>⟨R.leave hf hL sb he,Off.fd sb off,ox,h1,hc,hd,d.rec .no λdx es n h ne o g f v=>.yes dx es n h ne (Off.fd sb o) g f v⟩
theorem te_init(Fa:Facts cx)(I:OKn cx n)(Xg:XGood cx){tf:Addr}(Te:TEAt cx tf){x T:Addr}{vs:Array Value}{t:List Nat}{p:AVal}{cw cp:Value}(Am:Amb A (n+1) l)(R:ExcA cx l S x vs [] [])(h0:vs[0]?=some (.ref T))(hw:VRep cx S.G (.str t) cw)(hp:VRep cx S.G p cp){RR:Result->Shared->Prop}
  (hR:∀S' T',S'.F=S.F->S'.G=S.G->S'.σ=S.σ->S'.h=S.h->ExcA cx l S' x (vs.setIfInBounds 0 (.ref T')) [54,4] [.str t,p]->RR (.ok (.ret .none)) S'.s):codeAny (model pw cx.w) A (.call (.ref tf) ⟨[.ref x,cw,cp],[]⟩) RR S.s:=by
 obtain⟨sc,pe,pa,ps,pw',pc,px,p1,p2,p3,p4,p5,p6,p7,p8,g,hline,v0,v1,v2,hg,hgl⟩:=Te
 have hRel:Rel cx l S:=R.rec λR _ _ _ _ _ _=>R
 refine A5a (cvs:=[.ref x,cw,cp]) Fa g Am hRel (A9 2) (Ac 3) λenv S1 E=> ?_
 refine E.L.elim λm L=>L.elim λcm L=> ?_
 have V:=E.V ⟨cx,A.deeper env,n,env::l,_,_,Am.deep,I.co,I.cn⟩ rfl
 have V0:=V.V.kind
 have ld:∀{nm:Str} {i:Nat} {pos:Pos} {v:Value} {s:Shared} {Q:Value->Shared->Prop} {X:Value->Shared->Prop},(ceOf sc).var nm=some i->[Value.ref x,cw,cp][i]?=some v->(nm==("__debug__" :Str))=false->Rel cx (env::l) {S1 with s:=s}->Q v s->wpAny (model pw cx.w) (A.deeper env) (eval (.Name nm pos) env) Q X s:=
  λ{nm i pos v s Q X} hv hi hd R q=>wpAny_Name (A7y (S:={S1 with s:=s}) V0 L.1 R (L.2 _ _ _ hv hi) q) hd
 have R3:=R.enter E
 have rel:∀{S:St} {vs:Array Value} {ns:List Nat} {xs:List AVal},ExcA cx (env::l) S x vs ns xs->Rel cx (env::l) S:=λh=>h.rec λR _ _ _ _ _ _=>R
 refine wpAny_execs_cons (wpAny_Expr_any ?_ (by unfold interactive;rw[V.V.kind];rfl) (A3y rfl))
 refine A4d (P:=⟨cx,A.deeper env,n,env::l,_,_,Am.deep,I.co,I.cn⟩) (λ_=>rfl) (nbl rfl) hline rfl (A5d (P:=⟨cx,A.deeper env,n,env::l,_,_,Am.deep,I.co,I.cn⟩) V.V (by decide) hg E.R hgl ?_)
 refine exc_meth E.R.inK (call_b (P:=⟨cx,A.deeper env,n,env::l,_,_,Am.deep,I.co,I.cn⟩) rfl rfl ?_)
 refine Calls.spliced_cons (ld v0 rfl (by decide) (E.R.toks _) (Calls.spliced_cons (ld v1 rfl (by decide) (E.R.toks _) (Calls.spliced_nil ?_))))
 refine B3g (S:={S1 with s:={S1.s with toks:=S1.s.toks+1}}) Xg (R3.toks _) h0 λh' T' R4=> ?_
 refine wpAny_execs_cons (A6k (P:=⟨cx,A.deeper env,n,env::l,_,_,Am.deep,I.co,I.cn⟩) rfl rfl rfl (ld v1 rfl (by decide) (rel R4) ?_))
 rw[arm_assign_Attribute]
 refine Ab (wpAny_holding (ld v0 rfl (by decide) (rel R4) (Ab (wpAny_standAt (Ab (wpAny_holding ?_))))))
 refine A8w Xg (a:=54) R4 (by decide) (E.g.symm▸hw) Xg.f1 (Ag _) λh'' tk R5=>wpAny_release' ?_
 refine wpAny_execs_cons (A6k (P:=⟨cx,A.deeper env,n,env::l,_,_,Am.deep,I.co,I.cn⟩) rfl rfl rfl (ld v2 rfl (by decide) (rel R5) ?_))
 rw[arm_assign_Attribute]
 refine Ab (wpAny_holding (ld v0 rfl (by decide) (rel R5) (Ab (wpAny_standAt (Ab (wpAny_holding ?_))))))
 refine A8w Xg (a:=4) R5 (by decide) (E.g.symm▸hp) Xg.f2 (nbl rfl) λh3 tk3 R6=>wpAny_release' (wpAny_execs_nil ?_)
 exact hR {S1 with F:=S.F,s:={S1.s with heap:=h3,toks:=tk3}} T' rfl E.g E.u E.h (R6.leave V.frame E.fL (E.sb _ λ_ _=>rfl) hRel.envs)
end
end Mine
end
section
open PySem PySem.W PySem.Calls PyProof.Rows Builtin Builtin.ObjectAttr
namespace Mine
section
variable{cx:Cx}{A:Around}{s:Shared}{env:Env}
theorem B3m(Xg:XGood cx){x:Sem Value}{Q:Flow->Shared->Prop}{E:Value->Shared->Prop}(hh:A.handled=none)
  (h:wpAny (model pw cx.w) A x (λv s₁=>∃e vs oe,v=.ref e/\cx.K.In s₁.heap/\s₁.heap.get? e=some oe/\oe.cls=.ref (cx.ca 2)/\oe.data=.fields vs/\vs[1]?=some .none/\E (.ref e) s₁) E s):wpAny (model pw cx.w) A (raiseStmt env (some x) none) Q E s:=by
 unfold raiseStmt
 refine Ab (Af h (λv s₁ h₁=> ?_) λ_ _ x=>x)
 obtain⟨e,vs,oe,rfl,X,he,hc,hd,h1,hE⟩:=h₁
 have Y:=A2z (M:=(model pw cx.w)) X Xg.mks
 have t1:Looks (model pw cx.w) s₁.heap (typeOf (.ref e)) (.ref (cx.ca 2)):=hc▸(Looks.ld he).andThen .now
 have t2:Looks (model pw cx.w) s₁.heap (isInstance (.ref e) (.type "BaseException")) true:=t1.andThen Y.bexc
 have t3:Looks (model pw cx.w) s₁.heap (typeOf (.ref (cx.ca 2))) (.type "type"):=looks_typeIn X Xg.ty
 refine Ab (Ad (Ab (wpAny_holding ?_)))
 unfold excFromValue isExcClass
 have ty:∀{Q:Bool->Shared->Prop} {E:Value->Shared->Prop} {s:Shared},s.heap=s₁.heap->Q false s->wpAny (model pw cx.w) A (isType (.ref e)) Q E s:=λ{Q E s} hs q=>by
  unfold isType
  refine Ab (wpAny_loadPart (hs▸he) ?_)
  rw[hd]
  exact Ad q
 refine Ab (Ab (ty rfl (Ad ?_)))
 rw[if_neg (by decide)]
 refine Ab (t2.here ?_)
 rw[if_pos rfl]
 refine Ad ?_
 refine Ab ?_
 refine ty rfl ?_
 rw[if_neg (by decide)]
 unfold raisedInstance
 refine Ab (Ab (t1.here (Ab (t3.here ?_))))
 rw[if_pos (by decide)]
 refine Ad ?_
 unfold setFlight
 refine Ab (Ab (wpAny_field he hd h1 ?_))
 rw[if_neg (by decide)]
 refine Ad ?_
 exact wpAny_raiseNew_none hh hE
theorem args_bga(a b:Value):argsOk "BaseException.__getattribute__" ⟨[a,b],[]⟩:=by unfold argsOk;kernel_rfl
theorem B7u(Xg:XGood cx){x dx:Addr}{ox:Obj}{es:List DictEntry}{m:Nat}{v:Value}{a:Nat}{Q:Value->Shared->Prop}{X:Value->Shared->Prop}{e:Bool}(R:cx.K.In s.heap)(h1:s.heap.get? x=some ox)(hcls:ox.cls=.ref (cx.ca 2))(hnc:notCls ox=true)(hd:ox.dict=some dx)
  (h2:s.heap.get? dx=some (dictOf es m)) (hv:getL (aNm a) es=some (some v)) (hh:handedIn v=true) (hf:findIn cx.K (.ref (cx.ca 2)) (aNm a)=some none) (hq:∀tk,Q v {s with toks:=tk}):wpAny (model pw cx.w) A (getAttr (.ref x) (aNm a) e) Q X s:=by
 obtain⟨cd,hcd,hdd⟩:=Xg.cd
 have hhas:hasDictIn cx.K (cx.ca 2)=true:=by unfold hasDictIn;rw[hcd];exact hdd
 have I:InstAt s.heap x ox (cx.ca 2) (some (dictOf es m)):=⟨h1,hcls,hnc,by rw[hd];exact h2⟩
 have hfo:=findObj_own (name:=aNm a) (od:=dictOf es m) hhas hf rfl (by rw[lookIn_dict];exact hv)
 obtain⟨hp,g,d,t,os⟩:=s
 have L0:=I.type (M:=(model pw cx.w))
 have L1:=looks_findIn (M:=(model pw cx.w)) R Xg.ga
 have L2:=looks_findIn (M:=(model pw cx.w)) R Xg.gat
 have L3:=looks_find (M:=(model pw cx.w)) R I hfo
 have Y:=A2z (M:=(model pw cx.w)) R Xg.mks
 have FB:=PySem.F.attr_Exception
 have hsp:splitId "BaseException.__getattribute__" =some ("BaseException", "__getattribute__"):=by decide+kernel
 have hk:builtinKind "BaseException.__getattribute__" =some .slot:=by decide+kernel
 unfold getAttr getAttrBy
 refine Ab (wpAny_mkText (wpAny_holding (Ab (L0.at (Ab (L1.at ?_))))))
 dsimp only
 rw[if_neg (by rw[show(Value.builtin "BaseException.__getattribute__" ==Value.builtin "object.__getattribute__")=false from by decide+kernel,Cj];decide)]
 unfold getAttrByItsOwn hookBefore
 rw[if_pos (show onTheHeap (Value.ref (cx.ca 2))=true from rfl)]
 refine Ab (L2.at ?_)
 refine Ab (wpAny_attempt (wpAny_holding ?_))
 unfold callGetattribute
 rw[show(e&&onTheHeap (Value.builtin "BaseException.__getattribute__"))=false from Cj _,if_neg (by decide)]
 unfold boundAndCalled
 rw[FB.ga.bind]
 refine Ab (Ad ?_)
 show wpAny _ _ (call (.builtin "BaseException.__getattribute__") [.ref x,.str (aNm a) t]) _ _ _
 refine wpAny_call ?_
 refine codeAny_call_builtin FB.ga.plain F.entry_bexc_ga (@check_slot (model pw cx.w) _ _ _ "BaseException.__getattribute__" "BaseException" "__getattribute__" (.ref x) [.str (aNm a) t] [] _ hk hsp (L0.andThen Y.bexc) (args_bga _ _) ?_)
 unfold Builtin.«object.__getattribute__»
 refine Ab (Ad (Ab (Ad (Ab (L0.at (Ab (L3.at ?_)))))))
 refine Ad ?_
 show wpAny _ _ (handedOut v) _ _ _
 rw[handedOut_of hh]
 exact Ad (hq _)
theorem B3x(Xg:XGood cx){x:Addr}{ox:Obj}{Q:Bool->Shared->Prop}{X:Value->Shared->Prop}(R:cx.K.In s.heap)(h1:s.heap.get? x=some ox)(hcls:ox.cls=.ref (cx.ca 2))(hq:Q true s):wpAny (model pw cx.w) A (excMatches (.ref x) (.ref (cx.ca 2))) Q X s:=by
 have Y:=A2z (M:=(model pw cx.w)) R Xg.mks
 obtain⟨⟨oc,od,cd,sl,hC,e1,e2,e4⟩,made,base,self,exc,bexc,noA,noN,call,typ⟩:=Y
 have t1:Looks (model pw cx.w) s.heap (typeOf (.ref x)) (.ref (cx.ca 2)):=hcls▸(Looks.ld h1).andThen .now
 have t3:Looks (model pw cx.w) s.heap (typeOf (.ref (cx.ca 2))) (.type "type"):=looks_typeIn R Xg.ty
 have t4:Looks (model pw cx.w) s.heap (isInstance (.ref (cx.ca 2)) (.type "tuple")) false:=t3.andThen (Looks.of_pure tc_notTuple)
 unfold excMatches isExcClass
 refine Ab (t4.here ?_)
 rw[if_neg (by decide)]
 refine Ab (Ad ?_)
 simp only[List.forIn_cons,List.forIn_nil,bind_assoc,pure_bind]
 refine Ab ?_
 refine Ab (wpAny_loadPart hC ?_)
 refine Ad ?_
 dsimp only
 rw[if_pos rfl]
 refine Ab (bexc.here ?_)
 simp only[Bool.not_true,Bool.false_eq_true,if_false,pure_bind,bind_assoc]
 refine Ab (t1.here (Ab (self.here ?_)))
 simp only[if_true,pure_bind]
 exact Ad hq
end
end Mine
end
section
open PySem PySem.W PySem.Calls PyProof.Rows
namespace Mine
inductive B3d(w v:V)(h:Ht)(t:List Nat)(i:Int):Prop
 |mk (k k2:Nat) (ns ms:List Nat) (xs ys:List V) (ew:w=.obj 18 k) (ev:v=.p (.int i)) (e1:h[k]?=some (.dct ns xs)) (e2:lk ns xs 29=some (.obj 3 k2)) (e3:h[k2]?=some (.dct ms ys)) (e4:lk ms ys 3=some (.p (.str t)))
theorem fail_use{w v:V}{h:Ht}{t:List Nat}{i:Int}(e:B8i w v h=some (t,i)):B3d w v h t i:=by
 unfold B8i at e
 repeat (split at e <;> first | exact A0a e | skip)
 rename_i c k _ hc _ d1 ns xs e1 _ _ c2 k2 e2 _ hc2 _ d2 ms ys e3 _ _ a1 e4
 cases An hc
 cases An hc2
 cases a1 with
 |str t1=>cases v with
  |p b=>cases b with
   |int i1=>cases e;exact⟨k,k2,ns,ms,xs,ys,rfl,rfl,e1,e2,e3,e4⟩
   |_=>exact A0a e
  |_=>exact A0a e
 |_=>exact A0a e
inductive FLAt(cx:Cx)(ff:Addr):Prop
 |mk (sc:Scope) (q1 q2 q3 q4 q5 q6 q7 q8 q9 q10:Pos) (g:FnAt cx ff sc
  [.Return (some (.Call (.Name "RegexError" q1) [.Name "what" q2,.Call (.Name "position_of" q3) [.Attribute (.Attribute (.Name "self" q4) (aNm 29) q5) (aNm 3) q6,.Name "at" q7] [] q8] [] q9)) q10] 3 3 [])
  (v0:(ceOf sc).var "self" =some 0) (v1:(ceOf sc).var "what" =some 1) (v2:(ceOf sc).var "at" =some 2) (g1:(ceOf sc).globs.contains "RegexError" =true) (g2:(ceOf sc).globs.contains "position_of" =true)
inductive FnIs(cx:Cx)(c:Nat)(m:Str)(T:Addr->Prop):Prop
 |mk (f:Addr) (h:findIn cx.K (.ref (cx.ca c)) m=some (some (.ref f))) (ty:typeIn cx.K (.ref f)=some (.type "function")) (kp:keepIn cx.K (.ref f)=true) (t:T f)
structure RGood(cx:Cx):Prop where
 xg:XGood cx
 te:FnIs cx 2 "__init__" (TEAt cx)
 fl:FnIs cx 18 "failed" (FLAt cx)
def B1c:Prop:=∀(n:Nat) (t:List Nat) (i:Int),t.length+1<=big->(A0b (n+3)).1 2 [.p (.str t),.p (.int i)] []=.ok (.p (posV t i)) []
section
variable{cx:Cx}{A:Around}{n:Nat}{l:List Env}{S:St}
theorem pos_run(Po:B1c){t:List Nat}{i:Int}(ht:t.length+1<=big){h:Ht}{K:Kv}{X:Kx}(q:K (.p (posV t i)) h):PR (A2v (A0b (n+3)).1 2 [.p (.str t),.p (.int i)] h) K X:=by
 show PR (A3e h [] ((A0b (n+3)).1 2 [.p (.str t),.p (.int i)] [])) K X
 rw[Po n t i ht]
 show K _ (puts h [] [])
 exact q
theorem B8h(Po:B1c){w v:V}{m t:List Nat}{i:Int}{h:Ht}{r:Lo}(f:B3d w v h t i)(ht:t.length+1<=big):PR (A1l (A0b (n+3)).1 (A0b (n+3)).2 [.loc 1,.call 2 [.attr (.attr (.loc 0) 29) 3,.loc 2]] (some w::some (.p (.str m))::some v::r) h) (λvs h'=>vs=[.p (.str m),.p (posV t i)]/\h'=h) F0M:=by
 obtain⟨k,k2,ns,ms,xs,ys,rfl,rfl,e1,e2,e3,e4⟩:=f
 have g1:getO (.obj 18 k) 29 h=.v (.obj 3 k2) h:=by
  show(match h[k]? with | some d=>(match d with | .dct ns xs=>(match lk ns xs 29 with | some x=>(match(A0r 18).contains 29 with | true=>O.v x h | false=>.bad) | none=>.bad) | .lst _=>.bad | .lstR _=>.bad) | none=>.bad)=_
  rw[e1]
  show(match lk ns xs 29 with | some x=>O.v x h | none=>.bad)=_
  rw[e2]
 have g2:getO (.obj 3 k2) 3 h=.v (.p (.str t)) h:=by
  show(match h[k2]? with | some d=>(match d with | .dct ns xs=>(match lk ns xs 3 with | some x=>(match(A0r 3).contains 3 with | true=>O.v x h | false=>.bad) | none=>.bad) | .lst _=>.bad | .lstR _=>.bad) | none=>.bad)=_
  rw[e3]
  show(match lk ms ys 3 with | some x=>O.v x h | none=>.bad)=_
  rw[e4]
 have a1:runX (A0b (n+3)).1 (A0b (n+3)).2 (.attr (.attr (.loc 0) 29) 3) (some (.obj 18 k)::some (.p (.str m))::some (.p (.int i))::r) h=.ok (.p (.str t)) h:=by
  show((getO (.obj 18 k) 29 h).run.bind λv h1=>(getO v 3 h1).run)=_
  rw[g1]
  show(getO (.obj 3 k2) 3 h).run=_
  rw[g2];rfl
 show PR (((((runX (A0b (n+3)).1 (A0b (n+3)).2 (.attr (.attr (.loc 0) 29) 3) (some (.obj 18 k)::some (.p (.str m))::some (.p (.int i))::r) h).bind λa h1=>(Rs.ok [.p (.int i)] h1).bind λvs h2=>.ok (a::vs) h2).bind λvs h1=>A2v (A0b (n+3)).1 2 vs h1).bind λa h1=>(Rs.ok [] h1).bind λvs h2=>.ok (a::vs) h2).bind λvs h3=>.ok (.p (.str m)::vs) h3) _ _
 rw[a1]
 exact PR.join (PR.join (pos_run Po ht ⟨rfl,rfl⟩))
end
section
variable{cx:Cx}{A:Around}{n:Nat}{l:List Env}{S:St}
theorem lim2:2<=sizeLine:=by decide
theorem B0q(Fa:Facts cx)(Ia:∀m,m<=n+3->OKn cx m)(Rg:RGood cx)(Po:B1c){ff:Addr}(Fl:FLAt cx ff){w v:V}{m t:List Nat}{i:Int}{cvs:List Value}(Am:Amb A (n+4) l)(R:Rel cx l S)(hv:VRs cx S.G S.σ [w,.p (.str m),v] cvs)(f:B3d w v S.h t i)(ht:t.length+1<=big){RR:Result->Shared->Prop}
  (hR:∀S' x vs',NxE S S'->ExcA cx l S' x vs' [54,4] [.str m,posV t i]->vs'[1]?=some .none->RR (.ok (.ret (.ref x))) S'.s):codeAny (model pw cx.w) A (.call (.ref ff) ⟨cvs,[]⟩) RR S.s:=by
 obtain⟨sc,q1,q2,q3,q4,q5,q6,q7,q8,q9,q10,g,v0,v1,v2,g1,g2⟩:=Fl
 have hl:cvs.length=3:=hv.all.length
 refine A5a (dcs:=[]) Fa g Am R (hl▸Ac 3) (hl▸Ac 3) λenv S1 E=> ?_
 have I:=Ia (n+3) (Ac _)
 have V:=E.V ⟨cx,A.deeper env,n+3,env::l,_,_,Am.deep,I.co,I.cn⟩ rfl
 have hargs:VRs cx S1.G S1.σ ([w,.p (.str m),v]++[]) (cvs++[].drop (cvs.length-3)):=by
  rw[E.g,E.u];exact hv.app (by rw[List.drop_nil];rfl)
 have L:=A8t (np:=3) rfl g.npl rfl hargs E.L
 have hx2:SX ⟨cx,A.deeper env,n+3,env::l,_,_,Am.deep,I.co,I.cn⟩ (ceOf sc) env (.Call (.Name "position_of" q3) [.Attribute (.Attribute (.Name "self" q4) (aNm 29) q5) (aNm 3) q6,.Name "at" q7] [] q8) (.call 2 [.attr (.attr (.loc 0) 29) 3,.loc 2]):=
  B5o (k:=2) Fa V.V (by decide) g2 (by decide) rfl rfl (A2q rfl (B0a Fa rfl (B0a Fa rfl (B1j V.V (by decide) v0))) (A2q rfl (B1j V.V (by decide) v2) A7k))
 have hs:=A2q (es:=[.Call (.Name "position_of" q3) [.Attribute (.Attribute (.Name "self" q4) (aNm 29) q5) (aNm 3) q6,.Name "at" q7] [] q8]) rfl (B1j (P:=⟨cx,A.deeper env,n+3,env::l,_,_,Am.deep,I.co,I.cn⟩) (pos:=q2) V.V (by decide) v1) (A2q rfl hx2 A7k)
 refine wpAny_execs_cons (wpAny_Return_some ?_)
 refine A7u (P:=⟨cx,A.deeper env,n+3,env::l,_,_,Am.deep,I.co,I.cn⟩) (A5d (P:=⟨cx,A.deeper env,n+3,env::l,_,_,Am.deep,I.co,I.cn⟩) V.V (by decide) g1 E.R (Fa.gcls 2 (by decide)) ?_)
 refine B9g (P:=⟨cx,A.deeper env,n+3,env::l,_,_,Am.deep,I.co,I.cn⟩) rfl Rg.xg.kp (Af (hs S1 _ _ F0M q9 E.R L (B8h Po (E.h.symm▸f) ht)) (λvs _ x=>x.rec λS2 as n2 R2 rs q=>⟨R2.inK,?_⟩) λ_ s z=>z.rec λ_ _ _ _ _ k=>k.elim)
 obtain⟨rfl,_⟩:=q
 match vs,rs with
 |[cw,cp],rs=>
  refine Rg.te.rec λtf ti tt tk Te=> ?_
  have hsz:(S2.s.heap.push (A3x [cw,cp])).objs.size=S2.s.heap.objs.size+1:=Heap.size_push ..
  have hn:S2.s.heap.get? (S2.s.heap.objs.size+1)=none:=A2a (A9 _)
  have hx:((S2.s.heap.push (A3x [cw,cp])).push (A3p (cx.ca 2) S2.s.heap.objs.size)).get? (S2.s.heap.objs.size+1)=some (A3p (cx.ca 2) S2.s.heap.objs.size):=by
   rw[←hsz];exact A1i rfl
  have R4:Rel cx (env::l) {S2 with s:={S2.s with heap:=(S2.s.heap.push (A3x [cw,cp])).push (A3p (cx.ca 2) S2.s.heap.objs.size)}}:=R2.keep (tk:=S2.s.toks) λb o e=>A0o _ _ (A0o _ _ e)
  refine wpAny_call (B3f (A2z R2.inK Rg.xg.mks) lim2 (looks_findIn R2.inK ti) (λself=>bind_fn R2.inK self tt) ?_)
  refine te_init (n:=n+1) (S:={S2 with s:={S2.s with heap:=(S2.s.heap.push (A3x [cw,cp])).push (A3p (cx.ca 2) S2.s.heap.objs.size)}}) Fa (Ia (n+1) (Ao (n+1) 2)) Rg.xg Te (Amb.under (C:=cx.ca 2) (vals:=[cw,cp]) Am.deep)
   (.mk R4 ⟨R2.gNone hn,R2.fNone hn,R2.off' hn⟩ _ hx rfl rfl (.no rfl rfl rfl)) (vs:= #[.ref S2.s.heap.objs.size,.none,.none,.none,.bool false,.none]) rfl rs.1 rs.2.1 λS3 T' e1 e2 e3 e4 E5=> ?_
  refine⟨rfl,?_⟩
  dsimp only
  exact hR {S3 with F:=S.F} _ _ ⟨rfl,(E.g▸n2.g).trans (e2▸ .rfl')⟩ (E5.leave V.frame E.fL (E.sb _ λa _=>(congrFun e1 a).trans (congrFun n2.f a)) R.envs) rfl
end
theorem B4j{k:Nat}(hk:k<55):aNm k≠("failed" :Str):=λe=>by
 have h:((List.range 55).all λa=> !(aNm a==("failed" :Str)))=true:=by decide+kernel
 have:=Av.mp h k (B3.mpr hk)
 rw[e,beq_self_eq_true] at this;cases this
theorem B0o{ns:List Nat}{es:List DictEntry}(f:FKey ns es):getL "failed" es=some none:=by
 induction f with
 |nil=>rfl
 |@cons n e ns es f _ ih=>
  obtain⟨t,hn,q⟩:=f
  have hs:e.key.isStr "failed" =false:=by rw[q];exact beq_eq_false_iff_ne.mpr (B4j hn)
  have hr:e.refKey=false:=by rw[DictEntry.refKey,q]
  unfold getL at ih ⊢
  rw[List.find?_cons,hs,List.any_cons,hr]
  exact ih
inductive CanAt(w:V)(h:Ht):Prop
 |mk (k:Nat) (ns:List Nat) (xs:List V) (e:w=.obj 18 k) (f:h[k]?=some (.dct ns xs))
theorem can_use{w:V}{h:Ht}(e:canF w h=true):CanAt w h:=by
 cases w with
 |obj c k=>
  change (match Nat.beq c 18 with | true=>(match h[k]? with | some d=>(match d with | .dct _ _=>true | .lst _=>false | .lstR _=>false) | none=>false) | false=>false)=true at e
  cases b:Nat.beq c 18 with
  |false=>rw[b] at e;cases e
  |true=>
   rw[b] at e
   cases An b
   change (match h[k]? with | some d=>(match d with | .dct _ _=>true | .lst _=>false | .lstR _=>false) | none=>false)=true at e
   cases f:h[k]? with
   |none=>rw[f] at e;cases e
   |some d=>cases d with
    |dct ns xs=>exact⟨k,ns,xs,rfl,f⟩
    |_=>rw[f] at e;cases e
 |_=>cases e
inductive RaiseAt(n:Nat)(w m v:V)(ρ:Lo)(h:Ht)(K:Ko):Prop
 |mk (s t:List Nat) (i:Int) (em:m=.p (.str s)) (f:B3d w v h t i) (hn:4<=n) (ht:t.length+1<=big) (k:K (.exc ρ (posV t i)))
theorem B6h{n:Nat}{w m v:V}{ρ:Lo}{h:Ht}{K:Ko}(q:PO (A6v n w m v ρ h) K):RaiseAt n w m v ρ h K:=by
 unfold A6v at q
 cases b:isSV m with
 |false=>rw[b] at q;exact q.elim
 |true=>
  rw[b] at q
  cases e:B8i w v h with
  |none=>rw[e] at q;exact q.elim
  |some r=>
   rw[e] at q
   change PO (match Nat.ble 4 n&&Nat.ble (r.1.length+1) big with | true=>.exc ρ (posV r.1 r.2) | false=>.bad) K at q
   cases c:Nat.ble 4 n&&Nat.ble (r.1.length+1) big with
   |false=>rw[c] at q;exact q.elim
   |true=>
    rw[c] at q
    have c:=Aq.mp c
    cases m with
    |p a=>cases a with
     |str s=>exact⟨s,r.1,r.2,rfl,fail_use e,nbl c.1,nbl c.2,q⟩
     |_=>cases b
    |_=>cases b
inductive Two2(R:AVal->Value->Prop)(x y:AVal)(vs:List Value):Prop
 |mk (v w:Value) (e:vs=[v,w]) (h:R y w)
theorem two_vals{R:AVal->Value->Prop}{x y:AVal}{vs:List Value}(h:All2 R [x,y] vs):Two2 R x y vs:=by
 cases h with
 |cons _ h=>cases h with
  |cons h t=>cases t;exact⟨_,_,rfl,h⟩
section
variable{P:Pl}{E:CE}{env:Env}{outer:List Env}
theorem ss_raise(Fa:Facts P.cx)(Ia:∀m,m<=P.n->OKn P.cx m)(Rg:RGood P.cx)(Po:B1c){o a b:PySem.Expr}{p1 p2 p3:Pos}{xo xa xb:Ex}(hb:∀w:Sem Value,attributeBase o "failed" env w=w)(hline:(p1.endLine==p2.line)=true)(hns:Plain [a,b])(ho:SX P E env o xo)(h:SXs P E env [a,b] [xa,xb]):
  SS P E env (.Raise (some (.Call (.Attribute o "failed" p1) [a,b] [] p2)) none p3) (.raise xo xa xb):=λS ρ K R L q=>by
 rw[arm_exec_Raise]
 refine Ab (wpAny_standAt (B3m Rg.xg P.am.handled (Ab (A4d hb (nbl rfl) hline hns (exS ho R .rfl' L (PO.st q) λS1 w cw n1 m1 R1 L1 r q=> ?_)))))
 unfold canO at q
 cases e:canF w S1.h with
 |false=>rw[e] at q;exact q.elim
 |true=>
  rw[e] at q
  obtain⟨k,ns,xs,rfl,ek⟩:=can_use e
  refine B9t.rec (λx dx ed gx=> ?_) r
  refine(R1.cell k _ ek).rec λa' oo z hoo wc=> ?_
  cases Option.some.inj (ed.symm.trans z)
  revert hoo
  refine wc.rec λes mm hl fk rs hoo=> ?_
  refine Rg.fl.rec λff f1 f2 f3 Fl=> ?_
  have gc:=Fa.cls 18 (by decide)
  have hsh:shadowIn (some (dictOf es mm)) "failed" =some false:=by
   unfold shadowIn
   dsimp only
   rw[lookIn_dict,B0o fk];rfl
  refine method_fn R1.inK (⟨R1.stay _ _ gx,rfl,rfl,hoo⟩:InstAt S1.s.heap x (instObj (P.cx.ca 18) dx) (P.cx.ca 18) (some (dictOf es mm))) gc.ga gc.gat f1 f2 hsh ?_
  have hq:PR (A1l P.o P.oi [xa,xb] ρ S1.h) (λvs h=>∃m v,vs=[m,v]/\PO (A6v P.n (.obj 18 k) m v ρ h) K) (λp=>K (.exc ρ p)):=PR.join (PR.imp (λq=>PR.join (PR.join (PR.imp (λq=>⟨_,_,rfl,q⟩) (PO.st q)))) (PO.st q))
  refine B9g hns f3 (evS n1 L1 (Af (h S1 ρ _ _ p2 R1 L1 hq) (λvs _ y=>y.rec λS2 as n2 R2 rs q=>⟨R2.inK,?_⟩) λ_ _ z=>z))
  obtain⟨m,v,rfl,q⟩:=q
  obtain⟨s,t,i,rfl,f,hn,ht,hk⟩:=B6h q
  obtain⟨N,eN⟩:∃N,P.n=N+4:=⟨P.n-4,(Cw hn).symm⟩
  have hv2:VRs P.cx S2.G S2.σ [.obj 18 k,.p (.str s),v] (.ref x::vs):=⟨⟨x,dx,n2.u _ _ ed,n2.g _ _ gx⟩,rs⟩
  refine wpAny_call (B0q Fa (λm h=>Ia m (Aa h (eN▸A9 _))) Rg Po Fl (eN▸P.am) R2 hv2 f ht λS3 y vs' n3 E5 hvs=> ?_)
  dsimp only
  refine Ab (wpAny_standAt (Ad ?_))
  obtain⟨R5,off,ox,h1,hc,hd,d⟩:=E5
  cases d with
  |no _ hn _=>cases hn
  |yes dy es' m' hdi hne o2 hdd fky v2=>
   obtain⟨v1,v2',ev,r2⟩:=two_vals v2
   have R6:=R5.gput o2.g o2.f o2.x hdd
   exact⟨y,vs',ox,rfl,R5.inK,h1,hc,hd,hvs,.mk {S3 with G:=S3.G.put dy (dictOf es' m')} ρ (posV t i) ⟨λa h=>(congrFun n3.f a).trans ((congrFun n2.f a).trans (n1.f a h)),n1.g.trans (n2.g.trans (n3.g.trans (GM.sub_put o2.g)))⟩ R6
    ⟨y,vs',⟨dy,es',m',ox,v1,v2',⟨(GM.put_ne hne.symm).trans off.g,off.f,off.x⟩,h1,hc,hdi,hd,GM.put_self,fky,ev,VRep.mono (GM.sub_put o2.g) r2⟩,.no hvs⟩ ((L1.nx n2).pure ⟨n3.f,n3.g.trans (GM.sub_put o2.g)⟩) hk⟩
end
section
variable{P:Pl}{E:CE}{env:Env}{outer:List Env}{S:St}{ρ:Lo}{X:Value->Shared->Prop}
inductive TurnAt(P:Pl)(env:Env)(S:St)(h':Heap)(tk:Nat)(m cm:Str->Option Value):Prop
 |mk (o:Obj) (n:NxS env S {S with F:=S.F.put env.locals o,s:={S.s with heap:=h',toks:=tk}}) (R:Rel P.cx P.l {S with F:=S.F.put env.locals o,s:={S.s with heap:=h',toks:=tk}}) (f:FrmE (S.F.put env.locals o) env m cm)
theorem B2e(V:EnvF P env outer E){m cm m':Str->Option Value}(R:Rel P.cx P.l S)(f:FrmE S.F env m cm){h':Heap}{tk:Nat}(hn:h'.Ns env.locals m')(hs:Heap.SameBut env.locals S.s.heap h'):TurnAt P env S h' tk m' cm:=
 (B6q hn).rec λo' es ep ho' hd' hk' hm'=>by
  obtain⟨oL,hL1⟩:=f.loc.has
  have he:Envs P.l (S.F.put env.locals o'):=λe he=>(R.envs e he).rec λL o es1 ep1 k a b c=>by
   by_cases hL:L=env.locals
   ·exact⟨L,o',es,ep,k,a,by rw[hL];exact GM.put_self,hd'⟩
   ·exact⟨L,o,es1,ep1,k,a,(GM.put_ne hL).trans b,c⟩
  exact⟨o',⟨λa ha=>GM.put_ne λe=>ha (.inl e),.rfl',.rfl'⟩,R.fupd' hL1 he ho' (A5f hs),⟨⟨o',es,ep,GM.put_self,hd',hk',hm'⟩,λy c e=>(f.cell y c e).rec λo a b=>⟨o,(GM.put_ne (V.A.off y c (A2t e)).symm).trans a,b⟩⟩⟩
theorem B6z{S':St}{m cm:Str->Option Value}{x:Str}{v:Option Value}{ρ':Lo}(hh:∀i w y,E.var y=some i->ρ[i]?=some (some w)->Held P.cx S env m cm y w)(n:NxS env S S')(hl:E.cv=none->ρ'.length=E.names.length)(f:FrmE S'.F env (λy=>if y=x then v else m y) cm)
  (hr:∀i w y,E.var y=some i->ρ'[i]?=some (some w)->y≠x/\ρ[i]?=some (some w)):A0i P.cx S' env E ρ':=
 ⟨_,cm,hl,f,λi w y hy hw=>(hh i w y hy (hr i w y hy hw).2).rec λcw r b=>⟨cw,r.mono n.g n.u,b.rec (λb1 b2=>.loc b1 ((if_neg (hr i w y hy hw).1).trans b2)) λb1 c b2 b3=>.cell b1 c b2 b3⟩⟩
end
theorem at_get{es:List DictEntry}{v w:Value}(f:FKey [54,4] es)(h:es.map (·.val)=[v,w]):getL (aNm 4) es=some (some w):=by
 have k:=A8b (R:=λ(x y:Value)=>x=y) (a:=4) (by decide) f (xs:=[v,w]) (by rw[h];exact .cons rfl (.cons rfl .nil))
 cases k with
 |yes _ u e r=>exact r▸e
section
variable{P:Pl}{E:CE}{env:Env}{outer:List Env}{S:St}{ρ:Lo}{X:Value->Shared->Prop}
theorem set_none{i:Nat}{x:Str}{ρ:Lo}(h:E.cv=none)(hx:E.var x=some i):∀j w y,E.var y=some j->(ρ.set i none)[j]?=some (some w)->y≠x/\ρ[j]?=some (some w):=λj w y hy e=>by
 by_cases z:i=j
 ·subst z
  rw[List.getElem?_set,if_pos rfl] at e
  split at e
  ·cases Option.some.inj e
  ·exact A0a e
 ·rw[List.getElem?_set_ne z] at e
  exact⟨λq=>z (Option.some.inj (hx.symm.trans (q▸hy))),e⟩
theorem B5w{A:Around}(V:EnvF P env outer E){x:Str}{i:Nat}{v:Value}{Q:Unit->Shared->Prop}(hx:E.var x=some i)(hk:env.kindOf x=some .local)(R:Rel P.cx P.l S)(L:A0i P.cx S env E ρ)
  (hq:∀F' h' tk m cm,NxS env S {S with F:=F',s:={S.s with heap:=h',toks:=tk}}->Rel P.cx P.l {S with F:=F',s:={S.s with heap:=h',toks:=tk}}->A0i P.cx {S with F:=F',s:={S.s with heap:=h',toks:=tk}} env E (ρ.set i none)->FrmE F' env m cm->m x=some v->Heap.SameBut env.locals S.s.heap h'->Q () {S.s with heap:=h',toks:=tk}):wpAny P.M A (storeName env x v) Q X S.s:=by
 revert hq
 refine L.rec λm cm hlen f hh hq=>wpAny_storeName_local hk (R.ns f.loc) (λh' hn hs=> ?_) (by rw[V.V.kind];rfl)
 refine(B2e V R f (tk:=S.s.toks+1) hn hs).rec λo n R2 f2=> ?_
 exact hq _ h' _ _ cm n R2 (B6z (S':={S with F:=S.F.put env.locals o,s:={S.s with heap:=h',toks:=S.s.toks+1}}) hh n (λe=>Cq.trans (hlen e)) f2 (set_none V.cv hx)) f2 (if_pos rfl) hs
theorem B7s(V:EnvF P env outer E){x:Str}{i:Nat}{pos:Pos}{Q:Unit->Shared->Prop}(hx:E.var x=some i)(hk:env.kindOf x=some .local)(R:Rel P.cx P.l S)(L:A0i P.cx S env E ρ)(hi:∀v,ρ[i]?≠some (some v))
  (hq:∀F' h' tk,NxS env S {S with F:=F',s:={S.s with heap:=h',toks:=tk}}->Rel P.cx P.l {S with F:=F',s:={S.s with heap:=h',toks:=tk}}->A0i P.cx {S with F:=F',s:={S.s with heap:=h',toks:=tk}} env E ρ->Q () {S.s with heap:=h',toks:=tk}):wpAny P.M P.A (do bindName env x .none;unbindBehindTheSuite env x pos) Q X S.s:=by
 revert hq
 refine L.rec λm cm hlen f hh hq=>wpAny_nameGoes_keeps hk (R.ns f.loc) (by rw[V.V.kind];rfl) λh' v hn hs=> ?_
 refine(B2e V R f (tk:=S.s.toks+1) hn hs).rec λo n R2 f2=> ?_
 exact hq _ h' _ n R2 (B6z (S':={S with F:=S.F.put env.locals o,s:={S.s with heap:=h',toks:=S.s.toks+1}}) hh n hlen f2 λj w y hy hw=>⟨λq=>hi w (by subst q;rw[hx] at hy;cases hy;exact hw),hw⟩)
end
def tryK(i j:Nat)(K:Ko)(x:Ro):Prop:=match x with
 |.exc ρ p=>K (.next (((ρ.map B0f).set j none).set i (some (.p (p)))) [])
 |.next ρ h=>K (.next ρ h)
 |.cont ρ h=>K (.cont ρ h)
 |.ret v h=>K (.ret v h)
 |.bad=>False
section
variable{P:Pl}{E:CE}{env:Env}{outer:List Env}
theorem try_po{b:List Cm}{i j:Nat}{ρ:Lo}{h:Ht}{K:Ko}(q:PO (runS P.n P.o P.oi (.tryAt b j i) ρ h) K):PO (runL P.n P.o P.oi b ρ h) (tryK i j K):=by
 cases h with
 |cons=>exact q.elim
 |nil=>
  unfold runS at q
  revert q
  cases runL P.n P.o P.oi b ρ [] <;> exact λq=>q
theorem try_nil{b:List Cm}{i j:Nat}{ρ:Lo}{h:Ht}{K:Ko}(q:PO (runS P.n P.o P.oi (.tryAt b j i) ρ h) K):h=[]:=by
 cases h with
 |cons=>exact q.elim
 |nil=>rfl
def PureL(ρ:Lo):Prop:=∀(i:Nat) (v:Mine.V),ρ[i]?=some (some v)->∃a,v=Mine.V.p a
theorem pure_map{ρ:Lo}:PureL (ρ.map B0f):=λi v e=>(List.at_map e).elim λw h=>(B6k h.2).elim λa k=>⟨a,k.2⟩
theorem pure_set{ρ:Lo}{i j:Nat}{p:AVal}(h:PureL ρ):PureL ((ρ.set j none).set i (some (.p p))):=λk v e=>by
 rw[List.getElem?_set] at e
 split at e
 ·split at e
  ·exact⟨p,(Option.some.inj (Option.some.inj e)).symm⟩
  ·exact A0a e
 ·rw[List.getElem?_set] at e
  split at e
  ·split at e
   ·cases Option.some.inj e
   ·exact A0a e
  ·exact h k v e
theorem A0i.bare{cx:Cx}{S:St}{ρ:Lo}(L:A0i cx S env E ρ)(hp:PureL ρ):A0i cx {S with σ:=[],h:=[]} env E ρ:=
 L.rec λm cm n f h=>⟨m,cm,n,f,λi v x a b=>by
  obtain⟨y,rfl⟩:=hp i v b
  exact(h i _ x a b).rec λcv r z=>⟨cv,r,z⟩⟩
theorem ss_try(Fa:Facts P.cx)(Xg:XGood P.cx)(V:EnvF P env outer E){b:List PySem.Stmt}{cb:List Cm}{y z:Str}{p1 p2 p3 p4 p5 p6 p7:Pos}{i j:Nat}(hg:E.globs.contains "RegexError" =true)(hcl:E.cells.contains z=false)(hdz:(z==("__debug__" :Str))=false)(hvx:E.var z=some j)(hvy:E.var y=some i)(hij:j≠i)(hb:SL P E env b cb):
  SS P E env (.Try b [.ExceptHandler (some (.Name "RegexError" p1)) (some z) [.Assign [.Name y p2] (.Attribute (.Name z p3) (aNm 4) p4) p5] p6] [] [] p7) (.tryAt cb j i):=λS ρ K R L q=>by
 have hk:env.kindOf z=some .local:=(V.own z j hvx).elim (λh=>h) λh=>by
  have:=V.celled z h.1
  rw[hcl] at this;cases this
 refine wpAny_Try_except (Af (hb S ρ _ R L (try_po q)) (λf s₁ x=>x.rec (λS1 ρ1 n R1 L1 q=>wpAny_execs_nil (.next S1 ρ1 n R1 L1 q)) (λS1 ρ1 n R1 L1 q=>.cont S1 ρ1 n R1 L1 q) λS1 v r n R1 hv q=>.ret S1 v r n R1 hv q) λe s₁ x=>x.rec λS1 ρ' p n1 R1 x1 L1 hk1=> ?_)
 have hd:((("RegexError" :Str))==("__debug__" :Str))=false:=by decide
 refine A5x (P.am.frames.trans (congrArg some V.hl)) V.hl V.frame R1 x1 λh1 R2 T1=> ?_
 refine A2u (fr:=none) R2 T1 λh2 R3 T2=> ?_
 have T2':=T2
 obtain⟨a,vs,B,M⟩:=T2'
 obtain⟨dx,es,nn,oe,v,w,off,o,c,di,q1,gd,fk,ev,r⟩:=B
 refine wpAny_handleBy_cons (codeAny_handlers_test (A5d V.V hd hg R3 (Fa.gcls 2 (by decide)) ?_)) (by intro q;cases q)
 refine B3x Xg R3.inK o c (codeAny_handlers_suite_as ?_)
 refine A2u (fr:=none) R3 T2 λh7 R4 T3=> ?_
 obtain⟨_,vs,B,M⟩:=T3
 obtain⟨dx,es,nn,oe,v,w,off,o,c,di,q1,gd,fk,ev,r⟩:=B
 refine B5w (S:={S1 with s:={S1.s with heap:=h7}}) V hvx hk R4 L1.ch λF4 h12 tk m cm n4 R5 L4 f4 hm hsb=> ?_
 have hne:a≠env.locals:=λz=>by
  subst z
  exact(R4.envs env (V.hl▸ .head _)).rec λL0 o es ep k q1 q2 d=>by
   rw[V.frame] at q1;cases q1
   exact A0a (off.f.symm.trans q2)
 have ha4:h12.get? a=some oe:=(hsb.2 a hne).trans o
 refine wpAny_execs_cons (A6k rfl rfl rfl ?_)
 have e:eval (.Attribute (.Name z p3) (aNm 4) p4) env=(do
   let o←eval (.Name z p3) env
   standAt p4.atName
   let r←holding [o] (getAttr o (aNm 4) true)
   letTemporaryGo (.Name z p3) o r
   pure r):=by
  show(do let o←attributeBase (.Name z p3) (aNm 4) env (eval (.Name z p3) env);_)=_
  rw[A0x rfl]
 rw[e]
 refine Ab (wpAny_Name (A7y (S:={S1 with F:=F4,s:={S1.s with heap:=h12,toks:=tk}}) V.V.kind f4 R5 (.loc hk hm) ?_) hdz)
 refine Ab (wpAny_standAt (Ab (wpAny_holding ?_)))
 refine B7u (a:=4) Xg R5.inK ha4 c (by unfold notCls;rw[q1]) di (R5.stay _ _ gd) (at_get fk ev) (handed (x:=.p p) (σ:=[]) r) Xg.f2 λtk'=> ?_
 refine Ab (wpAny_letTemporaryGo (Ad ?_))
 refine Ab (wpAny_standAt (wpAny_bindName (A3h (S:={S1 with F:=F4,s:={S1.s with heap:=h12,toks:=tk'}}) V (r:=.p p) hvy (R5.toks tk') L4.ch r λS5 n5 e5 R6 L5=>wpAny_execs_nil ?_)))
 refine B7s V hvx hk R6 L5 (λw hw=> ?_) λF6 h14 tk6 n6 R7 L6=> ?_
 ·rw[List.getElem?_set_ne (Ne.symm hij),List.getElem?_set,if_pos rfl] at hw
  split at hw
  ·cases Option.some.inj hw
  ·exact A0a hw
 ·have nn:NxF env S {S5 with F:=F6,s:={S5.s with heap:=h14,toks:=tk6}}:=⟨λa h=>(n6.f a h).trans ((n5.f a h).trans ((n4.f a h).trans (n1.f a h))),n1.g.trans (n5.g.trans n6.g)⟩
  have eh:S.h=[]:=try_nil q
  have hσ:S.σ=[]:=List.eq_nil_of_length_eq_zero (R.len.trans (congrArg List.length eh))
  exact .next {S5 with F:=F6,σ:=[],h:=[],s:={S5.s with heap:=h14,toks:=tk6}} _ ⟨nn.f,nn.g,λk a z=>A0a ((hσ▸z:([]:List Addr)[k]?=some a))⟩ R7.bare (L6.bare (pure_set pure_map)) hk1
end
structure Vw where
 n:Str
 k:Nat
 es:List PySem.Expr
 os:List (Option PySem.Expr)
 sc:Scope
noncomputable def Vw.e(es:List PySem.Expr):Vw:=⟨Str.empty,0,es,[],default⟩
noncomputable def vw:PySem.Expr->Vw
 |.BoolOp _ es _=>.e es
 |.BinOp a _ b _=>.e [a,b]
 |.UnaryOp _ a _=>.e [a]
 |.IfExp c a b _=>.e [c,a,b]
 |.Dict ks vs _=>⟨Str.empty,0,vs,ks,default⟩
 |.ListComp e gs sc _=>⟨Str.empty,0,e::gs.flatMap λg=>g.target::g.iter::g.ifs,[],sc⟩
 |.Compare a _ bs _=>.e (a::bs)
 |.Call f as _ _=>.e (f::as)
 |.Constant _ k _=>⟨Str.empty,k,[],[],default⟩
 |.Attribute v _ _=>.e [v]
 |.Subscript v i _=>.e [v,i]
 |.Name x _=>⟨x,0,[],[],default⟩
 |.List es _=>.e es
 |.Tuple es k _=>⟨Str.empty,k,es,[],default⟩
 |.Slice lo hi _ _=>⟨Str.empty,0,[],[lo,hi],default⟩
 |_=>.e []
noncomputable def kid(e:PySem.Expr)(i:Nat):PySem.Expr:=(vw e).es.getD i default
noncomputable def oid(e:PySem.Expr)(i:Nat):Option PySem.Expr:=(vw e).os.getD i none
noncomputable def cstOf:AVal->Const
 |.bool b=>.bool b
 |.int i=>.int i
 |.str s=>.str ⟨s.toArray⟩
 |_=>.none
noncomputable def dN(e:PySem.Expr):PySem.Expr:= .Name (vw e).n e.pos
noncomputable def dF(f:Nat)(p:PySem.Expr):Option Nat->PySem.Expr
 |none=> .Name (fNm f) p.pos
 |some c=> .Attribute (.Name (cNm c) (kid p 0).pos) (fNm f) p.pos
noncomputable def dKs:List (List Nat)->List (Option PySem.Expr)->List (Option PySem.Expr)
 |[],_=> []
 |k::ks,os=>some (.Constant (.str ⟨k.toArray⟩) (vw ((os.headD none).getD default)).k ((os.headD none).getD default).pos)::dKs ks os.tail
mutual
noncomputable def dX:Ex->PySem.Expr->PySem.Expr
 |.lit v,e=> .Constant (cstOf v) (vw e).k e.pos
 |.loc _,e=>dN e
 |.glob g,e=> .Name (gNm g) e.pos
 |.attr x a,e=> .Attribute (dX x (kid e 0)) (aNm a) e.pos
 |.tup xs,e=> .Tuple (dXs xs (vw e).es) (vw e).k e.pos
 |.flist xs,e=> .List (dXs xs (vw e).es) e.pos
 |.mlist xs,e=> .List (dXs xs (vw e).es) e.pos
 |.dict ks xs,e=> .Dict (dKs ks (vw e).os) (dXs xs (vw e).es) e.pos
 |.call f xs,e=> .Call (dF f (kid e 0) (fCl f)) (dXs xs (vw e).es.tail) [] e.pos
 |.new c xs,e=> .Call (.Name (cNm c) (kid e 0).pos) (dXs xs (vw e).es.tail) [] e.pos
 |.meth x m xs,e=> .Call (.Attribute (dX x (kid (kid e 0) 0)) (aNm m) (kid e 0).pos) (dXs xs (vw e).es.tail) [] e.pos
 |.bi b xs,e=> .Call (.Name (biNm b) (kid e 0).pos) (dXs xs (vw e).es.tail) [] e.pos
 |.bin o x y,e=> .BinOp (dX x (kid e 0)) (opR o) (dX y (kid e 1)) e.pos
 |.cmp o x y,e=> .Compare (dX x (kid e 0)) [copR o] [dX y (kid e 1)] e.pos
 |.cmp2 o p x y z,e=> .Compare (dX x (kid e 0)) [copR o,copR p] [dX y (kid e 1),dX z (kid e 2)] e.pos
 |.not x,e=> .UnaryOp .Not (dX x (kid e 0)) e.pos
 |.and xs,e=> .BoolOp .And (dXs xs (vw e).es) e.pos
 |.or xs,e=> .BoolOp .Or (dXs xs (vw e).es) e.pos
 |.ite c x y,e=> .IfExp (dX c (kid e 0)) (dX x (kid e 1)) (dX y (kid e 2)) e.pos
 |.neg x,e=> .UnaryOp .USub (dX x (kid e 0)) e.pos
 |.sub x i,e=> .Subscript (dX x (kid e 0)) (dX i (kid e 1)) e.pos
 |.slice x l h,e=> .Subscript (dX x (kid e 0)) (.Slice ((oid (kid e 1) 0).map (dX l)) ((oid (kid e 1) 1).map (dX h)) none (kid e 1).pos) e.pos
 |.comp x it c,e=> .ListComp (dX x (kid e 0)) [⟨dN (kid e 1),dX it (kid e 2),((vw e).es.drop 3).map (dX c),0⟩] (vw e).sc e.pos
noncomputable def dXs:List Ex->List PySem.Expr->List PySem.Expr
 |[],_=> []
 |x::xs,es=>dX x (es.headD default)::dXs xs es.tail
end
noncomputable def ndb(x:Str):Bool:= !(x==("__debug__" :Str))
noncomputable def gl(E:CE)(x:Str):Bool:=ndb x&&E.globs.contains x
noncomputable def litB:AVal->Bool
 |.none=>true
 |.bool _=>true
 |.int _=>true
 |.str s=>Nat.ble s.length sizeLine
 |_=>false
noncomputable def litK:Ex->Nat
 |.lit v=>(match v with | .none=>1 | .bool b=>(match b with | true=>2 | false=>0) | _=>0)
 |_=>0
noncomputable def okF(E:CE)(f n:Nat)(p:PySem.Expr)(pos:Pos):Option Nat->Bool
 |none=>gl E (fNm f)
 |some c=>gl E (cNm c)&& (Nat.ble (c+1) 19&& (statics.contains f&& (Nat.ble (n+1) 30&& (p.pos.endLine==pos.line))))
noncomputable def notTup:Ex->Bool
 |.tup _=>false
 |_=>true
noncomputable def okIf(f:PySem.Expr->Bool)(c:Ex):List PySem.Expr->Bool
 |[]=>Nat.beq (litK c) 2
 |e::r=>r.isEmpty&&f e
noncomputable def okO(f:PySem.Expr->Bool)(c:Ex):Option PySem.Expr->Bool
 |none=>Nat.beq (litK c) 1
 |some e=>f e
mutual
noncomputable def okX:Ex->CE->PySem.Expr->Bool
 |.lit v,_,_=>litB v
 |.loc i,E,e=>ndb (vw e).n&& (E.var (vw e).n==some i)
 |.glob g,E,_=>gl E (gNm g)&&Nat.ble (g+1) 15
 |.attr x _,E,e=> !A4k (dX x (kid e 0))&&okX x E (kid e 0)
 |.tup xs,E,e=>Nat.ble xs.length 1000&&okXs xs E (vw e).es
 |.flist xs,E,e=>Nat.ble xs.length 1000&&okXs xs E (vw e).es
 |.mlist xs,E,e=>Nat.ble xs.length 1000&&okXs xs E (vw e).es
 |.dict ks xs,E,e=>decide (ks.length<=15/\ks≠[]/\(dKs ks (vw e).os).length=(dXs xs (vw e).es).length/\ks.Nodup/\∀k∈ks,k.length<=sizeLine)&&okXs xs E (vw e).es
 |.call f xs,E,e=>Nat.ble (f+1) 83&& (okF E f (dXs xs (vw e).es.tail).length (kid e 0) e.pos (fCl f)&&okXs xs E (vw e).es.tail)
 |.new c xs,E,e=>gl E (cNm c)&& (usable c&& (Nat.ble (c+1) 19&&okXs xs E (vw e).es.tail))
 |.meth x m xs,E,e=> !A4k (dX x (kid (kid e 0) 0))&& (Nat.ble ((dXs xs (vw e).es.tail).length+1) 30&& (((kid e 0).pos.endLine==e.pos.line)&& (okX x E (kid (kid e 0) 0)&&okXs xs E (vw e).es.tail)))
 |.bi b xs,E,e=>gl E (biNm b)&&okXs xs E (vw e).es.tail
 |.bin _ x y,E,e=>okX x E (kid e 0)&&okX y E (kid e 1)
 |.cmp _ x y,E,e=>okX x E (kid e 0)&&okX y E (kid e 1)
 |.cmp2 _ _ x y z,E,e=>okX x E (kid e 0)&& (okX y E (kid e 1)&&okX z E (kid e 2))
 |.not x,E,e=>okX x E (kid e 0)
 |.and xs,E,e=>okXs xs E (vw e).es
 |.or xs,E,e=>okXs xs E (vw e).es
 |.ite c x y,E,e=>okX c E (kid e 0)&& (okX x E (kid e 1)&&okX y E (kid e 2))
 |.neg x,E,e=>okX x E (kid e 0)
 |.sub x i,E,e=>okX x E (kid e 0)&&okX i E (kid e 1)
 |.slice x l h,E,e=>okX x E (kid e 0)&& (okO (okX l E) l (oid (kid e 1) 0)&&okO (okX h E) h (oid (kid e 1) 1))
 |.comp x it c,E,e=>E.cv.isNone&& (compOK E (vw e).sc (vw (kid e 1)).n&& (okX it E (kid e 2)&& (okX x (E.inComp (vw e).sc (vw (kid e 1)).n) (kid e 0)&&okIf (okX c (E.inComp (vw e).sc (vw (kid e 1)).n)) c ((vw e).es.drop 3))))
noncomputable def okXs:List Ex->CE->List PySem.Expr->Bool
 |[],_,_=>true
 |x::xs,E,es=>okX x E (es.headD default)&&okXs xs E es.tail
end
theorem aL{a b:Bool}(h:(a&&b)=true):a=true:=(Aq.mp h).1
theorem aR{a b:Bool}(h:(a&&b)=true):b=true:=(Aq.mp h).2
theorem nB{a:Bool}(h:(!a)=true):a=false:=(Cg _).mp h
theorem leB'{a b:Nat}(h:Nat.ble a b=true):a<=b:=nbl h
inductive LitK:Ex->Nat->Prop
 |no:LitK (.lit .none) 1
 |tr:LitK (.lit (.bool true)) 2
 |zero (c:Ex):LitK c 0
theorem litK_is(c:Ex):LitK c (litK c):=by
 cases c with
 |lit v=>cases v with
  |none=>exact .no
  |bool b=>cases b with
   |true=>exact .tr
   |false=>exact .zero _
  |_=>exact .zero _
 |_=>exact .zero _
theorem B0h{c:Ex}{k:Nat}(h:Nat.beq (litK c) k=true):LitK c k:=An h▸litK_is c
structure Fine(e:PySem.Expr):Prop where
 st:A9j e=false
 fs:∀env v,foldedSetIterable e env v=pure v
 sb:∀o j,subscripted e false o j=operate [o,j] (getItem o j)
 bm:∀p,behindInMarks (copR p) e=false
theorem fine(x:Ex)(e:PySem.Expr):Fine (dX x e):=by
 cases x <;> exact⟨rfl,λ_ _=>rfl,λ_ _=>rfl,λp=>by cases p <;> rfl⟩
theorem A4a:∀(xs:List Ex) (es:List PySem.Expr),Plain (dXs xs es):=by
 intro xs
 induction xs with
 |nil=>exact λ_=>rfl
 |cons x xs ih=>exact λes=>Aq.mpr ⟨congrArg not (fine x _).st,ih _⟩
theorem keys_at:∀(ks:List (List Nat)) (os:List (Option PySem.Expr)),All2 B9u ks (dKs ks os):=by
 intro ks
 induction ks with
 |nil=>exact λ_=>.nil
 |cons k ks ih=>exact λos=>.cons ⟨_,_⟩ (ih _)
def Hok(E:CE):Prop:=E.cv=none->∀y,E.cells.contains y=true->E.ok.contains y=true
section
variable{P:Pl}{E:CE}{env:Env}
theorem sx_lit{v:AVal}{k:Nat}{p:Pos}(h:litB v=true):SX P E env (.Constant (cstOf v) k p) (.lit v):=by
 cases v with
 |none=>exact sx_none
 |bool b=>exact sx_bool
 |int i=>exact sx_int
 |str s=>exact sx_str (x:=⟨s.toArray⟩) (leB' h)
 |_=>cases h
theorem sx_callF(Fa:Facts P.cx)(V:A2f env E){es:List PySem.Expr}{xs:List Ex}{k:Nat}{p:PySem.Expr}{pos:Pos}(hk:k<83)(hn:Plain es)(h:SXs P E env es xs)(hf:okF E k es.length p pos (fCl k)=true):SX P E env (.Call (dF k p (fCl k)) es [] pos) (.call k xs):=by
 revert hf
 cases q:fCl k with
 |none=>exact λhf=>B5o Fa V (nB (aL hf)) (aR hf) hk q hn h
 |some c=>exact λhf=>B5n Fa V (nB (aL (aL hf))) (aR (aL hf)) hk (leB' (aL (aR hf))) q (aL (aR (aR hf))) (leB' (aL (aR (aR (aR hf))))) (aR (aR (aR (aR hf)))) hn h
structure XT(P:Pl)(E:CE)(env:Env)(e:PySem.Expr)(x:Ex):Prop where
 sx:SX P E env e x
 st:ST P E env e x
structure XTs(P:Pl)(E:CE)(env:Env)(es:List PySem.Expr)(xs:List Ex):Prop where
 ss:SXs P E env es xs
 sx:All2 (SX P E env) es xs
 st:All2 (ST P E env) es xs
abbrev BX(P:Pl)(x:Ex):Prop:=∀(E:CE) (env:Env) (e:PySem.Expr),A2f env E->Hok E->okX x E e=true->XT P E env (dX x e) x
abbrev BXs(P:Pl)(xs:List Ex):Prop:=∀(E:CE) (env:Env) (es:List PySem.Expr),A2f env E->Hok E->okXs xs E es=true->XTs P E env (dXs xs es) xs
theorem opt_ok{S:St}{ρ:Lo}{K:Kv}{X:Kx}{y:Ex}(V:A2f env E)(hk:Hok E)(ih:BX P y){o:Option PySem.Expr}(h:okO (okX y E) y o=true)(R:Rel P.cx P.l S)(L:A0i P.cx S env E ρ)(q:PR (runX P.o P.oi y ρ S.h) K X):
  wpAny P.M P.A (valueOrNone (evalOpt (o.map (dX y)) env)) (Okx P.cx P.l S K) (Exx P.cx P.l S .none X) S.s:=by
 cases o with
 |none=>exact(B0h h).rec (motive:=λc k _=>k=1->PR (runX P.o P.oi c ρ S.h) K X->wpAny P.M P.A (valueOrNone (evalOpt none env)) (Okx P.cx P.l S K) (Exx P.cx P.l S .none X) S.s) (λ_ q=>Ad (A3o (a:=.p .none) R rfl q)) (λe=>nomatch e) (λ_ e=>nomatch e) rfl q
 |some e=>exact(ih E env e V hk h).sx S ρ K X R L q
theorem if_ok{c:Ex}(V:A2f env E)(hk:Hok E)(ih:BX P c){es:List PySem.Expr}(h:okIf (okX c E) c es=true):A7e P E env (es.map (dX c)) c:=by
 cases es with
 |nil=>exact(B0h h).rec (motive:=λc k _=>k=2->A7e P E env [] c) (λe=>nomatch e) (λ_=>.no) (λ_ e=>nomatch e) rfl
 |cons e r=>cases r with
  |nil=>exact .one _ _ (ih E env e V hk (aR (a:=true) h)).st
  |cons=>cases h
theorem x_ok(Fa:Facts P.cx)(So:A1z P.cx)(x:Ex):BX P x:=by
 have mk:∀{E:CE} {env:Env} {e:PySem.Expr} {x:Ex},SX P E env e x->(isTrue e env (eval e env)=(do let v←eval e env;standAt e.pos;holding [v] (truthy v)))->XT P E env e x:=λh he=>⟨h,st_of h he⟩
 refine Ex.rec (motive_1:=BX P) (motive_2:=BXs P) ?_ ?_ ?_ ?_ ?_ ?_ ?_ ?_ ?_ ?_ ?_ ?_ ?_ ?_ ?_ ?_ ?_ ?_ ?_ ?_ ?_ ?_ ?_ ?_ ?_ x
 ·exact λv E env e V hk h=>mk (sx_lit h) rfl
 ·exact λi E env e V hk h=>mk (B1j V (nB (aL h)) (eq_of_beq (aR h))) rfl
 ·exact λg E env e V hk h=>mk (sx_glob Fa V (nB (aL (aL h))) (aR (aL h)) (leB' (aR h))) rfl
 ·exact λx a ih E env e V hk h=>mk (B0a Fa (nB (aL h)) (ih E env _ V hk (aR h)).sx) rfl
 ·exact λxs ih E env e V hk h=>mk (sx_tup (ih E env _ V hk (aR h)).ss (leB' (aL h))) rfl
 ·exact λxs ih E env e V hk h=>mk (sx_flist (ih E env _ V hk (aR h)).ss (leB' (aL h))) rfl
 ·exact λxs ih E env e V hk h=>mk (sx_mlist (ih E env _ V hk (aR h)).ss (leB' (aL h))) rfl
 ·exact λks xs ih E env e V hk h=>by
   have c:=Ba (aL h)
   exact mk (sx_dict Fa (keys_at ks _) c.1 (λz=>c.2.1 (by cases ks with | nil=>rfl | cons=>cases z)) c.2.2.1 c.2.2.2.1 c.2.2.2.2 (ih E env _ V hk (aR h)).sx) rfl
 ·exact λf xs ih E env e V hk h=>mk (sx_callF Fa V (leB' (aL h)) (A4a _ _) (ih E env _ V hk (aR (aR h))).ss (aL (aR h))) rfl
 ·exact λc xs ih E env e V hk h=>mk (sx_new Fa V (nB (aL (aL h))) (aR (aL h)) (aL (aR h)) (leB' (aL (aR (aR h)))) (A4a _ _) (ih E env _ V hk (aR (aR (aR h)))).ss) rfl
 ·exact λx m xs ih1 ih E env e V hk h=>mk (sx_meth Fa (λ_=>A0x (nB (aL h))) (leB' (aL (aR h))) (aL (aR (aR h))) (A4a _ _) (ih1 E env _ V hk (aL (aR (aR (aR h))))).sx (ih E env _ V hk (aR (aR (aR (aR h))))).ss) rfl
 ·exact λb xs ih E env e V hk h=>mk (sx_bi Fa So V (nB (aL (aL h))) (aR (aL h)) (A4a _ _) (ih E env _ V hk (aR h)).ss) rfl
 ·exact λo x y ih1 ih2 E env e V hk h=>mk (sx_bin (ih1 E env _ V hk (aL h)).sx (ih2 E env _ V hk (aR h)).sx) rfl
 ·exact λo x y ih1 ih2 E env e V hk h=>⟨sx_cmp ((fine y _).bm o) (ih1 E env _ V hk (aL h)).sx (ih2 E env _ V hk (aR h)).sx,st_cmp ((fine y _).bm o) (ih1 E env _ V hk (aL h)).sx (ih2 E env _ V hk (aR h)).sx⟩
 ·exact λo p x y z ih1 ih2 ih3 E env e V hk h=>⟨sx_cmp2 ((fine z _).bm p) (ih1 E env _ V hk (aL h)).sx (ih2 E env _ V hk (aL (aR h))).sx (ih3 E env _ V hk (aR (aR h))).sx,st_cmp2 ((fine z _).bm p) (ih1 E env _ V hk (aL h)).sx (ih2 E env _ V hk (aL (aR h))).sx (ih3 E env _ V hk (aR (aR h))).sx⟩
 ·exact λx ih E env e V hk h=>⟨sx_not (ih E env _ V hk h).sx,st_not (ih E env _ V hk h).st⟩
 ·exact λxs ih E env e V hk h=>⟨sx_and (ih E env _ V hk h).sx,st_and (ih E env _ V hk h).st⟩
 ·exact λxs ih E env e V hk h=>⟨sx_or (ih E env _ V hk h).sx,st_or (ih E env _ V hk h).st⟩
 ·exact λc x y ih1 ih2 ih3 E env e V hk h=>⟨sx_ite (ih1 E env _ V hk (aL h)).st (ih2 E env _ V hk (aL (aR h))).sx (ih3 E env _ V hk (aR (aR h))).sx,st_ite (ih1 E env _ V hk (aL h)).st (ih2 E env _ V hk (aL (aR h))).st (ih3 E env _ V hk (aR (aR h))).st⟩
 ·exact λx ih E env e V hk h=>mk (sx_neg (ih E env _ V hk h).sx) rfl
 ·exact λx y ih1 ih2 E env e V hk h=>mk (sx_sub (fine y _).sb (ih1 E env _ V hk (aL h)).sx (ih2 E env _ V hk (aR h)).sx) rfl
 ·exact λx y z ih1 ih2 ih3 E env e V hk h=>mk (sx_slice (ih1 E env _ V hk (aL h)).sx (opt_ok V hk ih2 (aL (aR h))) (opt_ok V hk ih3 (aR (aR h)))) rfl
 ·exact λx it c ih1 ih2 ih3 E env e V hk h=>by
   have hc:E.cv=none:=Option.isNone_iff_eq_none.mp (aL h)
   exact mk (sx_comp V hc (hk hc) (compS_of (aL (aR h))) ((fine it _).fs env) (ih2 E env _ V hk (aL (aR (aR h)))).sx (λcenv V'=>(ih1 _ cenv _ V' (λq=>nomatch q) (aL (aR (aR (aR h))))).sx) λcenv V'=>if_ok V' (λq=>nomatch q) ih3 (aR (aR (aR (aR h))))) rfl
 ·exact λE env es V hk h=>⟨A7k,.nil,.nil⟩
 ·exact λx xs ih1 ih2 E env es V hk h=>by
   have a:=ih1 E env _ V hk (aL h)
   have b:=ih2 E env _ V hk (aR h)
   exact⟨A2q (fine x _).st a.sx b.ss,.cons a.sx b.sx,.cons a.st b.st⟩
end
noncomputable def vs:PySem.Stmt->List PySem.Expr×List (List PySem.Stmt)
 |.Return v _=>(v.toList,[])
 |.Assign ts v _=>(v::ts,[])
 |.Expr v _=>([v],[])
 |.For t it b _ _=>([t,it],[b])
 |.While t b _ _=>([t],[b])
 |.If t b f _=>([t],[b,f])
 |.Raise e _ _=>(e.toList,[])
 |.Try b _ _ _ _=>([],[b])
 |_=>([],[])
noncomputable def ke(s:PySem.Stmt)(i:Nat):PySem.Expr:=(vs s).1.getD i default
noncomputable def kb(s:PySem.Stmt)(i:Nat):List PySem.Stmt:=(vs s).2.getD i []
noncomputable def B7o(n:Str):List PySem.Stmt->Option (Arguments×Scope×List PySem.Stmt)
 |[]=>none
 |s::r=>(match s with | .FunctionDef m a b _ _ _ sc _ _ _=>(match m==n with | true=>some (a,sc,b) | false=>B7o n r) | _=>B7o n r)
noncomputable def B0v(n:Str):List PySem.Stmt->List PySem.Stmt
 |[]=> []
 |s::r=>(match s with | .ClassDef m _ _ b _ _ _ _ _ _ _=>(match m==n with | true=>b | false=>B0v n r) | _=>B0v n r)
noncomputable def fnNames2:List (Option Nat×Str):=B0m++[fN (some 1) "__init__",fN (some 18) "failed"]
noncomputable def findFn(x:Option Nat×Str):Option (Arguments×Scope×List PySem.Stmt):=B7o x.2 (match x.1 with | none=>pw.main.body | some c=>B0v (cNm c) pw.main.body)
noncomputable def trOf(i:Nat):Arguments×Scope×List PySem.Stmt:=(findFn (fnNames2.getD i (none,Str.empty))).getD (default,default,[])
noncomputable def H0:List ExceptHandler:=match(trOf 81).2.2.tail.headD default with | .Try _ hs _ _ _=>hs | _=> []
inductive H0At(hs:List ExceptHandler):Prop
 |mk (p1 p2 p3 p4 p5 p6:Pos) (e:hs=[.ExceptHandler (some (.Name "RegexError" p1)) (some "error") [.Assign [.Name "fault" p2] (.Attribute (.Name "error" p3) (aNm 4) p4) p5] p6])
theorem h0_at:H0At H0:=⟨_,_,_,_,_,_,rfl⟩
noncomputable def dT(t:PySem.Expr):Bool->PySem.Expr
 |false=>dN t
 |true=> .Tuple ((vw t).es.map dN) (vw t).k t.pos
mutual
noncomputable def dS:Cm->PySem.Stmt->PySem.Stmt
 |.asg _ e,s=> .Assign [dN (ke s 1)] (dX e (ke s 0)) s.pos
 |.asgT _ e,s=> .Assign [.Tuple ((vw (ke s 1)).es.map dN) (vw (ke s 1)).k (ke s 1).pos] (dX e (ke s 0)) s.pos
 |.seta o a e,s=> .Assign [.Attribute (dX o (kid (ke s 1) 0)) (aNm a) (ke s 1).pos] (dX e (ke s 0)) s.pos
 |.seti o i e,s=> .Assign [.Subscript (dX o (kid (ke s 1) 0)) (dX i (kid (ke s 1) 1)) (ke s 1).pos] (dX e (ke s 0)) s.pos
 |.ex e,s=> .Expr (dX e (ke s 0)) s.pos
 |.ret e,s=> .Return ((vs s).1.head?.map (dX e)) s.pos
 |.ite c t f,s=> .If (dX c (ke s 0)) (dL t (kb s 0)) (dL f (kb s 1)) s.pos
 |.whl c b,s=> .While (dX c (ke s 0)) (dL b (kb s 0)) [] s.pos
 |.loop _ u it b,s=> .For (dT (ke s 0) u) (dX it (ke s 1)) (dL b (kb s 0)) [] s.pos
 |.raise o m a,s=> .Raise (some (.Call (.Attribute (dX o (kid (kid (ke s 0) 0) 0)) "failed" (kid (ke s 0) 0).pos) [dX m (kid (ke s 0) 1),dX a (kid (ke s 0) 2)] [] (ke s 0).pos)) none s.pos
 |.abort,s=>s
 |.cont,s=> .Continue s.pos
 |.tryAt b _ _,s=> .Try (dL b (kb s 0)) H0 [] [] s.pos
noncomputable def dL:List Cm->List PySem.Stmt->List PySem.Stmt
 |[],_=> []
 |c::r,ss=>dS c (ss.headD default)::dL r ss.tail
end
noncomputable def nmsB(E:CE):List Nat->List PySem.Expr->Bool
 |[],ts=>ts.isEmpty
 |i::is,ts=>(match ts with | []=>false | t::ts=>(E.var (vw t).n==some i)&&nmsB E is ts)
noncomputable def okT(E:CE)(is:List Nat)(t:PySem.Expr):Bool->Bool
 |false=>(match is with | []=>false | i::r=>r.isEmpty&& (E.var (vw t).n==some i))
 |true=>nmsB E is (vw t).es
noncomputable def okR(E:CE)(e:Ex):List PySem.Expr->Bool
 |[]=>Nat.beq (litK e) 1
 |x::_=>okX e E x
mutual
noncomputable def okS(E:CE):Cm->PySem.Stmt->Bool
 |.asg i e,s=>(E.var (vw (ke s 1)).n==some i)&& (A1t (dX e (ke s 0))&&okX e E (ke s 0))
 |.asgT is e,s=>nmsB E is (vw (ke s 1)).es&& (notTup e&& (A1t (dX e (ke s 0))&&okX e E (ke s 0)))
 |.seta o _ e,s=>A1t (dX e (ke s 0))&& (okX e E (ke s 0)&&okX o E (kid (ke s 1) 0))
 |.seti o i e,s=>A1t (dX e (ke s 0))&& (okX e E (ke s 0)&& (okX o E (kid (ke s 1) 0)&&okX i E (kid (ke s 1) 1)))
 |.ex e,s=>A1t (dX e (ke s 0))&&okX e E (ke s 0)
 |.ret e,s=>okR E e (vs s).1
 |.ite c t f,s=>okX c E (ke s 0)&& (okL E t (kb s 0)&&okL E f (kb s 1))
 |.whl c b,s=>okX c E (ke s 0)&&okL E b (kb s 0)
 |.loop is u it b,s=>okT E is (ke s 0) u&& (okX it E (ke s 1)&&okL E b (kb s 0))
 |.raise o m a,s=> !A4k (dX o (kid (kid (ke s 0) 0) 0))&& (((kid (ke s 0) 0).pos.endLine==(ke s 0).pos.line)&& (okX o E (kid (kid (ke s 0) 0) 0)&& (okX m E (kid (ke s 0) 1)&&okX a E (kid (ke s 0) 2))))
 |.abort,_=>true
 |.cont,_=>true
 |.tryAt b x y,s=>E.globs.contains "RegexError" && (!E.cells.contains "error" && ((E.var "error" ==some x)&& ((E.var "fault" ==some y)&& (!Nat.beq x y&&okL E b (kb s 0)))))
noncomputable def okL(E:CE):List Cm->List PySem.Stmt->Bool
 |[],_=>true
 |c::r,ss=>okS E c (ss.headD default)&&okL E r ss.tail
end
section
variable{P:Pl}{E:CE}{env:Env}{outer:List Env}
theorem B2a:∀{is:List Nat} {ts:List PySem.Expr},nmsB E is ts=true->Names E is (ts.map dN):=by
 intro is
 induction is with
 |nil=>intro ts h;cases ts with
  |nil=>exact .nil
  |cons=>cases h
 |cons i is ih=>intro ts h;cases ts with
  |nil=>cases h
  |cons t ts=>
   change ((E.var (vw t).n==some i)&&nmsB E is ts)=true at h
   exact .cons ⟨_,_,eq_of_beq (aL h)⟩ (ih (aR h))
theorem targ_at{is:List Nat}{t:PySem.Expr}{u:Bool}(h:okT E is t u=true):Targ E (dT t u) is u:=by
 cases u with
 |true=>exact .tup _ _ _ _ (B2a h)
 |false=>cases is with
  |nil=>cases h
  |cons i r=>cases r with
   |cons=>cases h
   |nil=>exact .name _ _ _ (eq_of_beq (aR (a:=true) h))
theorem no_swap{ts:List PySem.Expr}{k:Nat}{p:Pos}{x:Ex}(h:notTup x=true)(e:PySem.Expr):swappedStores [.Tuple ts k p] (dX x e) env=pure none:=by
 cases x <;> first | rfl | cases h
theorem s_ok(Fa:Facts P.cx)(So:A1z P.cx)(Ia:∀m,m<=P.n->OKn P.cx m)(Rg:RGood P.cx)(Po:B1c)(V:EnvF P env outer E)(b:List Cm):∀ss,okL E b ss=true->SL P E env (dL b ss) b:=by
 have X:=λ(x:Ex) (e:PySem.Expr) (h:okX x E e=true)=>x_ok Fa So x E env e V.V (λ_=>V.ok) h
 refine Cm.rec_1 (motive_1:=λc=>∀s,okS E c s=true->SS P E env (dS c s) c) (motive_2:=λb=>∀ss,okL E b ss=true->SL P E env (dL b ss) b) ?_ ?_ ?_ ?_ ?_ ?_ ?_ ?_ ?_ ?_ ?_ ?_ ?_ ?_ ?_ b
 ·exact λi e s h=>ss_asg V (eq_of_beq (aL h)) (aL (aR h)) (X e _ (aR (aR h))).sx
 ·exact λis e s h=>ss_asgT V (B2a (aL h)) (aL (aR (aR h))) (no_swap (aL (aR h)) _) (X e _ (aR (aR (aR h)))).sx
 ·exact λo a e s h=>ss_seta Fa (aL h) (X e _ (aL (aR h))).sx (X o _ (aR (aR h))).sx
 ·exact λo i e s h=>ss_seti (aL h) (X e _ (aL (aR h))).sx (X o _ (aL (aR (aR h)))).sx (X i _ (aR (aR (aR h)))).sx
 ·exact λe s h=>ss_expr V (aL h) (X e _ (aR h)).sx
 ·exact λe s h=>by
   change okR E e (vs s).1=true at h
   show SS P E env (.Return ((vs s).1.head?.map (dX e)) s.pos) (.ret e)
   cases q:(vs s).1 with
   |nil=>rw[q] at h;exact(B0h h).rec (motive:=λc k _=>k=1->SS P E env (.Return none s.pos) (.ret c)) (λ_=>ss_ret0) (λe=>nomatch e) (λ_ e=>nomatch e) rfl
   |cons x r=>rw[q] at h;exact ss_ret (X e x h).sx
 ·exact λc t f ih1 ih2 s h=>ss_if (X c _ (aL h)).st (ih1 _ (aL (aR h))) (ih2 _ (aR (aR h)))
 ·exact λc b ih s h=>ss_whl V (X c _ (aL h)).st (ih _ (aR h))
 ·exact λis u it b ih s h=>ss_for V (targ_at (aL h)) ((fine it _).fs env) (X it _ (aL (aR h))).sx (ih _ (aR (aR h)))
 ·exact λo m a s h=>ss_raise Fa Ia Rg Po (λ_=>A0x (nB (aL h))) (aL (aR h)) (A4a [m,a] [_,_]) (X o _ (aL (aR (aR h)))).sx (A2q (fine m _).st (X m _ (aL (aR (aR (aR h))))).sx (A2q (fine a _).st (X a _ (aR (aR (aR (aR h))))).sx A7k))
 ·exact λs h=>ss_abort
 ·exact λs h=>ss_cont
 ·exact λb x y ih s h=>h0_at.rec λp1 p2 p3 p4 p5 p6 e=>by
   show SS P E env (.Try (dL b (kb s 0)) H0 [] [] s.pos) (.tryAt b x y)
   rw[e]
   exact ss_try Fa Rg.xg V (aL h) (nB (aL (aR h))) (by decide) (eq_of_beq (aL (aR (aR h)))) (eq_of_beq (aL (aR (aR (aR h))))) (λz=>Bn.mp (nB (aL (aR (aR (aR (aR h)))))) (z▸Nat.beq_refl x)) (ih _ (aR (aR (aR (aR (aR h))))))
 ·exact λss h=>sl_nil
 ·exact λc r ih1 ih2 ss h=>sl_cons (ih1 _ (aL h)) (ih2 _ (aR h))
end
theorem A7f{ps:List Str}:∀{vs:List Value} {i:Nat} {p:Str},ps.Nodup->ps[i]?=some p->(ps.zip vs).lookup p=vs[i]?:=by
 induction ps with
 |nil=>exact λ_ e=>A0a e
 |cons q ps ih=>
  intro vs i p hn e
  have hn:=List.nodup_cons.mp hn
  cases vs with
  |nil=>rfl
  |cons v vs=>
   rw[List.zip_cons_cons,A1f]
   cases i with
   |zero=>cases e;rw[beq_self_eq_true];rfl
   |succ i=>
    cases z:p==q with
    |true=>exact absurd (eq_of_beq z▸C1 e) hn.1
    |false=>exact ih hn.2 e
noncomputable def B0p(sl:List (Str×Value)):List (Str×Value)->List (Str×Value)
 |[]=>sl
 |x::l=>if(List.lookup x.fst sl).isNone=true then B0p (sl++[(x.fst,x.snd)]) l else B0p sl l
theorem zip_snoc{ps:List Str}:∀{vs:List Value} {p:Str} {d:Value},ps[vs.length]?=some p->ps.zip (vs++[d])=ps.zip vs++[(p,d)]:=by
 induction ps with
 |nil=>exact λe=>A0a e
 |cons q ps ih=>
  intro vs p d e
  cases vs with
  |nil=>cases e;cases ps <;> rfl
  |cons v vs=>exact congrArg _ (ih e)
theorem fill_ok{ps:List Str}(hn:ps.Nodup):∀(dcs vals:List Value) (lo:Nat),lo<=vals.length->lo+dcs.length=ps.length->B0p (ps.zip vals) ((ps.drop lo).zip dcs)=ps.zip (vals++dcs.drop (vals.length-lo)):=by
 intro dcs
 induction dcs with
 |nil=>intro vals lo _ _;rw[List.zip_nil_right,List.drop_nil,A6];rfl
 |cons d dcs ih=>
  intro vals lo h e
  have hlt:lo<ps.length:=e▸B5 (Ar _)
  have hp:=B4 hlt
  have e:lo+1+dcs.length=ps.length:=(Bj lo 1 _).trans e
  rw[List.drop_eq_getElem_cons hlt,List.zip_cons_cons,B0p,A7f hn hp]
  cases q:vals[lo]? with
  |some v=>
   have hv:=(Bm.mp q).1
   rw[if_neg (λz=>nomatch z),ih vals (lo+1) hv e,←Cw (Nat.sub_pos_of_lt hv)];rfl
  |none=>
   have hv:lo=vals.length:=Nat.le_antisymm h (List.getElem?_eq_none_iff.mp q)
   subst hv
   rw[if_pos (show(none:Option Value).isNone=true from rfl),←zip_snoc hp,ih (vals++[d]) _ (by rw[Ae];exact Ac _) e,Nat.sub_self,show(vals++[d]).length- (vals.length+1)=0 from Nat.sub_eq_zero_of_le (Aj Ae),Ai];rfl
theorem look_all{L:List (Str×Value)}:∀{qs:List Str} {ws:List Value},(∀(i:Nat) (p:Str),qs[i]?=some p->L.lookup p=ws[i]?)->qs.length=ws.length->qs.filterMap (λn=>(L.lookup n).map (n,·))=qs.zip ws:=by
 intro qs
 induction qs with
 |nil=>exact λ_ _=>rfl
 |cons q qs ih=>
  intro ws h e
  cases ws with
  |nil=>cases e
  |cons w ws=>rw[List.filterMap_cons,h 0 q rfl,List.zip_cons_cons,←ih (λi p=>h (i+1) p) (Nat.succ.inj e)];rfl
theorem wp_no{α:Type}{M:Model}{A:Around}{E:Value->Shared->Prop}{Q:α->Shared->Prop}{s:Shared}{c:Prop}[Decidable c]{a b:Sem α}(h:¬c)(k:wpAny M A b Q E s):wpAny M A (if c then a else b) Q E s:=(if_neg h).symm▸k
theorem A9d{ps:List Str}{vals:List Value}{lo:Nat}(hn:ps.Nodup)(hlo:lo<=vals.length):(List.filter (λn=>(List.lookup n (ps.zip vals)).isNone) (ps.take lo))=[]:=List.filter_eq_nil_iff.mpr λn hm=>by
 obtain⟨i,hi⟩:=List.getElem?_of_mem hm
 have a:=Ap (Bm.mp hi).1 (List.length_take_le _ _)
 rw[List.getElem?_take,if_pos a] at hi
 rw[A7f hn hi,B4 (Ap a hlo)]
 exact λz=>nomatch z
theorem A5o{ps:List Str}{dcs:List Value}{lo:Nat}(hl:lo+dcs.length=ps.length):dcs.drop (dcs.length-ps.length)=dcs/\ps.length-dcs.length=lo:=
 ⟨by rw[Nat.sub_eq_zero_of_le (hl▸Bb _ _:dcs.length<=ps.length),List.drop_zero],Nat.sub_eq_of_eq_add hl.symm⟩
theorem miss{ps:List Str}{vals D dcs:List Value}{lo:Nat}(hn:ps.Nodup)(hlo:lo<=vals.length)(hl:lo+dcs.length=ps.length)(hr:D=dcs)
  (z:(!(List.filter (λn=>(List.lookup n (ps.zip vals)).isNone) (ps.take (ps.length- (D.drop (D.length-ps.length)).length))).isEmpty)=true):False:=by
 subst hr
 rw[(A5o hl).1,(A5o hl).2,A9d hn hlo] at z
 cases z
theorem B8e{M:Model}{A:Around}{E:Value->Shared->Prop}{s:Shared}:∀{l sl:List (Str×Value)} {Q':List (Str×Value)->Shared->Prop},Q' (B0p sl l) s->wpAny M A (forIn l sl λx sl=>if(List.lookup x.fst sl).isNone=true then pure (ForInStep.yield (sl++[(x.fst,x.snd)])) else pure (ForInStep.yield sl)) Q' E s:=by
 intro l
 induction l with
 |nil=>exact λh=>Ad h
 |cons x l ih=>
  intro sl Q' h
  rw[List.forIn_cons]
  unfold B0p at h
  split at h
  ·next c=>rw[if_pos c];exact Ab (Ad (ih h))
  ·next c=>rw[if_neg c];exact Ab (Ad (ih h))
theorem fill_end{ps:List Str}{vals dcs:List Value}{lo:Nat}(hn:ps.Nodup)(hlo:lo<=vals.length)(hle:vals.length<=ps.length)(hl:lo+dcs.length=ps.length){D:List Value}(hr:D=dcs):
  (ps++[]).filterMap (λn=>((B0p (ps.zip vals) ((ps.drop (ps.length- (D.drop (D.length-ps.length)).length)).zip (D.drop (D.length-ps.length)))).lookup n).map (n,·))=ps.zip (vals++dcs.drop (vals.length-lo)):=by
 subst hr
 rw[(A5o hl).1,(A5o hl).2,fill_ok hn D vals lo hlo hl,A6]
 exact look_all (λi p=>A7f hn) (by rw[Ae,List.length_drop];omega)
theorem B0x{s:Shared}{fd:FuncData}{vals dcs:List Value}{lo:Nat}(h1:fd.params.posonlyargs=[])(h2:fd.params.kwonlyargs=[])(h3:fd.params.vararg=none)(h4:fd.params.kwarg=none)(hn:(fd.params.args.map (·.arg)).Nodup)
  (hd:∀(M:Model) (A:Around) (E:Value->Shared->Prop) (Q:Option (Array Value)->Shared->Prop),(∀r,(r.getD #[]).toList=dcs->Q r s)->wpAny M A (seqItems? fd.defaults) Q E s) (hlo:lo<=vals.length) (hle:vals.length<=(fd.params.args.map (·.arg)).length) (hl:lo+dcs.length=(fd.params.args.map (·.arg)).length):
  BindsTo s fd ⟨vals,[]⟩ ((fd.params.args.map (·.arg)).zip (vals++dcs.drop (vals.length-lo))):=λM A E Q hq=>by
 obtain⟨_,_,⟨po,ar,va,kwo,kwd,kwa,df⟩⟩:=fd
 cases h1;cases h2;cases h3;cases h4
 refine Ab (Ad (Ab (hd M A E _ λr hr=>wp_no (λz=> ?_) (wp_no (λz=> ?_) (Ab (B8e (Ab (Ad (Ad ?_)))))))))
 ·exact Nat.not_lt.mpr hle (Ba (Aq.mp z).1)
 ·exact miss (ps:=ar.map λx:Arg=>x.arg) hn hlo hl hr z
 ·exact(fill_end (ps:=ar.map λx:Arg=>x.arg) hn hlo hle hl hr).symm▸hq
noncomputable def caT:List Nat:=[46,82,95,222,428,463,477,489,515,548,560,572,605,617,629,641,667,728,873]
noncomputable def faT:List Nat:=[36,43,57,112,119,127,134,141,148,155,177,205,212,219,276,303,311,321,331,369,390,425,439,460,505,512,531,545,588,602,657,664,676,683,690,704,725,739,746,760,774,781,788,795,802,809,816,823,830,835,842,849,856,863,870,885,893,900,907,914,921,928,935,940,947,954,961,966,973,980,987,994,1001,1006,1013,1020,1025,1032,1039,1046,1053,1060,1067,72,767]
noncomputable def wantT:List Nat:=[3,0,2,46,82,95,222,428,463,477,489,515,548,560,572,605,617,629,641,667,728,873,45,81,94,221,427,462,476,488,514,547,559,571,604,616,628,640,666,727,872,305,313,323,333,588,36,43,57,112,119,127,134,141,148,155,177,205,212,219,276,303,311,321,331,369,390,425,439,460,505,512,531,545,602,657,664,676,683,690,704,725,739,746,760,774,781,788,795,802,809,816,823,830,835,842,849,856,863,870,885,893,900,907,914,921,928,935,940,947,954,961,966,973,980,987,994,1001,1006,1013,1020,1025,1032,1039,1046,1053,1060,1067,72,767,22,227,230,232,236,238,240,243,246,251,255,258,260,262,228,229,231,233,234,235,237,239,241,242,244,245,247,248,249,250,252,253,254,256,257,259,261,35,42,56,111,105,118,126,120,133,140,147,154,176,204,211,218,275,302,310,320,330,368,389,424,438,459,504,511,530,544,587,601,656,663,675,682,689,703,724,738,745,759,773,780,787,794,801,808,815,822,829,834,841,848,855,862,869,884,878,892,886,899,906,913,920,927,934,939,946,953,960,965,972,979,986,993,1000,1005,1012,1019,1024,1031,1038,1045,1052,1059,1066,71,65,766]
noncomputable abbrev cA(c:Nat):Addr:=caT.getD c 0
noncomputable abbrev fA(f:Nat):Addr:=faT.getD f 0
noncomputable def kof(h:Heap)(l:List Addr):Frag:=l.filterMap λa=>(h.get? a).map λo=>(a,o)
theorem kof_in{h:Heap}{a:Addr}{o:Obj}:∀{l:List Addr},(kof h l).lookup a=some o->h.get? a=some o:=by
 intro l
 induction l with
 |nil=>exact λe=>A0a e
 |cons b l ih=>
  unfold kof
  rw[List.filterMap_cons]
  cases q:h.get? b with
  |none=>exact ih
  |some ob=>
   show List.lookup a ((b,ob)::kof h l)=some o->_
   rw[List.lookup_cons]
   cases c:a==b with
   |true=>exact λe=>eq_of_beq c▸q.trans e
   |false=>exact ih
noncomputable def kO(h:Heap):Frag:=kof h wantT
theorem kO_in{h:Heap}:(kO h).In h:=λ_ _ e=>kof_in e
noncomputable def cxOf(w:World)(K:Frag)(os:OsState):Cx:=⟨w,K,os,fA,cA⟩
noncomputable def dSeq:Data->Option (List Value×Nat)
 |.seq vs n=>some (vs.toList,n)
 |_=>none
noncomputable def dDict:Data->Option (List DictEntry×Nat)
 |.dict es n=>some (es.toList,n)
 |_=>none
noncomputable def dFunc:Data->Option FuncData
 |.func fd=>some fd
 |_=>none
theorem B8q{d:Data}{q:List Value×Nat}(h:dSeq d=some q):d=.seq (List.toArray q.1) q.2:=by cases d <;> first | exact A0a h | (cases h;rfl)
theorem B2t{d:Data}{q:List DictEntry×Nat}(h:dDict d=some q):d=.dict (List.toArray q.1) q.2:=by cases d <;> first | exact A0a h | (cases h;rfl)
theorem dFunc_at{d:Data}{q:FuncData}(h:dFunc d=some q):d=.func q:=by cases d <;> first | exact A0a h | (cases h;rfl)
noncomputable def oA{α:Type}(o:Option α)(f:α->Bool):Bool:=match o with | some x=>f x | none=>false
inductive OA{α:Type}(o:Option α)(f:α->Bool):Prop
 |mk (x:α) (h:o=some x) (b:f x=true)
theorem A2c{α:Type}{o:Option α}{f:α->Bool}(h:oA o f=true):OA o f:=by
 cases o with
 |none=>cases h
 |some x=>exact⟨x,rfl,h⟩
noncomputable def vStr:Value->Option Str
 |.str x _=>some x
 |_=>none
noncomputable def vInt:Value->Option Int
 |.int i _=>some i
 |_=>none
noncomputable def vRef:Value->Option Addr
 |.ref a=>some a
 |_=>none
theorem B5c{v:Value}{x:Str}(h:vStr v=some x):∃t,v=.str x t:=by cases v <;> first | exact A0a h | (cases h;exact⟨_,rfl⟩)
theorem vInt_at{v:Value}{x:Int}(h:vInt v=some x):∃t,v=.int x t:=by cases v <;> first | exact A0a h | (cases h;exact⟨_,rfl⟩)
theorem A9y{v:Value}{x:Addr}(h:vRef v=some x):v=.ref x:=by cases v <;> first | exact A0a h | (cases h;rfl)
section
variable(K:Frag)
mutual
noncomputable def vB:AVal->Value->Bool
 |.none,v=>v==.none
 |.int i,v=>oA (vInt v) λj=>j==i
 |.str s,v=>Nat.ble s.length sizeLine&&oA (vStr v) λx=>x==⟨s.toArray⟩
 |.tup xs,v=>Nat.ble xs.length sizeLine&&oA (vRef v) λa=>oA (K.lookup a) λo=>(o.cls==.type "tuple")&&oA (dSeq o.data) λq=>vsB xs q.1
 |_,_=>false
noncomputable def vsB:List AVal->List Value->Bool
 |[],vs=>vs.isEmpty
 |x::xs,vs=>(match vs with | []=>false | v::r=>vB x v&&vsB xs r)
end
noncomputable def keysB:List (List Nat)->List DictEntry->Bool
 |[],es=>es.isEmpty
 |k::ks,es=>(match es with | []=>false | e::es=>oA (vStr e.key) (λx=>x==⟨k.toArray⟩)&&keysB ks es)
noncomputable def tabB(a:Addr)(ks:List (List Nat))(xs:List AVal):Bool:=oA (K.lookup a) λo=>(o.cls==.type "dict")&& (o.dict.isNone&& (o.slots.toList.isEmpty&&oA (dDict o.data) λq=>keysB ks q.1&&vsB K xs (q.1.map (·.val))))
noncomputable def B3z(a:Addr):List Int:=match K.lookup a with | some o=>(match dDict o.data with | some q=>q.1.map (·.hash) | none=> []) | none=> []
noncomputable def topB(x:Str)(v:Value):Bool:=nsIn K mainGlobals x==some (some v)
noncomputable def globB(g:Nat):Bool:=Nat.beq g 4|| (Nat.beq g 6||oA (nsIn K mainGlobals (gNm g)) λv=>oA v λv=>vB K (gval g) v)
noncomputable def fI(C:Addr)(x:Str)(v:Option Value):Bool:=findIn K (.ref C) x==some v
noncomputable def nmB(C:Addr):Option (List Nat)->Bool
 |none=>true
 |some x=>Nat.ble x.length sizeLine&&oA (findIn K (.ref C) (aNm 16)) λv=>oA v λv=>oA (vStr v) λs=>s==⟨x.toArray⟩
noncomputable def inV(c:Nat):Value:=match A5e c with | some f=>.ref (fA f) | none=>.builtin "object.__init__"
noncomputable def clsB(c:Nat):Bool:= !usable c|| (oA (clsIn K (cA c)) (·.hasDict)&& (fI K (cA c) "__getattribute__" (some (.builtin "object.__getattribute__"))&& (fI K (cA c) "__getattr__" none&& (fI K (cA c) "__setattr__" (some (.builtin "object.__setattr__"))&&
 (plainOver K (cA c)&& (makesIn K (cA c)&& (keepIn K (.ref (cA c))&& ((A0r c).all (λa=>fI K (cA c) (aNm a) none)&& (nmB K (cA c) (A6h c)&&
 ((mTab.getD c []).all (λp=>Nat.ble (p.1+1) 55&&fI K (cA c) (aNm p.1) (some (.ref (fA p.2))))&&fI K (cA c) "__init__" (some (inV c))))))))))))
noncomputable def biB(x:Str)(v:Value):Bool:=(nsIn K mainGlobals x==some none)&& (nsIn K builtinsNs x==some (some v))
noncomputable def biC(b:Bi):Bool:=biB K (biNm b) (biV b)
noncomputable def bisB:Bool:=biC K .len&& (biC K .ord&& (biC K .chr&& (biC K .int1&& (biC K .int16&& (biC K .str&& (biC K .abs&& (biC K .min&& (biC K .max&& (biC K .range1&& (biC K .range2&& (biC K .list&& (biC K .tuple&& (biC K .sorted)))))))))))))
noncomputable def fnB(i:Nat):Bool:=isFn K (.ref (fA i))&& (keepIn K (.ref (fA i))&& ((typeIn K (.ref (fA i))==some (.type "function"))&& ((fCl i).isSome|| (Nat.ble 83 i||topB K (fNm i) (.ref (fA i))))))
noncomputable def cfB(c:Nat)(v:Value):CFound->Bool
 |.val u=>u==v
 |.get g p obj tp=>(g==.builtin "staticmethod.__get__")&& ((obj==.none)&& ((tp==.ref (cA c))&&oA (vRef p) λp=>oA (recIn K p "staticmethod") λl=>l.head?==some v))
noncomputable def cmBM(k:Nat):Bool:=oA (fCl k) λc=>readsIn K (cA c) (.type "type")&& ((specialIn K (.ref (cA c)) "__getattribute__" ==some (some (.builtin "type.__getattribute__")))&&oA (findCls K (.ref (cA c)) (.type "type") (fNm k)) (cfB K c (.ref (fA k))))
noncomputable def limB:Bool:=oA (K.lookup cStatics) λo=>oA (dDict o.data) λq=>q.1.all (λe=>(vStr e.key).isSome)&& (nsFind (List.toArray q.1) "sys.recursionlimit").isNone
noncomputable def dflB(dv:List AVal)(v:Value):Bool:=match dv with
 |[]=>v==.none
 |_::_=>oA (vRef v) λT=>oA (K.lookup T) λo=>oA (dSeq o.data) λq=>vsB K dv q.1
noncomputable def fdB(i:Nat):Bool:=oA (K.lookup (fA i)) λo=>oA (dFunc o.data) λfd=>fd.closure.isEmpty&& ((fd.globals==mainGlobals)&& ((fd.builtins==builtinsNs)&& (codeIn K fd.code fd.qualname&&dflB K (dvT i) fd.defaults)))
noncomputable def xB:Bool:=oA (clsIn K (cA 2)) (·.hasDict)&& (fI K (cA 2) "__setattr__" (some (.builtin "object.__setattr__"))&& (fI K (cA 2) "__getattribute__" (some (.builtin "BaseException.__getattribute__"))&& (fI K (cA 2) "__getattr__" none&& (B0r K (cA 2)&& (A5l K (cA 2)&&
 (keepIn K (.ref (cA 2))&& ((typeIn K (.ref (cA 2))==some (.type "type"))&& (fI K (cA 2) (aNm 54) none&& (fI K (cA 2) (aNm 4) none&& (fI K (cA 2) "__init__" (some (.ref (fA 83)))&& (fI K (cA 18) "failed" (some (.ref (fA 84)))&&biB K "Exception" (.type "Exception"))))))))))))
noncomputable def chk:Bool:=(List.range 19).all (clsB K)&& ((List.range 15).all (globB K)&& (topB K (gNm 4) (.ref 22)&& (tabB K 22 A1u A3c&& (topB K (gNm 6) (.ref 227)&& (tabB K 227 (A9n.map (·.1)) (A9n.map λx=>B6a x.2)&&
 (bisB K&& ((List.range 85).all (fnB K)&& ((List.range 19).all (λc=>topB K (cNm c) (.ref (cA c)))&& (statics.all (cmBM K)&& (limB K&& (xB K&& (List.range 85).all (fdB K))))))))))))
noncomputable def trK(i:Nat):Option (Arguments×Scope×FuncBody):=match K.lookup (fA i) with | some o=>(match dFunc o.data with | some fd=>some (fd.params,fd.scope,fd.body) | none=>none) | none=>none
end
noncomputable def hsX(P:Params)(ks:List (List Nat)):List Int:=ks.map λk=>PyData.keyHash P ⟨k.toArray⟩
noncomputable def trX(i:Nat):Option (Arguments×Scope×FuncBody):=some ((trOf i).1,(trOf i).2.1,.stmts (trOf i).2.2)
abbrev Obs:=Bool×List Int×List Int×List (Option (Arguments×Scope×FuncBody))
noncomputable def obsK(K:Frag):Obs:=(chk K,B3z K 22,B3z K 227,(List.range 85).map (trK K))
noncomputable def obsP(P:Params):Obs:=(true,hsX P A1u,hsX P (A9n.map (·.1)),(List.range 85).map trX)
structure Seen(P:Params)(K:Frag):Prop where
 ck:chk K=true
 h4:B3z K 22=hsX P A1u
 h6:B3z K 227=hsX P (A9n.map (·.1))
 tr:(List.range 85).map (trK K)=(List.range 85).map trX
theorem seen_of{P:Params}{K:Frag}(h:obsK K=obsP P):Seen P K:=⟨congrArg (·.1) h,congrArg (·.2.1) h,congrArg (·.2.2.1) h,congrArg (·.2.2.2) h⟩
section
variable{w:World}{K:Frag}{os:OsState}{G:GM}
theorem rngM{n:Nat}{p:Nat->Bool}(h:(List.range n).all p=true){i:Nat}(hi:i<n):p i=true:=Av.mp h i (B3.mpr hi)
theorem B5v{v:Value}{s:List Nat}(h:oA (vStr v) (λx=>x==⟨s.toArray⟩)=true):∃t,v=.str ⟨s.toArray⟩ t:=(A2c h).rec λx h b=>(eq_of_beq b)▸B5c h
theorem v_rep{cx:Cx}(x:AVal):∀v,vB cx.K x v=true->VRep cx (KG cx) x v:=by
 refine AVal.rec (motive_1:=λx=>∀v,vB cx.K x v=true->VRep cx (KG cx) x v) (motive_2:=λxs=>∀vs,vsB cx.K xs vs=true->VReps cx (KG cx) xs vs) ?_ ?_ ?_ ?_ ?_ ?_ ?_ ?_ ?_ ?_ ?_ x
 ·exact λv h=>(eq_of_beq h).symm
 ·exact λb v h=>nomatch h
 ·exact λi v h=>(A2c h).rec λj e b=>(vInt_at e).elim λt e=>by cases e;cases eq_of_beq b;exact⟨t⟩
 ·exact λs v h=>(B5v (aR h)).elim λt e=>by cases e;exact⟨t,leB' (aL h)⟩
 ·exact λxs ih v h=>(A2c (aR h)).rec λa e b=>(A2c b).rec λo ho b=>(A2c (aR b)).rec λq hq b'=>by
   cases A9y e
   exact⟨q.1,⟨a,o,q.2,ho,eq_of_beq (aL b),B8q hq⟩,leB' (aL h),ih _ b'⟩
 ·exact λxs ih v h=>nomatch h
 ·exact λks xs ih v h=>nomatch h
 ·exact λlo hi v h=>nomatch h
 ·exact λc ns xs ih v h=>nomatch h
 ·exact λvs h=>List.isEmpty_iff.mp h
 ·exact λx xs ih1 ih2 vs h=>by
   cases vs with
   |nil=>cases h
   |cons v r=>exact⟨ih1 v (aL h),ih2 r (aR h)⟩
theorem vs_rep{cx:Cx}:∀{xs:List AVal} {vs:List Value},vsB cx.K xs vs=true->VReps cx (KG cx) xs vs:=by
 intro xs
 induction xs with
 |nil=>exact λh=>List.isEmpty_iff.mp h
 |cons x xs ih=>
  intro vs h
  cases vs with
  |nil=>cases h
  |cons v r=>exact⟨v_rep x v (aL h),ih (aR h)⟩
theorem keys_dk{P:Params}:∀{ks:List (List Nat)} {es:List DictEntry},keysB ks es=true->es.map (·.hash)=hsX P ks->DKey P ks es:=by
 intro ks
 induction ks with
 |nil=>intro es h _;cases List.isEmpty_iff.mp h;exact .nil
 |cons k ks ih=>
  intro es h e
  cases es with
  |nil=>cases h
  |cons x es=>exact(B5v (aL h)).elim λt q=>.cons ⟨t,q,(List.cons.inj e).1⟩ (ih (aR h) (List.cons.inj e).2)
theorem tab_at{a:Addr}{ks:List (List Nat)}{xs:List AVal}(h:tabB K a ks xs=true)(e:B3z K a=hsX w.params ks)(z:(a==sysModules)=false):VRep (cxOf w K os) (KG (cxOf w K os)) (.dict ks xs) (.ref a):=
 (A2c h).rec λo ho b=>(A2c (aR (aR (aR b)))).rec λq hq b'=>by
  obtain⟨c,d,dt,sl⟩:=o
  cases eq_of_beq (aL b)
  cases Option.isNone_iff_eq_none.mp (aL (aR b))
  cases B2t hq
  obtain⟨sl⟩:=sl
  cases List.isEmpty_iff.mp (aL (aR (aR b)))
  refine⟨q.1,⟨a,q.2,ho,z,keys_dk (aL b') (.trans ?_ e)⟩,vs_rep (cx:=cxOf w K os) (aR b')⟩
  unfold B3z
  rw[ho];rfl
theorem B1h{x:Str}{v:Value}(h:topB K x v=true):A5j (cxOf w K os) x v:=.glob (eq_of_beq h)
theorem glob_at(S:Seen w.params K){g:Nat}(hg:g<15):GlobAt (cxOf w K os) (gNm g) g:=by
 have c:=aR S.ck
 have k:=rngM (aL c) hg
 unfold globB at k
 cases e4:Nat.beq g 4 with
 |true=>cases An e4;exact⟨_,B1h (aL (aR c)),tab_at (aL (aR (aR c))) S.h4 rfl⟩
 |false=>
  cases e6:Nat.beq g 6 with
  |true=>cases An e6;exact⟨_,B1h (aL (aR (aR (aR c)))),tab_at (aL (aR (aR (aR (aR c))))) S.h6 rfl⟩
  |false=>
   rw[e4,e6] at k
   exact(A2c (f:=λv=>oA v λv=>vB K (gval g) v) k).rec λo ho b=>(A2c b).rec λv hv b'=>⟨v,.glob (ho.trans (congrArg some hv)),v_rep (cx:=cxOf w K os) _ v b'⟩
theorem A4z{C:Addr}{x:Str}{v:Option Value}(h:fI K C x v=true):findIn K (.ref C) x=some v:=eq_of_beq h
theorem nm_at{c:Nat}{x:List Nat}(h:nmB K (cA c) (some x)=true):NmAt (cxOf w K os) c x:=
 (A2c (aR h)).rec λo ho b=>(A2c b).rec λv hv b'=>(B5v b').elim λt e=>⟨t,leB' (aL h),ho.trans (congrArg some (hv.trans (congrArg some e)))⟩
theorem cls_at(S:Seen w.params K){c:Nat}(hu:usable c=true):A8k (cxOf w K os) c:=by
 have hc:c<19:=B3.mp (A4.mp (Av.mp (by decide:[0,3,4,6,7,8,10,11,13,14,15,16,17,18].all (λc=>(List.range 19).contains c)=true) c (A4.mp hu)))
 have k:=rngM (aL S.ck) hc
 unfold clsB at k
 rw[hu] at k
 have k:(_&&_)=true:=k
 have k7:=aR (aR (aR (aR (aR (aR (aR k))))))
 refine⟨(A2c (aL k)).rec λcd h d=>⟨cd,h,d⟩,A4z (aL (aR k)),A4z (aL (aR (aR k))),A4z (aL (aR (aR (aR k)))),aL (aR (aR (aR (aR k)))),aL (aR (aR (aR (aR (aR k))))),aL (aR (aR (aR (aR (aR (aR k)))))),λa ha=>A4z (Av.mp (aL k7) a (A4.mp ha)),
  λx hx=>nm_at (hx▸aL (aR k7)),λm f hm=> ?_,?_⟩
 ·have q:=B9n (aL (aR (aR k7))) hm
  exact⟨leB' (aL q),A4z (aR q)⟩
 ·have q:=A4z (aR (aR (aR k7)))
  unfold inV at q
  revert q
  cases A5e c with
  |none=>exact λq=>q
  |some f=>exact λq=>q
theorem bi_at{x:Str}{v:Value}(h:biB K x v=true):A5j (cxOf w K os) x v:=.bi (eq_of_beq (aL h)) (eq_of_beq (aR h))
theorem lim_at(h:limB K=true){h':Heap}(X:K.In h'):h'.NoLimit:=
 (A2c h).rec λo ho b=>(A2c b).rec λq hq b=>⟨λname=>nsFind (List.toArray q.1) name,⟨o,List.toArray q.1,q.2,X _ _ ho,B2t hq,λe he=>
  (Option.isSome_iff_exists.mp (Av.mp (aL b) e (Array.mem_toList_iff.mpr he))).elim λx hx=>⟨x,B5c hx⟩,λ_=>rfl⟩,Option.isNone_iff_eq_none.mp (aR b)⟩
theorem cm_at{c f:Nat}(hc:fCl f=some c)(h:cmBM K f=true)(A:Around)(s:Shared)(Q:Value×List Value->Shared->Prop)(X:Value->Shared->Prop)(pl:Sem Bool)(hin:K.In s.heap)(hq:∀tk,Q (.ref (fA f),[]) {s with toks:=tk}):
  wpAny (model pw w) A (getMethod (.ref (cA c)) (fNm f) pl) Q X s:=by
 unfold cmBM at h
 rw[hc] at h
 have h:(_&&_)=true:=h
 refine method_cls (K:=K) hin (eq_of_beq (aL (aR h))) ((A2c (aR (aR h))).rec λy hy b=> ?_)
 cases y with
 |val u=>cases eq_of_beq b;exact cls_value (K:=K) hin (aL h) hy rfl (hq _)
 |get g p obj tp=>
  have b:(_&&_)=true:=b
  refine(A2c (aR (aR (aR b)))).rec λp' hp b'=>(A2c b').rec λl hl b'=> ?_
  cases eq_of_beq (aL b)
  cases eq_of_beq (aL (aR b))
  cases eq_of_beq (aL (aR (aR b)))
  cases A9y hp
  obtain⟨r,e⟩:=List.head?_eq_some_iff.mp (eq_of_beq b')
  exact cls_bind (K:=K) hin (aL h) hy (wpAny_call (sm_get (s:={s with toks:=s.toks+1}) hin (hl.trans (congrArg some e)) (handed_on rfl (hq _))))
theorem facts(S:Seen w.params K):Facts (cxOf w K os):=by
 have c:=aR (aR (aR (aR (aR (aR S.ck)))))
 have cb:bisB K=true:=aL c
 have fb:=λ{f:Nat} (hf:f<85)=>rngM (aL (aR c)) hf
 have f83:∀{f:Nat},f<83->f<85:=λh=>Nat.lt_trans h (by decide)
 refine⟨λg hg=>glob_at S hg,λc hu=>cls_at S hu,λf hf=>⟨aL (fb (f83 hf)),aL (aR (fb (f83 hf)))⟩,λf hf hn=> ?_,λc' hc=>B1h (rngM (aL (aR (aR c))) hc),λb=>bi_at ?_,λc' f hc hs A s Q X pl=>cm_at hc (Av.mp (aL (aR (aR (aR c)))) f (A4.mp hs)) A s Q X pl,λf hf=>eq_of_beq (aL (aR (aR (fb (f83 hf))))),λh X=>lim_at (aL (aR (aR (aR (aR c))))) X⟩
 ·have k:=aR (aR (aR (fb (f83 hf))))
  rw[hn,show Nat.ble 83 f=false from(A6j _ _).trans (decide_eq_false (B9 hf))] at k
  exact B1h k
 ·cases b
  ·exact aL cb
  ·exact aL (aR cb)
  ·exact aL (aR (aR cb))
  ·exact aL (aR (aR (aR cb)))
  ·exact aL (aR (aR (aR (aR cb))))
  ·exact aL (aR (aR (aR (aR (aR cb)))))
  ·exact aL (aR (aR (aR (aR (aR (aR cb))))))
  ·exact aL (aR (aR (aR (aR (aR (aR (aR cb)))))))
  ·exact aL (aR (aR (aR (aR (aR (aR (aR (aR cb))))))))
  ·exact aL (aR (aR (aR (aR (aR (aR (aR (aR (aR cb)))))))))
  ·exact aL (aR (aR (aR (aR (aR (aR (aR (aR (aR (aR cb))))))))))
  ·exact aL (aR (aR (aR (aR (aR (aR (aR (aR (aR (aR (aR cb)))))))))))
  ·exact aL (aR (aR (aR (aR (aR (aR (aR (aR (aR (aR (aR (aR cb))))))))))))
  ·exact aR (aR (aR (aR (aR (aR (aR (aR (aR (aR (aR (aR (aR cb))))))))))))
end
noncomputable def np'(i:Nat):Nat:=(trOf i).1.args.length
noncomputable def trB(i:Nat)(a:Arguments)(sc:Scope):Bool:=a.posonlyargs.isEmpty&& (a.kwonlyargs.isEmpty&& (a.vararg.isNone&& (a.kwarg.isNone&& (A3b (a.args.map (·.arg))&& (((A1c sc).take a.args.length==a.args.map (·.arg))&& (Nat.ble (dvT i).length a.args.length&&
 (!sc.isCoroutine&& (!sc.isGenerator&& ((sc.kind==.function)&& (A3b (sc.names.map (·.1))&&Nat.ble a.args.length (A1c sc).length))))))))))
theorem tr_ok:(List.range 85).all (λi=>trB i (trOf i).1 (trOf i).2.1)=true:=by kernel_rfl
noncomputable def okBM(i:Nat):Bool:=((A1c (trOf i).2.1).length==nlT.getD i 0)&& ((np' i==npT.getD i 0)&&okL (ceOf (trOf i).2.1) (bodies.getD i []) (trOf i).2.2)
theorem ok_ok:(List.range 83).all okBM=true:=by kernel_rfl
theorem B9h:(List.range 83).map (λi=>dL (bodies.getD i []) (trOf i).2.2)=(List.range 83).map (λi=>(trOf i).2.2):=by kernel_rfl
inductive Dfl(cx:Cx)(dv:List AVal)(v:Value):Prop
 |mk (dcs:List Value) (r:VReps cx (KG cx) dv dcs) (h:∀s:Shared,cx.K.In s.heap->∀(M:Model) (A:Around) (E:Value->Shared->Prop) (Q:Option (Array Value)->Shared->Prop),(∀r,(r.getD #[]).toList=dcs->Q r s)->wpAny M A (seqItems? v) Q E s)
inductive FnI(cx:Cx)(i:Nat):Prop
 |mk (dcs:List Value) (r:VReps cx (KG cx) (dvT i) dcs) (g:FnAt cx (cx.fa i) (trOf i).2.1 (trOf i).2.2 (np' i) (np' i- (dvT i).length) dcs)
section
variable{w:World}{K:Frag}{os:OsState}
theorem dfl_at{dv:List AVal}{v:Value}(h:dflB K dv v=true):Dfl (cxOf w K os) dv v:=by
 cases dv with
 |nil=>cases eq_of_beq h;exact⟨[],rfl,λs _ M A E Q k=>Ad (k none rfl)⟩
 |cons d dv=>
  exact(A2c h).rec λT hT b=>(A2c b).rec λo ho b=>(A2c b).rec λq hq b=>by
   cases A9y hT
   exact⟨q.1,vs_rep (cx:=cxOf w K os) b,λs X M A E Q k=>wpAny_seqItems (X _ _ ho) (B8q hq) (k _ rfl)⟩
theorem fn_at(S:Seen w.params K){i:Nat}(hi:i<85):FnI (cxOf w K os) i:=by
 have t:=rngM tr_ok hi
 have t7:=aR (aR (aR (aR (aR (aR (aR t))))))
 have e:=List.map_inj_left.mp S.tr i (B3.mpr hi)
 refine(A2c (rngM (aR (aR (aR (aR (aR (aR (aR (aR (aR (aR (aR (aR S.ck)))))))))))) hi)).rec λo ho b=>(A2c b).rec λfd hf b=> ?_
 unfold trK at e
 rw[ho] at e
 change (match dFunc o.data with | some fd=>some (fd.params,fd.scope,fd.body) | none=>none)=trX i at e
 rw[hf] at e
 have e:=Option.some.inj e
 have e1:fd.params=(trOf i).1:=congrArg (·.1) e
 have e2:fd.scope=(trOf i).2.1:=congrArg (·.2.1) e
 have e3:fd.body=.stmts (trOf i).2.2:=congrArg (·.2.2) e
 refine(dfl_at (w:=w) (os:=os) (aR (aR (aR (aR b))))).rec λdcs r k=> ?_
 have l1:dcs.length=(dvT i).length:=r.all.length
 have l2:np' i- (dvT i).length+dcs.length=(fd.params.args.map (·.arg)).length:=by rw[e1,Aw,l1];exact Cw (leB' (aL (aR (aR (aR (aR (aR (aR t))))))))
 refine⟨dcs,r,⟨⟨o,fd,ho,dFunc_at hf,e2,List.isEmpty_iff.mp (aL b),e3,eq_of_beq (aL (aR b)),eq_of_beq (aL (aR (aR b))),λh X=>codeRec_of (K:=K) X (aL (aR (aR (aR b)))),λs vals X h1 h2=> ?_⟩,nB (aL t7),nB (aL (aR t7)),eq_of_beq (aL (aR (aR t7))),aL (aR (aR (aR t7))),leB' (aR (aR (aR (aR t7)))),(congrArg (np' i- (dvT i).length+ ·) l1).trans (Cw (leB' (aL (aR (aR (aR (aR (aR (aR t)))))))))⟩⟩
 have e4:(A1c fd.scope).take (np' i)=fd.params.args.map (·.arg):=by rw[e1,e2];exact eq_of_beq (aL (aR (aR (aR (aR (aR t))))))
 rw[e4]
 exact B0x (e1▸List.isEmpty_iff.mp (aL t)) (e1▸List.isEmpty_iff.mp (aL (aR t))) (e1▸Option.isNone_iff_eq_none.mp (aL (aR (aR t)))) (e1▸Option.isNone_iff_eq_none.mp (aL (aR (aR (aR t))))) (e1▸A4u.mp (aL (aR (aR (aR (aR t)))))) (k s X) h1 (by rw[e1,Aw];exact h2) l2
inductive TETree:Prop
 |mk (pe pa ps pw pc px p1 p2 p3 p4 p5 p6 p7 p8:Pos) (e:(trOf 83).2.2=
  [.Expr (.Call (.Attribute (.Name "Exception" pe) "__init__" pa) [.Name "self" ps,.Name "what" pw] [] pc) px,.Assign [.Attribute (.Name "self" p1) (aNm 54) p2] (.Name "what" p3) p4,.Assign [.Attribute (.Name "self" p5) (aNm 4) p6] (.Name "at" p7) p8])
  (hline:(pa.endLine==pc.line)=true)
theorem te_tree:TETree:=⟨_,_,_,_,_,_,_,_,_,_,_,_,_,_,rfl,by kernel_rfl⟩
inductive FLTree:Prop
 |mk (q1 q2 q3 q4 q5 q6 q7 q8 q9 q10:Pos) (e:(trOf 84).2.2=
  [.Return (some (.Call (.Name "RegexError" q1) [.Name "what" q2,.Call (.Name "position_of" q3) [.Attribute (.Attribute (.Name "self" q4) (aNm 29) q5) (aNm 3) q6,.Name "at" q7] [] q8] [] q9)) q10])
theorem fl_tree:FLTree:=⟨_,_,_,_,_,_,_,_,_,_,rfl⟩
theorem B5b:((((ceOf (trOf 83).2.1).var "self" ==some 0)&& (((ceOf (trOf 83).2.1).var "what" ==some 1)&& (((ceOf (trOf 83).2.1).var "at" ==some 2)&& (ceOf (trOf 83).2.1).globs.contains "Exception")))&&
 (((ceOf (trOf 84).2.1).var "self" ==some 0)&& (((ceOf (trOf 84).2.1).var "what" ==some 1)&& (((ceOf (trOf 84).2.1).var "at" ==some 2)&& ((ceOf (trOf 84).2.1).globs.contains "RegexError" && (ceOf (trOf 84).2.1).globs.contains "position_of")))))=true:=by kernel_rfl
theorem r_good(S:Seen w.params K):RGood (cxOf w K os):=by
 have k:xB K=true:=aL (aR (aR (aR (aR (aR (aR (aR (aR (aR (aR (aR S.ck)))))))))))
 have fb:=λ{f:Nat} (hf:f<85)=>rngM (aL (aR (aR (aR (aR (aR (aR (aR S.ck)))))))) hf
 have v1:=aL B5b
 have v2:=aR B5b
 have k6:=aR (aR (aR (aR (aR (aR k)))))
 have k10:=aR (aR (aR (aR k6)))
 refine⟨⟨(A2c (aL k)).rec λcd h d=>⟨cd,h,d⟩,A4z (aL (aR k)),A4z (aL (aR (aR k))),A4z (aL (aR (aR (aR k)))),aL (aR (aR (aR (aR k)))),aL (aR (aR (aR (aR (aR k))))),aL k6,eq_of_beq (aL (aR k6)),A4z (aL (aR (aR k6))),A4z (aL (aR (aR (aR k6))))⟩,
  ⟨fA 83,A4z (aL k10),eq_of_beq (aL (aR (aR (fb (f:=83) (by decide))))),aL (aR (fb (f:=83) (by decide))),?_⟩,⟨fA 84,A4z (aL (aR k10)),eq_of_beq (aL (aR (aR (fb (f:=84) (by decide))))),aL (aR (fb (f:=84) (by decide))),?_⟩⟩
 ·refine(fn_at (os:=os) S (i:=83) (by decide)).rec λdcs r g=>te_tree.rec λpe pa ps pw pc px p1 p2 p3 p4 p5 p6 p7 p8 e hl=> ?_
  rw[e] at g
  have hd:dcs=[.none]:=by
   cases dcs with
   |nil=>exact r.elim
   |cons v r'=>exact(congrArg (· ::r') r.1.symm).trans (congrArg (Value.none:: ·) r.2)
  exact⟨_,pe,pa,ps,pw,pc,px,p1,p2,p3,p4,p5,p6,p7,p8,hd▸g,hl,eq_of_beq (aL v1),eq_of_beq (aL (aR v1)),eq_of_beq (aL (aR (aR v1))),aR (aR (aR v1)),bi_at (aR (aR k10))⟩
 ·refine(fn_at (os:=os) S (i:=84) (by decide)).rec λdcs r g=>fl_tree.rec λq1 q2 q3 q4 q5 q6 q7 q8 q9 q10 e=> ?_
  rw[e] at g
  exact⟨_,q1,q2,q3,q4,q5,q6,q7,q8,q9,q10,(r:dcs=[])▸g,eq_of_beq (aL v2),eq_of_beq (aL (aR v2)),eq_of_beq (aL (aR (aR v2))),aL (aR (aR (aR v2))),aR (aR (aR (aR v2)))⟩
theorem fn_good(S:Seen w.params K)(So:A1z (cxOf w K os))(Po:B1c){i:Nat}(hi:i<83):FnOK (cxOf w K os) i:=by
 have k:=rngM ok_ok hi
 have e:=List.map_inj_left.mp B9h i (B3.mpr hi)
 refine(fn_at (os:=os) S (Nat.lt_trans hi (by decide))).rec λdcs r g=> ?_
 rw[eq_of_beq (aL (aR k))] at g
 refine⟨_,_,dcs,g,eq_of_beq (aL k),r,λP env outer hP Ia V=> ?_⟩
 have h:=s_ok (P:=P) (hP▸facts S) (hP▸So) (hP▸Ia) (hP▸r_good S) Po V (bodies.getD i []) _ (aR (aR k))
 exact(show dL (bodies.getD i []) (trOf i).2.2=(trOf i).2.2 from e)▸h
theorem all_ok(S:Seen w.params K)(So:A1z (cxOf w K os))(Po:B1c)(n:Nat):OKn (cxOf w K os) n:=ok_all (facts S) (λ_ hf=>fn_good S So Po hf) n n (Ac n)
end
section
set_option maxHeartbeats 0
noncomputable def A5s(so:Nat->Option Value->Thread->Bool)(st:SharedT->Thread->Option (SharedT×Thread))(n₀:Nat)(ann:Option Value):Nat->SharedT->Thread->Option SharedT
 |0,_,_=>none
 |n+1,s,t=>match through t with
  |true=>some s
  |false=>match so n₀ ann t with
   |false=>none
   |true=>match st s t with
    |some (s',t')=>A5s so st n₀ ann n s' t'
    |none=>none
theorem A6s{p:Program}{w:World}{n₀:Nat}{ann:Option Value}:∀{n:Nat} {s s':SharedT} {t:Thread},
  A5s stepOk (stepT (denote treeTable) p w) n₀ ann n s t=some s'->topRun treeTable p w n₀ ann n s.abs t=some s'.abs
 |0,_,_,_,h=>by cases h
 |n+1,s,s',t,h=>by
  unfold A5s at h
  unfold topRun
  cases he:through t with
  |true=>rw[he] at h;cases h;rfl
  |false=>
   rw[he] at h
   cases hk:stepOk n₀ ann t with
   |false=>rw[hk] at h;cases h
   |true=>
    rw[hk] at h
    cases hs:stepT (denote treeTable) p w s t with
    |none=>rw[hs] at h;cases h
    |some r=>obtain⟨s₂,t₂⟩:=r;rw[hs] at h;rw[stepT_spec hs];exact A6s h
noncomputable def stQ(w:World):SharedT->Thread->Option (SharedT×Thread):=Fast.tw10156331382660048174 (Fast.tw11892475500146522536 Fast.tw14364793385576792824) pw w
theorem stQ_eq(w:World):stQ w=stepT (denote treeTable) pw w:=by
 unfold stQ
 rw[←Fast.te10156331382660048174,←Fast.te11892475500146522536,←Fast.te14364793385576792824]
noncomputable abbrev soQ:Nat->Option Value->Thread->Bool:=Fast.tw6613529449190102663
theorem soQ_eq:soQ=stepOk:=Fast.te6613529449190102663.symm
noncomputable def T0(P:Params):BT:=((((((((((BT.nil.ins 0 (boot_o_0 P)).ins 1 (boot_o_1 P)).ins 2 (boot_o_2 P)).ins 3 (boot_o_3 P)).ins 4 (boot_o_4 P)).ins 5 (boot_o_5 P)).ins 6 (boot_o_6 P)).ins 7 (boot_o_7 P)).ins 8 (boot_o_8 P)).ins 9 (boot_o_9 P)).ins 10 (boot_o_10 P)
noncomputable def S0(w:World)(os:OsState):SharedT:=⟨T0 w.params,11,(boot_heap w.params).life,#[],boot_drawn,boot_toks,os⟩
theorem S0_abs(w:World)(os:OsState):(S0 w os).abs=⟨boot_heap w.params,#[],boot_drawn,boot_toks,os⟩:=by kernel_rfl
abbrev rowN:String:= "special-get-raises"
noncomputable def RunT(w:World)(os:OsState)(n:Nat):Option SharedT:=A5s soQ (stQ w) 11 (some (.ref 6)) n (S0 w os) (topStub pw)
end
section
set_option maxHeartbeats 0
theorem said:PySem.Challenge.rw_nn0398_01.wellSaid=true:=by
 unfold OpenLaw.wellSaid OpenRow.wellSaid OpenRow.partSaid looksOpen
 rw[Fast.te11788848310118352699,Fast.te9807087744658564304,Fast.te12862048085361865435,Fast.te8377067652309620493,Fast.te18344453789297297638,
  Fast.te14412699480532031325,Fast.te8326940854005059898,Fast.te5923862056798008813,Fast.te17691160309236699985,Fast.te13343964577679436407,Fast.te17119622794617984870,Fast.te17868728402115742887,
  Fast.te12749700546528644094,Fast.te10501279942588096481,Fast.te8179353310426384613,Fast.te797321630700447069,Fast.te9572597257264208301,Fast.te9558739934217749035,Fast.te16286561074155671207,
  Fast.named_eq,Fast.te6984425678791042302,Fast.te12879404354523853263,Fast.te482687673346738481,Fast.sDec_eq]
 repeat' (with_reducible refine look_both ?_ ?_)
 all_goals (as_aux_lemma=>kernel_rfl)
end
section
set_option maxHeartbeats 0
abbrev rw0:=PySem.Challenge.rw_nn0398_01
def q:Program:={pw with main:={pw.main with body:=pw.main.body.drop 76}}
def loose:List Str:=pw.boundNames.filter λn=>n != "law"
def Xt(s:Shared):Bool:=xlAt q [] s&&recOk (RowW.records rw0.row.toRowW) s
def pickT(t:BT)(n a:Nat):Option (Addr×Obj):=match Nat.blt a n with
 |true=>(match((t.get a).getD default).isFreed with
  |true=>none
  |false=>some (a,(t.get a).getD default))
 |false=>none
noncomputable def kT(t:BT)(n:Nat):Frag:=wantT.filterMap (pickT t n)
theorem kT_eq(t:BT)(n:Nat)(life:Life):kT t n=kO (absHeap t n life):=by
 unfold kT kO kof
 congr 1
 funext a
 unfold pickT
 have hb:Nat.blt a n=decide (a<n):=by
  cases q:Nat.blt a n with
  |true=>have h1:Nat.ble (a+1) n=true:=q;have:=nbl h1;exact(A8 this).symm
  |false=>
   refine(decide_eq_false λh=> ?_).symm
   have h1:Nat.ble (a+1) n=true:=Nat.ble_eq_true_of_le h
   have h2:Nat.ble (a+1) n=false:=q
   rw[h1] at h2;cases h2
 rw[hb]
 by_cases h:a<n
 ·rw[A8 h]
  dsimp only
  cases q:((t.get a).getD default).isFreed with
  |false=>
   have:(absHeap t n life).get? a=some ((t.get a).getD default):=Heap.get?_some_iff.mpr ⟨by rw[absHeap_at,if_pos h],q⟩
   rw[this];rfl
  |true=>
   cases q2:(absHeap t n life).get? a with
   |none=>rfl
   |some o=>
    obtain⟨h1,h2⟩:=Heap.get?_some_iff.mp q2
    rw[absHeap_at,if_pos h] at h1
    cases h1
    rw[q] at h2;cases h2
 ·rw[decide_eq_false h]
  cases q2:(absHeap t n life).get? a with
  |none=>rfl
  |some o=>
   obtain⟨h1,h2⟩:=Heap.get?_some_iff.mp q2
   rw[absHeap_at,if_neg h] at h1
   cases h1
end
section
set_option maxHeartbeats 0
noncomputable def ObsT(w:World)(s:SharedT):=((staticsOk (importedModules pw.main.body) (boot_heap w.params) s.abs.heap&&namesBound pw s.abs.heap&&gensDone s.abs&&laidKept (boot_heap w.params) s.abs.heap),openSeen q loose (importedModules pw.main.body) Xt true s.abs)
noncomputable def ObsK(s:SharedT):Obs:=obsK (kT s.tree s.n)
theorem B6v{α β γ:Type}{o:Option α}{f:α->β}{g:α->γ}{x:β}{y:γ}(h1:o.map f=some x)(h2:o.map g=some y):o.map (λs=>(f s,g s))=some (x,y):=by
 cases o with
 |none=>cases h1
 |some s=>cases h1;cases h2;rfl
theorem run_f1(w:World)(os:OsState):(RunT (w.withFollow rowN false) os 9100).map (ObsT w)=some (true,openGood q loose):=by kernel_rfl
theorem run_f2(w:World)(os:OsState):(RunT (w.withFollow rowN false) os 9100).map ObsK=some (obsP w.params):=by kernel_rfl
theorem run_t1(w:World)(os:OsState):(RunT (w.withFollow rowN true) os 9100).map (ObsT w)=some (true,openGood q loose):=by kernel_rfl
theorem run_t2(w:World)(os:OsState):(RunT (w.withFollow rowN true) os 9100).map ObsK=some (obsP w.params):=by kernel_rfl
theorem run_f(w:World)(os:OsState):(RunT (w.withFollow rowN false) os 9100).map (λs=>(ObsT w s,ObsK s))=some ((true,openGood q loose),obsP w.params):=B6v (run_f1 w os) (run_f2 w os)
theorem run_t(w:World)(os:OsState):(RunT (w.withFollow rowN true) os 9100).map (λs=>(ObsT w s,ObsK s))=some ((true,openGood q loose),obsP w.params):=B6v (run_t1 w os) (run_t2 w os)
end
section
set_option maxHeartbeats 0
noncomputable def obsH(s:Shared):Obs:=obsK (kO s.heap)
noncomputable def obsX(w:World):Obs:=obsP w.params
theorem run(w:World)(os:OsState):(RunT w os 9100).map (λs=>(ObsT w s,ObsK s))=some ((true,openGood q loose),obsX w):=
 byRow2 rowN (P:=λw=>(RunT w os 9100).map (λs=>(ObsT w s,ObsK s))=some ((true,openGood q loose),obsX w)) (λw=>run_f w os) (λw=>run_t w os) w
theorem left:LeftO pw q loose Xt obsH obsX 9100:=λw=>by
 obtain⟨⟨h,gs,d,k,os⟩,e,e'⟩:=Option.map_eq_some_iff.mp (boot_open (p:=pw) (N:=9100) rfl rfl (λs=>rfl) w)
 obtain⟨rfl,rfl,rfl,rfl⟩:h=boot_heap w.params/\gs=Array.mk []/\d=boot_drawn/\k=boot_toks:=by simpa using e'
 obtain⟨s,hs,hl⟩:=Option.map_eq_some_iff.mp (run w os)
 obtain⟨l0,l3⟩:=Prod.mk.inj hl
 obtain⟨l1,l2⟩:=Prod.mk.inj l0
 have l4:obsH s.abs=obsX w:=by
  have:ObsK s=obsH s.abs:=by
   unfold ObsK obsH
   rw[kT_eq s.tree s.n s.life];rfl
  rw[←this];exact l3
 have hs':A5s stepOk (stepT (denote treeTable) pw w) 11 (some (.ref 6)) 9100 (S0 w os) (topStub pw)=some s:=by
  rw[←stQ_eq,←soQ_eq];exact hs
 have r:=A6s hs'
 rw[S0_abs] at r
 have z:((boot_heap w.params).isNs mainGlobals&& (Array.mk []:Array GenState).size==0,(boot_heap w.params).objs.size,(boot_heap w.params).nsMap mainGlobals "__annotations__")=(true,11,some (Value.ref 6)):=by kernel_rfl
 obtain⟨z1,z2,z3⟩:_/\_/\_:=by simpa only [Prod.mk.injEq] using z
 unfold openEnds
 rw[e]
 show((topFrom treeTable pw w 9100 _).map _)=_
 have t:topFrom treeTable pw w 9100 ⟨boot_heap w.params,Array.mk [],boot_drawn,boot_toks,os⟩=some s.abs:=by
  unfold topFrom
  dsimp only
  rw[z1,z2,z3]
  dsimp only
  rw[r]
  show(match staticsOk (importedModules pw.main.body) (boot_heap w.params) s.abs.heap&&namesBound pw s.abs.heap&&gensDone s.abs&&laidKept (boot_heap w.params) s.abs.heap with | true=>_ | false=>_)=_
  rw[l1]
 rw[t]
 exact congrArg some (Prod.ext l2 l4)
def d0:DefRec×List (Str×PySem.Expr):=({name:= "",params:=⟨[],[],none,[],[],none,[]⟩,body:=[],scope:=pw.main.scope,pos:=⟨0,0,0,0⟩},[])
def dk:DefRec×List (Str×PySem.Expr):=(defOf q rw0.row.name).getD d0
def SeenH(w:World)(h:Heap):Prop:=∃K:Frag,Seen w.params K/\K.In h
theorem head(call:WalkO q loose (XL q []) SeenH rw0.row.toRowW dk.1 dk.2 λf vs=>PySem.call f vs):rw0.Holds:=
 holds_law said λsaid'=>holds_open (q:=q) (loose:=loose) (Xt:=Xt) (XP:=XL q []) (Yf:=obsH) (Ya:=obsX) (YP:=SeenH) (N:=9100)
  left (λw s e=>⟨kO s.heap,seen_of e,kO_in⟩) (λw h h' ⟨K,S,X⟩ k=>⟨K,S,X.keeps k⟩) (λs e=>xl_of s (Aq.mp e).1) XL.keeps (by kernel_rfl) (by kernel_rfl) (by kernel_rfl)
  (λs e=>recFacts_of (Aq.mp e).2) rfl said' (by decide+kernel) ⟨rfl,rfl,rfl,rfl,rfl,by decide+kernel⟩ (by w_witness2) call
end
theorem ints_ofM{R:WRecords}{cl:Str->Option Addr}{h:Heap}{cx:Cx}{G:GM}:∀{xs:List WData} {vs:List Value} {as:List Addr},WShape.hasItems R xs .int=true->ReadsAllW R cl h vs xs as->∃l:List Int,VReps cx G (l.map .int) vs:=by
 intro xs
 induction xs with
 |nil=>exact λ{vs as} _ r=>(readsAllW_nil_inv r).1▸⟨[],rfl⟩
 |cons x xs ih=>
  intro vs as hi r
  obtain⟨i,rfl⟩:=hasW_int (aL hi)
  obtain⟨v,vs',as1,as2,rfl,rfl,r1,r2⟩:=readsAllW_cons_inv r
  obtain⟨t,rfl,_⟩:=readsW_int_inv r1
  obtain⟨l,hl⟩:=ih (aR hi) r2
  exact⟨i::l,⟨t⟩,hl⟩
theorem B0g{K:Frag}{h:Heap}{N:Addr}{mg:Str->Option Value}{n:Str}{v:Value}(X:K.In h)(G:h.Ns N mg)(e:nsIn K N n=some (some v)):mg n=some v:=by
 obtain⟨o,es,ep,ho,hd,_,hf⟩:=G
 unfold nsIn at e
 split at e
 ·rename_i c d es' n' sl q
  have:=X _ _ q
  rw[ho] at this
  cases this
  cases hd
  split at e
  ·rename_i x hx
   simp only[Option.some.injEq] at e
   rw[←hf]
   unfold nsFind findBy
   rw[←Array.find?_toList,hx]
   exact congrArg some e
  ·rename_i he
   split at e
   ·cases e
   ·cases e
 ·cases e
theorem walk(So:∀cx,A1z cx):WalkO q loose (XL q []) SeenH rw0.row.toRowW dk.1 dk.2 λf vs=>PySem.call f vs:=by
 intro w s₀ s₁ mg mb Gr ⟨K,S,X⟩ a o pm cd doc dV kV ho hd hcd hdf hmg hgens args vals as hpre hlay hread hwell has
 have hnm:dk.1.name=("law" :Str):=by kernel_rfl
 rw[hnm] at hmg
 have h5:nsIn K mainGlobals ("law" :Str)=some (some (.ref (fA 82))):=by
  have b:=aR (aR (aR (rngM (aL (aR (aR (aR (aR (aR (aR (aR S.ck)))))))) (by decide:82<85))))
  exact eq_of_beq b
 have h6:=B0g X Gr.T.g h5
 rw[hmg] at h6
 cases h6
 clear ho hd
 obtain⟨hs,_⟩:=pre_splitW hpre
 obtain⟨d,r,rfl,hd1,hd2⟩:=hasAllW_cons hs
 obtain rfl:=hasAllW_nil hd2
 obtain⟨xs,rfl,hit⟩:=hasW_list hd1
 obtain⟨v,vs,as1,as2,rfl,rfl,r1,r2⟩:=readsAllW_cons_inv hread
 obtain⟨rfl,rfl⟩:=readsAllW_nil_inv r2
 obtain⟨b,ws,as3,rfl,⟨o,ho,hc,m,hd⟩,r3,rfl⟩:=readsW_list_inv r1
 have hlen:=length_le_of_layableW (layableW_arg hlay _ (Bo.mpr rfl))
 obtain⟨l,hl⟩:=ints_ofM (cx:=cxOf w K s₁.os) (G:=λa=>s₁.heap.get? a) hit r3
 have R:Rel (cxOf w K s₁.os) [] ⟨λ_=>none,λa=>s₁.heap.get? a,[],[],s₁⟩:=⟨λa o e=>X a o e,λa o e=>e,λk c e=>(nomatch e),λk a e=>(nomatch e),λi j a e=>(nomatch e),rfl,λa o e=>(nomatch e),λenv h=>(nomatch h),hgens,rfl⟩
 have hv:VReps (cxOf w K s₁.os) (λa=>s₁.heap.get? a) [.lst (l.map .int)] [.ref b]:=by
  refine⟨⟨ws.toList,⟨b,o,m,ho,hc,hd⟩,?_,hl⟩,rfl⟩
  have h1:=hl.all.length
  have h2:=r3.length
  have hs:sizeLine=16777216:=rfl
  omega
 have A:Amb callerA 78 []:=⟨rfl,rfl,by decide,by decide⟩
 have run:=(all_ok (os:=s₁.os) S (So _) pos_ok 78).co callerA [] ⟨λ_=>none,λa=>s₁.heap.get? a,[],[],s₁⟩ 82 [.p (.lst (l.map .int))] [.ref b] (λv _=>v=pb true) (λ_=>False) A R ⟨hv.1,rfl⟩ (by
  show PR (A3e [] [] (cR 78 82 [.p (.lst (l.map .int))] [])) _ _
  rw[B7g (n:=0)]
  rfl)
 refine Af run ?_ ?_
 ·rintro v s' ⟨S',a,n,R',r,k⟩
  cases k
  cases(r:Value.bool true=v)
  refine GoodW.toG ⟨.inl ⟨.bool true,.bool true,[],rfl,λcls=>rfl,.bool true,postW_of (X:=true) rfl (by kernel_rfl) rfl,λ_=>⟨List.nodup_nil,λa ha=>(nomatch ha)⟩⟩,λb o e=>R'.stay b o (n.g b o e),R'.os,R'.gens⟩
 ·rintro e s' ⟨S',p,_,_,_,hx⟩
  exact hx.elim
theorem law_holds(So:∀cx,A1z cx):PySem.Challenge.rw_nn0398_01.Holds:=head (walk So)
abbrev Ks:=Array Keyed
abbrev SM:=StateT SortSt Sem
noncomputable def gallop':Bool->Keyed->Ks->Nat->Nat->Nat->SM (Option Nat):=sortPriv%PySem.Builtin.gallop
noncomputable def A1y:Nat->SM Unit:=sortPriv%PySem.Builtin.setMinGallop
noncomputable def A4e:Ks->Ks->SM Ks:=sortPriv%PySem.Builtin.mergeLo
noncomputable def A4f:Ks->Ks->SM Ks:=sortPriv%PySem.Builtin.mergeHi
abbrev GSt:=Option (Option Nat)×Nat×Nat
noncomputable def bey(left:Bool)(key:Keyed)(arr:Ks)(base i:Nat):SM (Option Bool):=do
 let x←elem' arr (base+i)
 if left then lt' x key else return(←lt' key x).map (!·)
noncomputable def galB(g:Nat->SM (Option Bool)):Nat->GSt->SM (ForInStep GSt):=λ_ c=>
 if c.2.1≥c.2.2 then pure (.done (none,c.2.1,c.2.2)) else do
  let r←g (c.2.1+(c.2.2-c.2.1)/2)
  match r with
  |some more=>if more=true then pure (.yield (none,c.2.1+(c.2.2-c.2.1)/2+1,c.2.2)) else pure (.yield (none,c.2.1,c.2.1+(c.2.2-c.2.1)/2))
  |_=>pure (.done (some none,c.2.1,c.2.2))
noncomputable def galE(g:Nat->SM (Option Bool))(n lo hi:Nat):SM (Option Nat):=do
 let c←forIn [:n] ((none,lo,hi):GSt) (galB g)
 match c.1 with
 |some r=>pure r
 |none=>pure (some c.2.2)
noncomputable def galU(g:Nat->SM (Option Bool))(hint mx:Nat):Nat->GSt->SM (ForInStep GSt):=λ_ c=>
 if c.2.2≥mx then pure (.done (none,c.2.1,c.2.2)) else do
  let r←g (hint+c.2.2)
  match r with
  |some more=>if(!more)=true then pure (.done (none,c.2.1,c.2.2)) else pure (.yield (none,c.2.2,2*c.2.2+1))
  |_=>pure (.done (some none,c.2.1,c.2.2))
noncomputable def galD(g:Nat->SM (Option Bool))(hint mx:Nat):Nat->GSt->SM (ForInStep GSt):=λ_ c=>
 if c.2.2≥mx then pure (.done (none,c.2.1,c.2.2)) else do
  let r←g (hint-c.2.2)
  match r with
  |some more=>if more=true then pure (.done (none,c.2.1,c.2.2)) else pure (.yield (none,c.2.2,2*c.2.2+1))
  |_=>pure (.done (some none,c.2.1,c.2.2))
noncomputable def galR(g:Nat->SM (Option Bool))(n hint:Nat):SM (Option Nat):=do
 let c←forIn [:n] ((none,0,1):GSt) (galU g hint (n-hint))
 match c.1 with
 |some r=>pure r
 |none=>galE g n (hint+c.2.1+1) (hint+min c.2.2 (n-hint))
noncomputable def galL(g:Nat->SM (Option Bool))(n hint:Nat):SM (Option Nat):=do
 let c←forIn [:n] ((none,0,1):GSt) (galD g hint (hint+1))
 match c.1 with
 |some r=>pure r
 |none=>galE g n (hint+1-min c.2.2 (hint+1)) (hint-c.2.1)
theorem B7x(left:Bool)(key:Keyed)(arr:Ks)(base n hint:Nat):gallop' left key arr base n hint=(do
 let r←bey left key arr base hint
 match r with
 |some right=>if right=true then galR (bey left key arr base) n hint else galL (bey left key arr base) n hint
 |_=>pure none):=by
 kernel_rfl
structure Sc where
 M:Model
 A:Around
 E:Value->Shared->Prop
 s:Shared
 kd:SortKind
 P:Keyed->Prop
 le:Keyed->Keyed->Bool
 tr:∀{x y z:Keyed},le x y=true->le y z=true->le x z=true
 to:∀x y:Keyed,(le x y||le y x)=true
 lt:∀(x y:Keyed) (st:SortSt) (Q:Option Bool->SortSt->Prop),P x->P y->kindOf st=kd->Q (some (!le y x)) st->wpS M A E s (lt' x y) Q st
abbrev Sc.W(C:Sc){α:Type}(m:SM α)(Q:α->SortSt->Prop)(st:SortSt):Prop:=wpS C.M C.A C.E C.s m Q st
abbrev Sc.S(C:Sc)(l:List Keyed):Prop:=l.Pairwise λx y=>C.le x y=true
section
variable{C:Sc}{st:SortSt}{n:Nat}
def StR{β:Type}(I Q:β->SortSt->Prop)(m:β->Nat)(k:Nat)(r:ForInStep β)(st:SortSt):Prop:=match r with
 |.done b=>Q b st
 |.yield b=>I b st/\m b<k
theorem A8m{β:Type}{f:Nat->β->SM (ForInStep β)}{Q:β->SortSt->Prop}(I:β->SortSt->Prop)(m:β->Nat)(step:∀x b st,I b st->C.W (f x b) (StR I Q m (m b)) st)(stop:∀b st,I b st->m b=0->Q b st){b:β}(h:I b st)(hm:m b<=n):C.W (forIn [:n] b f) Q st:=by
 refine wpS_forRange (I:=λx b st=>I b st/\m b+x<=n) (λx b st _ hx h=>wpS_mono (step x b st h.1) λr st' q=> ?_) (λb st h=>stop b st h.1 ?_) ⟨h,hm⟩
 ·cases r with
  |done b=>exact q
  |yield b=>exact⟨q.1,Aa (Aj (Cr _ _).symm) (Aa (Ay q.2 x) h.2)⟩
 ·have h2:=h.2
  rw[Nat.zero_max] at h2
  exact Nat.eq_zero_of_le_zero (Nat.le_of_add_le_add_right (Aa h2 (Aj (Bc n).symm)))
theorem z_elem{arr:Ks}{i:Nat}{x:Keyed}{Q:Keyed->SortSt->Prop}(h:arr[i]?=some x)(q:Q x st):C.W (elem' arr i) Q st:=by
 show wpS _ _ _ _ (elem' arr i) Q st
 rw[elem'_eq,h];exact Al q
theorem A2k{α β:Type}{m:SM α}{f:α->SM β}{Q0:α->SortSt->Prop}{Q:β->SortSt->Prop}(h:C.W m Q0 st)(k:∀a st',Q0 a st'->C.W (f a) Q st'):C.W (m >>= f) Q st:=wpS_bind (wpS_mono h k)
theorem z_el{β:Type}{arr:Ks}{i:Nat}{x:Keyed}{f:Keyed->SM β}{Q:β->SortSt->Prop}(h:arr[i]?=some x)(q:C.W (f x) Q st):C.W (elem' arr i >>= f) Q st:=wpS_bind (z_elem h q)
theorem z_it{β:Type}{c:Prop}[Decidable c]{a b:SM β}{Q:β->SortSt->Prop}(h:c)(k:C.W a Q st):C.W (if c then a else b) Q st:=(if_pos h).symm▸k
theorem z_ie{β:Type}{c:Prop}[Decidable c]{a b:SM β}{Q:β->SortSt->Prop}(h:¬c)(k:C.W b Q st):C.W (if c then a else b) Q st:=(if_neg h).symm▸k
abbrev Lowz(q:Nat->Bool)(k:Nat):Prop:=∀i,i<k->q i=true
abbrev Hig(q:Nat->Bool)(k:Nat):Prop:=∀i,k<=i->q i=false
structure Gs(C:Sc)(g:Nat->SM (Option Bool))(n:Nat)(q:Nat->Bool)(st:SortSt):Prop where
 ok:∀(i:Nat) (Q:Option Bool->SortSt->Prop),i<n->Q (some (q i)) st->C.W (g i) Q st
 mono:∀i j,i<=j->q j=true->q i=true
 out:Hig q n
variable{g:Nat->SM (Option Bool)}{q:Nat->Bool}{hint:Nat}{Q:Option Nat->SortSt->Prop}
theorem Gs.lo(G:Gs C g n q st){i:Nat}(h:q i=true):Lowz q (i+1):=λj z=>G.mono j i (Bw z) h
theorem Gs.hi(G:Gs C g n q st){i:Nat}(h:q i=false):Hig q i:=λj z=>Bn.mpr λw=>A5 (h.symm.trans (G.mono i j z w))
inductive GI(q:Nat->Bool)(n:Nat)(st:SortSt):GSt->SortSt->Prop
 |mk (lo hi:Nat) (l:Lowz q lo) (h:Hig q hi) (b:hi<=n):GI q n st (none,lo,hi) st
inductive GE(q:Nat->Bool)(n:Nat)(st:SortSt):GSt->SortSt->Prop
 |mk (lo k:Nat) (l:Lowz q k) (h:Hig q k) (b:k<=n):GE q n st (none,lo,k) st
theorem gal_e(G:Gs C g n q st){lo hi:Nat}(l:Lowz q lo)(h:Hig q hi)(b:hi<=n)(K:∀k,k<=n->Lowz q k->Hig q k->Q (some k) st):C.W (galE g n lo hi) Q st:=by
 refine A2k (A8m (Q:=GE q n st) (GI q n st) (λc=>c.2.2-c.2.1) (λx c st' z=> ?_) (λc st' z=> ?_) (.mk lo hi l h b) (Aa (Nat.sub_le _ _) b)) λc st' z=> ?_
 ·refine z.rec λlo hi l h b=> ?_
  by_cases e:lo≥hi
  ·exact z_it e (Al (.mk lo hi (λi w=>l i (Ap w e)) h b))
  ·have e:=Nat.lt_of_not_ge e
   have d:(hi-lo)/2<hi-lo:=Nat.div_lt_self (Nat.sub_pos_of_lt e) (Ac 2)
   have d:lo+(hi-lo)/2<hi:=Nat.add_lt_of_lt_sub' d
   refine z_ie (B9 e) (wpS_bind (G.ok _ _ (Ap d b) ?_))
   cases w:q (lo+(hi-lo)/2) with
   |true=>exact Al ⟨.mk _ hi (G.lo w) h b,Bs e (Bz (Ao _ _))⟩
   |false=>exact Al ⟨.mk lo _ l (G.hi w) (Ak (Ap d b)),Nat.sub_lt_sub_right (Ao _ _) d⟩
 ·exact z.rec λlo hi l h b e=>.mk lo hi (λi w=>l i (Ap w (Cz.mp e))) h b
 ·exact z.rec λlo k l h b=>Al (K k b l h)
inductive GU(q:Nat->Bool)(hint:Nat)(st:SortSt):GSt->SortSt->Prop
 |mk (l o:Nat) (h:q (hint+l)=true):GU q hint st (none,l,o) st
inductive GW(q:Nat->Bool)(hint:Nat)(st:SortSt):GSt->SortSt->Prop
 |mk (l o:Nat) (h:q (hint-l)=false):GW q hint st (none,l,o) st
inductive GV(q:Nat->Bool)(n lo hi:GSt->Nat)(st:SortSt):GSt->SortSt->Prop
 |mk (l o:Nat) (a:Lowz q (lo (none,l,o))) (b:Hig q (hi (none,l,o))) (c:hi (none,l,o)<=n (none,l,o)):GV q n lo hi st (none,l,o) st
theorem gal_r(G:Gs C g n q st)(hh:hint<n)(e:q hint=true)(K:∀k,k<=n->Lowz q k->Hig q k->Q (some k) st):C.W (galR g n hint) Q st:=by
 have fin:∀{l o:Nat},q (hint+l)=true->o≥n-hint∨(o<n-hint/\q (hint+o)=false)->GV q (λ_=>n) (λc=>hint+c.2.1+1) (λc=>hint+min c.2.2 (n-hint)) st (none,l,o) st:=λ{l o} a b=>by
  refine .mk l o (G.lo a) ?_ (Aa (Au (Nat.min_le_right _ _) _) (Aj (Nat.add_sub_cancel' (Ak hh))))
  rcases b with b | b
  ·show Hig q (hint+min o (n-hint))
   rw[Nat.min_eq_right b,Nat.add_sub_cancel' (Ak hh)]
   exact G.out
  ·show Hig q (hint+min o (n-hint))
   rw[Ci (Ak b.1)]
   exact G.hi b.2
 refine A2k (A8m (Q:=GV q (λ_=>n) (λc=>hint+c.2.1+1) (λc=>hint+min c.2.2 (n-hint)) st) (GU q hint st) (λc=>n-hint-c.2.2) (λx c st' z=> ?_) (λc st' z=> ?_) (.mk 0 1 e) (Aa (Nat.sub_le _ _) (Nat.sub_le _ _))) λc st' z=> ?_
 ·refine z.rec λl o a=> ?_
  by_cases d:o≥n-hint
  ·exact z_it d (Al (fin a (.inl d)))
  ·have d:=Nat.lt_of_not_ge d
   refine z_ie (B9 d) (wpS_bind (G.ok _ _ (Nat.add_lt_of_lt_sub' d) ?_))
   cases w:q (hint+o) with
   |true=>exact Al ⟨.mk o _ w,Bs d (Bz (Nat.le_mul_of_pos_left o (Ar 1)))⟩
   |false=>exact Al (fin a (.inr ⟨d,w⟩))
 ·exact z.rec λl o a e=>fin a (.inl (Cz.mp e))
 ·exact z.rec λl o a b c=>gal_e G a b c K
theorem gal_l(G:Gs C g n q st)(hh:hint<n)(e:q hint=false)(K:∀k,k<=n->Lowz q k->Hig q k->Q (some k) st):C.W (galL g n hint) Q st:=by
 have fin:∀{l o:Nat},q (hint-l)=false->o≥hint+1∨(o<hint+1/\q (hint-o)=true)->GV q (λ_=>n) (λc=>hint+1-min c.2.2 (hint+1)) (λc=>hint-c.2.1) st (none,l,o) st:=λ{l o} a b=>by
  refine .mk l o ?_ (G.hi a) (Aa (Nat.sub_le _ _) (Ak hh))
  rcases b with b | b
  ·show Lowz q (hint+1-min o (hint+1))
   rw[Nat.min_eq_right b,Nat.sub_self]
   exact λi w=>absurd w (Nat.not_lt_zero i)
  ·show Lowz q (hint+1-min o (hint+1))
   rw[Ci (Ak b.1),Nat.succ_sub (Bw b.1)]
   exact G.lo b.2
 refine A2k (A8m (Q:=GV q (λ_=>n) (λc=>hint+1-min c.2.2 (hint+1)) (λc=>hint-c.2.1) st) (GW q hint st) (λc=>hint+1-c.2.2) (λx c st' z=> ?_) (λc st' z=> ?_) (.mk 0 1 e) (Ak hh)) λc st' z=> ?_
 ·refine z.rec λl o a=> ?_
  by_cases d:o≥hint+1
  ·exact z_it d (Al (fin a (.inl d)))
  ·have d:=Nat.lt_of_not_ge d
   refine z_ie (B9 d) (wpS_bind (G.ok _ _ (As (Nat.sub_le _ _) hh) ?_))
   cases w:q (hint-o) with
   |true=>exact Al (fin a (.inr ⟨d,w⟩))
   |false=>exact Al ⟨.mk o _ w,Bs d (Bz (Nat.le_mul_of_pos_left o (Ar 1)))⟩
 ·exact z.rec λl o a e=>fin a (.inl (Cz.mp e))
 ·exact z.rec λl o a b c=>gal_e G a b c K
def gp(C:Sc)(left:Bool)(key x:Keyed):Bool:=match left with | true=> !C.le key x | false=>C.le x key
abbrev gq(C:Sc)(left:Bool)(key:Keyed)(L:List Keyed)(i:Nat):Bool:=(L[i]?).any (gp C left key)
section
variable{left:Bool}{key:Keyed}{L:List Keyed}{k:Nat}
theorem gq_mo(so:C.S L)(i j:Nat)(hij:i<=j)(w:gq C left key L j=true):gq C left key L i=true:=by
 have mo:∀x y,C.le x y=true->gp C left key y=true->gp C left key x=true:=λx y h=>by
  cases left with
  |true=>exact λw=>congrArg not (Bn.mpr λz=>A5 ((congrArg not (C.tr z h)).symm.trans w))
  |false=>exact λw=>C.tr h w
 unfold gq at w ⊢
 cases ey:L[j]? with
 |none=>rw[ey] at w;cases w
 |some y=>
  rw[ey] at w
  obtain⟨hj,ey'⟩:=Bm.mp ey
  have hi:=As hij hj
  have w2:gp C left key y=true:=w
  rw[B4 hi]
  rcases Nat.lt_or_eq_of_le hij with h | h
  ·exact mo _ y (ey'▸List.pairwise_iff_getElem.mp so i j hi hj h) w2
  ·subst h;exact(congrArg (gp C left key) ey').trans w2
theorem gq_lo(l:Lowz (gq C left key L) k):∀x∈L.take k,gp C left key x=true:=λx m=>by
 obtain⟨i,e⟩:=List.mem_iff_getElem?.mp m
 have hi:i<k:=Nat.lt_of_not_ge λz=>by rw[List.getElem?_take_eq_none z] at e;cases e
 rw[List.getElem?_take_of_lt hi] at e
 have w:(L[i]?).any (gp C left key)=true:=l i hi
 rw[e] at w
 exact w
theorem gq_hi(h:Hig (gq C left key L) k):∀x∈L.drop k,gp C left key x=false:=λx m=>by
 obtain⟨i,e⟩:=List.mem_iff_getElem?.mp m
 rw[List.getElem?_drop] at e
 have w:(L[k+i]?).any (gp C left key)=false:=h (k+i) (Ao _ _)
 rw[e] at w
 exact w
theorem A6y{arr:Ks}{base:Nat}(hL:(arr.toList.drop base).take n=L)(hn:L.length=n)(hh:hint<n)(so:C.S L)(pk:C.P key)(pl:∀x∈L,C.P x)(hk:kindOf st=C.kd)
  (K:∀L1 L2,L=L1++L2->(∀x∈L1,gp C left key x=true)->(∀x∈L2,gp C left key x=false)->Q (some L1.length) st):C.W (gallop' left key arr base n hint) Q st:=by
 have G:Gs C (bey left key arr base) n (gq C left key L) st:=by
  refine⟨λi Q hi w=> ?_,gq_mo so,λi h=>congrArg (Option.any _) (List.getElem?_eq_none (hn.symm▸h))⟩
  have hl:i<L.length:=hn.symm▸hi
  have e:=B4 hl
  have px:=pl _ (List.getElem_mem hl)
  have ea:arr[base+i]?=some L[i]:=by rw[←e,←hL,List.getElem?_take_of_lt hi,List.getElem?_drop,Bx]
  unfold gq at w
  rw[e] at w
  refine z_el ea ?_
  cases left with
  |true=>exact C.lt _ _ st Q px pk hk w
  |false=>exact wpS_bind (C.lt _ _ st _ pk px hk (Al (by show Q (some (!!C.le _ _)) st;rw[Bool.not_not];exact w)))
 rw[B7x]
 have fin:∀k,k<=n->Lowz (gq C left key L) k->Hig (gq C left key L) k->Q (some k) st:=λk hk l h=>by
  have e:=K (L.take k) (L.drop k) (C0 k L).symm (gq_lo l) (gq_hi h)
  rw[Co,Ci (hn.symm▸hk)] at e
  exact e
 refine wpS_bind (G.ok hint _ hh ?_)
 cases e:gq C left key L hint with
 |true=>exact gal_r G hh e fin
 |false=>exact gal_l G hh e fin
end
end
section
variable{T1 T2 T3:Type}
abbrev Bu(T1 T2 T3 τ:Type):=Option Ks×T1×T2×T3×τ
noncomputable def zOpt{κ α:Type}(o:Option κ)(f:κ->α)(g:α):α:=match o with | some r=>f r | none=>g
noncomputable def mgT3(e:Bu T1 T2 T3 (Nat×Nat×Nat)):SM (ForInStep (Bu T1 T2 T3 Nat)):=zOpt e.1 (λr=>pure (.done (some r,e.2.1,e.2.2.1,e.2.2.2.1,e.2.2.2.2.1))) (do
 A1y (e.2.2.2.2.1+1)
 pure (.yield (none,e.2.1,e.2.2.1,e.2.2.2.1,e.2.2.2.2.1+1)))
noncomputable def mgT2(N:Nat)(two:Nat->Bu T1 T2 T3 (Nat×Nat×Nat)->SM (ForInStep (Bu T1 T2 T3 (Nat×Nat×Nat))))(mg:Nat)(d:Bu T1 T2 T3 (Nat×Nat)):SM (ForInStep (Bu T1 T2 T3 Nat)):=zOpt d.1 (λr=>pure (.done (some r,d.2.1,d.2.2.1,d.2.2.2.1,mg))) (do
 liftM (rule "list.sort.gallop")
 let e←forIn [:N] ((none,d.2.1,d.2.2.1,d.2.2.2.1,mg+1,d.2.2.2.2.1,d.2.2.2.2.2):Bu T1 T2 T3 (Nat×Nat×Nat)) two
 mgT3 e)
noncomputable def B2b(N:Nat)(one:Nat->Nat->Bu T1 T2 T3 (Nat×Nat)->SM (ForInStep (Bu T1 T2 T3 (Nat×Nat))))(two:Nat->Bu T1 T2 T3 (Nat×Nat×Nat)->SM (ForInStep (Bu T1 T2 T3 (Nat×Nat×Nat)))):Nat->Bu T1 T2 T3 Nat->SM (ForInStep (Bu T1 T2 T3 Nat)):=λ_ c=>do
 let d←forIn [:N] ((none,c.2.1,c.2.2.1,c.2.2.2.1,0,0):Bu T1 T2 T3 (Nat×Nat)) (one c.2.2.2.2)
 mgT2 N two c.2.2.2.2 d
noncomputable def mgEnd(N:Nat)(x:T1)(y:T2)(z:T3)(f:Nat->Bu T1 T2 T3 Nat->SM (ForInStep (Bu T1 T2 T3 Nat))):SM Ks:=do
 let st←get
 let c←forIn [:N] ((none,x,y,z,gallopOf st):Bu T1 T2 T3 Nat) f
 zOpt c.1 pure (liftM (unsupported "internal:list.sort.merge-bound" :Sem Ks))
structure Tg(T1 T2 T3:Type) where
 C:Sc
 F:SortSt->Prop
 kd:∀st,F st->kindOf st=C.kd
 sg:∀st g,F st->F (SortSt.mk' (kindOf st) (arrOf st) (pendingOf st) g (failedOf st))
 S:T1->T2->T3->Prop
 m:T1->T2->T3->Nat
 R:Ks->Prop
variable{G:Tg T1 T2 T3}{st:SortSt}{N:Nat}{τ:Type}
abbrev Tg.Go(G:Tg T1 T2 T3)(x:T1)(y:T2)(z:T3)(k:Nat):Prop:=G.S x y z/\G.m x y z<k
def Tg.Fn(G:Tg T1 T2 T3)(e:Prop)(r:Option Ks)(x:T1)(y:T2)(z:T3)(k:Nat):Prop:=zOpt r G.R (e/\G.Go x y z k)
def Tg.T(G:Tg T1 T2 T3)(e:Prop)(k:Nat)(r:ForInStep (Bu T1 T2 T3 τ))(st:SortSt):Prop:=G.F st/\(match r with | .done c=>G.Fn e c.1 c.2.1 c.2.2.1 c.2.2.2.1 k | .yield c=>G.Go c.2.1 c.2.2.1 c.2.2.2.1 k)
abbrev Tg.W(G:Tg T1 T2 T3){α:Type}(m:SM α)(Q:α->SortSt->Prop)(st:SortSt):Prop:=G.C.W m Q st
theorem Tg.fn_up{e:Prop}{r:Option Ks}{x:T1}{y:T2}{z:T3}{k k':Nat}(h:G.Fn e r x y z k)(q:k<=k'):G.Fn e r x y z k':=by
 cases r with
 |some r=>exact h
 |none=>exact⟨h.1,h.2.1,Ap h.2.2 q⟩
theorem A7i{e:Prop}{f:Nat->Bu T1 T2 T3 τ->SM (ForInStep (Bu T1 T2 T3 τ))}(pos:∀x y z,G.S x y z->0<G.m x y z){r:Option Ks}{x:T1}{y:T2}{z:T3}{t:τ}(step:∀n c st,G.F st->G.S c.2.1 c.2.2.1 c.2.2.2.1->G.m c.2.1 c.2.2.1 c.2.2.2.1<=G.m x y z->G.W (f n c) (G.T e (G.m c.2.1 c.2.2.1 c.2.2.2.1)) st)(h:G.S x y z)(hF:G.F st)(hN:G.m x y z<=N):
  G.W (forIn [:N] ((r,x,y,z,t):Bu T1 T2 T3 τ) f) (λc st=>G.F st/\G.Fn e c.1 c.2.1 c.2.2.1 c.2.2.2.1 (G.m x y z)) st:=by
 refine A8m (λc st=>G.F st/\G.S c.2.1 c.2.2.1 c.2.2.2.1/\G.m c.2.1 c.2.2.1 c.2.2.2.1<=G.m x y z) (λc=>G.m c.2.1 c.2.2.1 c.2.2.2.1) (λn c st' q=>wpS_mono (step n c st' q.1 q.2.1 q.2.2) λr st2 w=> ?_) (λc st' q e=> ?_) ⟨hF,h,Ac _⟩ hN
 ·cases r with
  |done c2=>exact⟨w.1,G.fn_up w.2 q.2.2⟩
  |yield c2=>exact⟨⟨w.1,w.2.1,Ak (Ap w.2.2 q.2.2)⟩,w.2.2⟩
 ·exact absurd (pos _ _ _ q.2.1) (e▸Nat.lt_irrefl 0)
theorem A8l{n:String}{C:Sc}{Q:Unit->SortSt->Prop}(h:Q () st):C.W (liftM (rule n)) Q st:=wpS_lift (wpAny_rule ⟨rfl,h⟩)
theorem B4k{g:Nat}{Q:Unit->SortSt->Prop}{C:Sc}(h:Q () (SortSt.mk' (kindOf st) (arrOf st) (pendingOf st) g (failedOf st))):C.W (A1y g) Q st:=wpS_modify h
theorem z_opt{κ α:Type}{o:Option κ}{f:κ->SM α}{g:SM α}{R:κ->Prop}{P:Prop}{C:Sc}{Q:α->SortSt->Prop}(h:zOpt o R P)(h1:∀r,R r->zOpt (some r) R P->C.W (f r) Q st)(h2:P->C.W g Q st):C.W (zOpt o f g) Q st:=by
 cases o with
 |some r=>exact h1 r h h
 |none=>exact h2 h
section
variable{x:T1}{y:T2}{z:T3}{k mg:Nat}{one:Nat->Nat->Bu T1 T2 T3 (Nat×Nat)->SM (ForInStep (Bu T1 T2 T3 (Nat×Nat)))}{two:Nat->Bu T1 T2 T3 (Nat×Nat×Nat)->SM (ForInStep (Bu T1 T2 T3 (Nat×Nat×Nat)))}
abbrev Tg.Q(G:Tg T1 T2 T3)(e:Prop)(k:Nat):Bu T1 T2 T3 τ->SortSt->Prop:=λc st=>G.F st/\G.Fn e c.1 c.2.1 c.2.2.1 c.2.2.2.1 k
abbrev Tg.St(G:Tg T1 T2 T3)(f:Nat->Bu T1 T2 T3 τ->SM (ForInStep (Bu T1 T2 T3 τ))):Prop:=∀n c st,G.F st->G.S c.2.1 c.2.2.1 c.2.2.2.1->G.W (f n c) (G.T True (G.m c.2.1 c.2.2.1 c.2.2.2.1)) st
theorem tg_3{e:Bu T1 T2 T3 (Nat×Nat×Nat)}(h:G.Q True k e st):G.W (mgT3 e) (G.T False k) st:=
 z_opt h.2 (λr a b=>Al ⟨h.1,a⟩) λw=>wpS_bind (B4k (Al ⟨G.sg _ _ h.1,w.2⟩))
theorem tg_2(pos:∀x y z,G.S x y z->0<G.m x y z)(s2:G.St two){d:Bu T1 T2 T3 (Nat×Nat)}(hk:k<=N)(h:G.Q True k d st):G.W (mgT2 N two mg d) (G.T False k) st:=
 z_opt h.2 (λr a b=>Al ⟨h.1,a⟩) λw=>wpS_bind (A8l (A2k (A7i pos (λn c st a b _=>s2 n c st a b) w.2.1 h.1 (Aa (Ak w.2.2) hk)) λe st2 q=>tg_3 ⟨q.1,G.fn_up q.2 (Ak w.2.2)⟩))
theorem tg_1(pos:∀x y z,G.S x y z->0<G.m x y z)(s1:∀g,G.St (one g))(s2:G.St two){n:Nat}{c:Bu T1 T2 T3 Nat}(hF:G.F st)(h:G.S c.2.1 c.2.2.1 c.2.2.2.1)(hN:G.m c.2.1 c.2.2.1 c.2.2.2.1<=N):G.W (B2b N one two n c) (G.T False (G.m c.2.1 c.2.2.1 c.2.2.2.1)) st:=
 A2k (A7i pos (λn c st a b _=>s1 _ n c st a b) h hF hN) λd st1 q=>tg_2 pos s2 hN q
theorem tg_end(pos:∀x y z,G.S x y z->0<G.m x y z)(s1:∀g,G.St (one g))(s2:G.St two)(h:G.S x y z)(hF:G.F st)(hN:G.m x y z<=N):G.W (mgEnd N x y z (B2b N one two)) (λr st=>G.F st/\G.R r) st:=
 wpS_bind (wpS_get (A2k (A7i (e:=False) pos (λn c st hF h hk=>tg_1 pos s1 s2 hF h (Aa hk hN)) h hF hN) λc st1 q=>z_opt q.2 (λr a _=>Al ⟨q.1,a⟩) λw=>w.1.elim))
end
end
abbrev Bt(τ:Type):=Bu Ks Nat Nat τ
noncomputable def loD(a b out:Ks)(i j:Nat):Ks:=out++a.extract i a.size++b.extract j b.size
noncomputable def loL(a b out:Ks)(i j:Nat):Ks:=out++b.extract j b.size++a.extract i a.size
noncomputable def loB(a b out:Ks)(i j mg bc:Nat):SM (ForInStep (Bt (Nat×Nat))):=do
 let z←elem' b j
 if(j+1==b.size)=true then pure (.done (some (loD a b (out.push z) i (j+1)),out.push z,i,j+1,0,bc+1))
 else if bc+1≥mg then pure (.done (none,out.push z,i,j+1,0,bc+1))
 else pure (.yield (none,out.push z,i,j+1,0,bc+1))
noncomputable def loAx{τ:Type}(a b out:Ks)(i j:Nat)(c:Prop)[Decidable c](t:τ):SM (ForInStep (Bt τ)):=do
 let z←elem' a i
 if(i+1+1==a.size)=true then pure (.done (some (loL a b (out.push z) (i+1) j),out.push z,i+1,j,t))
 else if c then pure (.done (none,out.push z,i+1,j,t))
 else pure (.yield (none,out.push z,i+1,j,t))
noncomputable def loOne(a b:Ks)(mg:Nat):Nat->Bt (Nat×Nat)->SM (ForInStep (Bt (Nat×Nat))):=λ_ c=>do
 let x←elem' b c.2.2.2.1
 let y←elem' a c.2.2.1
 let r←lt' x y
 match r with
 |some w=>if w=true then loB a b c.2.1 c.2.2.1 c.2.2.2.1 mg c.2.2.2.2.2 else loAx a b c.2.1 c.2.2.1 c.2.2.2.1 (c.2.2.2.2.1+1≥mg) (c.2.2.2.2.1+1,0)
 |_=>pure (.done (some (loD a b c.2.1 c.2.2.1 c.2.2.2.1),c.2.1,c.2.2.1,c.2.2.2.1,c.2.2.2.2.1,c.2.2.2.2.2))
noncomputable def loT1b(a b out:Ks)(i j mg k k1:Nat):SM (ForInStep (Bt (Nat×Nat×Nat))):=
 if k1>0 then
  (if(j+k1==b.size)=true then pure (.done (some (loD a b (out++b.extract j (j+k1)) i (j+k1)),out++b.extract j (j+k1),i,j+k1,mg,k,k1))
  else loAx a b (out++b.extract j (j+k1)) i (j+k1) ((decide (k<7)&&decide (k1<7))=true) (mg,k,k1))
 else loAx a b out i j ((decide (k<7)&&decide (k1<7))=true) (mg,k,k1)
noncomputable def loT1(a b out:Ks)(i j mg k bc:Nat):SM (ForInStep (Bt (Nat×Nat×Nat))):=do
 let z←elem' b j
 if(j+1==b.size)=true then pure (.done (some (loD a b (out.push z) i (j+1)),out.push z,i,j+1,mg,k,bc))
 else do
  let y←elem' a i
  let r←gallop' true y b (j+1) (b.size- (j+1)) 0
  match r with
  |some k1=>loT1b a b (out.push z) i (j+1) mg k k1
  |_=>pure (.done (some (loD a b (out.push z) i (j+1)),out.push z,i,j+1,mg,k,bc))
noncomputable def loT0b(a b out:Ks)(i j mg k bc:Nat):SM (ForInStep (Bt (Nat×Nat×Nat))):=
 if k>0 then
  (if(i+k+1==a.size)=true then pure (.done (some (loL a b (out++a.extract i (i+k)) (i+k) j),out++a.extract i (i+k),i+k,j,mg,k,bc))
  else if(i+k==a.size)=true then pure (.done (some (loD a b (out++a.extract i (i+k)) (i+k) j),out++a.extract i (i+k),i+k,j,mg,k,bc))
  else loT1 a b (out++a.extract i (i+k)) (i+k) j mg k bc)
 else loT1 a b out i j mg k bc
noncomputable def loT0(a b out:Ks)(i j mg ac bc:Nat):SM (ForInStep (Bt (Nat×Nat×Nat))):=do
 A1y mg
 let x←elem' b j
 let r←gallop' false x a i (a.size-i) 0
 match r with
 |some k=>loT0b a b out i j mg k bc
 |_=>pure (.done (some (loD a b out i j),out,i,j,mg,ac,bc))
noncomputable def loTwo(a b:Ks):Nat->Bt (Nat×Nat×Nat)->SM (ForInStep (Bt (Nat×Nat×Nat))):=λ_ c=>
 if c.2.2.2.2.1>1 then loT0 a b c.2.1 c.2.2.1 c.2.2.2.1 (c.2.2.2.2.1-1) c.2.2.2.2.2.1 c.2.2.2.2.2.2
 else loT0 a b c.2.1 c.2.2.1 c.2.2.2.1 c.2.2.2.2.1 c.2.2.2.2.2.1 c.2.2.2.2.2.2
theorem B3u(a b:Ks):A4e a b=(do
 liftM (rule "list.sort.merge-lo")
 let x←elem' b 0
 if(1==b.size)=true then pure (loD a b #[x] 0 1)
 else if(0+1==a.size)=true then pure (loL a b #[x] 0 1)
 else mgEnd (a.size+b.size) #[x] 0 1 (B2b (a.size+b.size) (loOne a b) (loTwo a b))):=by kernel_rfl
section
variable{l:List Keyed}{x:Keyed}{r:List Keyed}{i k:Nat}{a b out:Ks}
theorem dp_e(h:a.toList.drop i=x::r):a[i]?=some x:=by
 rw[←Bx,←Nat.add_zero i,←List.getElem?_drop,h];rfl
theorem dp_n(h:a.toList.drop i=x::r):a.toList.drop (i+1)=r:=by rw[←List.drop_drop,h];rfl
theorem dp_k{l1 l2:List Keyed}(h:a.toList.drop i=l1++l2):a.toList.drop (i+l1.length)=l2:=by rw[←List.drop_drop,h,List.drop_left]
theorem ex_t(h:a.toList.drop i=l)(n:a.size=i+l.length):(a.extract i a.size).toList=l:=by
 rw[Array.toList_extract]
 show List.take (a.size-i) (a.toList.drop i)=l
 rw[h,n,Cv,List.take_length]
theorem ex_k{l1 l2:List Keyed}(h:a.toList.drop i=l1++l2):(a.extract i (i+l1.length)).toList=l1:=by
 rw[Array.toList_extract]
 show List.take (i+l1.length-i) (a.toList.drop i)=l1
 rw[h,Cv,List.take_left]
theorem sz_c(n:a.size=i+l.length):(i+k==a.size)=(k==l.length):=by
 rw[n]
 exact Bool.eq_iff_iff.mpr ⟨λh=>beq_iff_eq.mpr (Nat.add_left_cancel (beq_iff_eq.mp h)),λh=>beq_iff_eq.mpr (congrArg (i+ ·) (beq_iff_eq.mp h))⟩
end
structure Mx where
 C:Sc
 F:SortSt->Prop
 kd:∀st,F st->kindOf st=C.kd
 sg:∀st g,F st->F (SortSt.mk' (kindOf st) (arrOf st) (pendingOf st) g (failedOf st))
 a:Ks
 b:Ks
 pa:∀x∈a.toList,C.P x
 pb:∀x∈b.toList,C.P x
 sa:C.S a.toList
 sb:C.S b.toList
 last:∀x,a.toList.getLast?=some x->∀y∈b.toList,C.le x y=false
 first:∀y,b.toList.head?=some y->∀x∈a.toList,C.le x y=false
abbrev Mx.R(X:Mx)(r:Ks):Prop:=r.toList.Perm (X.a.toList++X.b.toList)/\X.C.S r.toList
abbrev zm(le:Keyed->Keyed->Bool)(l r:List Keyed):List Keyed:=List.merge l r le
structure MS(le:Keyed->Keyed->Bool)(a b out:Ks)(i j:Nat)(la lb:List Keyed):Prop where
 da:a.toList.drop i=la
 db:b.toList.drop j=lb
 na:a.size=i+la.length
 nb:b.size=j+lb.length
 m:out.toList++zm le la lb=zm le a.toList b.toList
abbrev Mx.S(X:Mx)(out:Ks)(i j:Nat)(la lb:List Keyed):Prop:=MS X.C.le X.a X.b out i j la lb
inductive LoS(X:Mx)(out:Ks)(i j:Nat):Prop
 |mk (x x2:Keyed) (la:List Keyed) (y:Keyed) (lb:List Keyed) (S:X.S out i j (x::x2::la) (y::lb)):LoS X out i j
noncomputable abbrev Mx.lo(X:Mx):Tg Ks Nat Nat:=⟨X.C,X.F,X.kd,X.sg,LoS X,λ_ i j=>(X.a.size-i)+(X.b.size-j),X.R⟩
section
variable{le:Keyed->Keyed->Bool}{a b out:Ks}{i j k:Nat}{x y:Keyed}{la lb l1 l2:List Keyed}{X:Mx}{st:SortSt}
theorem mg_a(h:le x y=true):zm le (x::la) (y::lb)=x::zm le la (y::lb):=(List.cons_merge_cons _ _ _ _ _).trans (if_pos h)
theorem mg_b(h:le x y=false):zm le (x::la) (y::lb)=y::zm le (x::la) lb:=(List.cons_merge_cons _ _ _ _ _).trans (if_neg (Bn.mp h))
theorem mg_as(h:∀x∈l1,le x y=true):zm le (l1++l2) (y::lb)=l1++zm le l2 (y::lb):=by
 induction l1 with
 |nil=>rfl
 |cons x l1 ih=>exact(mg_a (h x (.head _))).trans (congrArg (x:: ·) (ih λz q=>h z (.tail _ q)))
theorem mg_bs(h:∀y∈l1,le x y=false):zm le (x::la) (l1++l2)=l1++zm le (x::la) l2:=by
 induction l1 with
 |nil=>rfl
 |cons y l1 ih=>exact(mg_b (h y (.head _))).trans (congrArg (y:: ·) (ih λz q=>h z (.tail _ q)))
theorem mg_n:zm le la []=la++[]:=(List.merge_right _).trans (A6 _).symm
theorem mg_l(h:∀y∈lb,le x y=false):zm le [x] lb=lb++[x]:=by
 have q:=mg_bs (la:=[]) (l2:=[]) h
 rw[A6] at q
 exact q.trans (congrArg (lb++ ·) (List.merge_right _))
theorem MS.stA(S:MS le a b out i j (l1++l2) lb)(e:zm le (l1++l2) lb=l1++zm le l2 lb){out':Ks}(h:out'.toList=out.toList++l1):MS le a b out' (i+l1.length) j l2 lb:=
 ⟨dp_k S.da,S.db,S.na.trans (by rw[Ae,A7]),S.nb,by rw[h,Ai,←e];exact S.m⟩
theorem MS.stB(S:MS le a b out i j la (l1++l2))(e:zm le la (l1++l2)=l1++zm le la l2){out':Ks}(h:out'.toList=out.toList++l1):MS le a b out' i (j+l1.length) la l2:=
 ⟨S.da,dp_k S.db,S.na,S.nb.trans (by rw[Ae,A7]),by rw[h,Ai,←e];exact S.m⟩
theorem MS.pa(S:MS le a b out i j (x::la) (y::lb))(h:le x y=true):MS le a b (out.push x) (i+1) j la (y::lb):=S.stA (l1:=[x]) (mg_a h) Array.toList_push
theorem MS.pb(S:MS le a b out i j (x::la) (y::lb))(h:le x y=false):MS le a b (out.push y) i (j+1) (x::la) lb:=S.stB (l1:=[y]) (mg_b h) Array.toList_push
theorem MS.ga(S:MS le a b out i j (l1++l2) (y::lb))(h:∀x∈l1,le x y=true):MS le a b (out++a.extract i (i+l1.length)) (i+l1.length) j l2 (y::lb):=S.stA (mg_as h) (Cf.trans (congrArg (out.toList++ ·) (ex_k S.da)))
theorem MS.gb(S:MS le a b out i j (x::la) (l1++l2))(h:∀y∈l1,le x y=false):MS le a b (out++b.extract j (j+l1.length)) i (j+l1.length) (x::la) l2:=S.stB (mg_bs h) (Cf.trans (congrArg (out.toList++ ·) (ex_k S.db)))
theorem r_of{r:Ks}(h:r.toList=zm X.C.le X.a.toList X.b.toList):X.R r:=by
 show r.toList.Perm _/\X.C.S r.toList
 rw[h]
 exact⟨List.merge_perm_append _,List.pairwise_merge (le:=X.C.le) (λ_ _ _=>X.C.tr) X.C.to _ _ X.sa X.sb⟩
theorem MS.dD(S:X.S out i j la lb)(h:zm X.C.le la lb=la++lb):X.R (loD X.a X.b out i j):=r_of (by
 show(out++X.a.extract i X.a.size++X.b.extract j X.b.size).toList=_
 rw[Cf,Cf,ex_t S.da S.na,ex_t S.db S.nb,Ai,←h];exact S.m)
theorem gl_1{l:List Keyed}(h:l.drop i=[x]):l.getLast?=some x:=by rw[←C0 i l,h];exact List.getLast?_concat
theorem MS.dL(S:X.S out i j [x] lb):X.R (loL X.a X.b out i j):=r_of (by
 show(out++X.b.extract j X.b.size++X.a.extract i X.a.size).toList=_
 rw[Cf,Cf,ex_t S.da S.na,ex_t S.db S.nb,Ai,←mg_l λy q=>X.last x (gl_1 S.da) y (List.mem_of_mem_drop (show y∈X.b.toList.drop j from S.db▸q))];exact S.m)
theorem MS.ia(S:X.S out i j (x::la) lb):i<X.a.size:=S.na▸B5 (Ar _)
theorem MS.jb(S:X.S out i j la (y::lb)):j<X.b.size:=S.nb▸B5 (Ar _)
theorem sz_y{l:List Keyed}{a:Ks}(n:a.size=i+l.length)(h:(k==l.length)=true):(i+k==a.size)=true:=(sz_c n).trans h
theorem sz_n{l:List Keyed}{a:Ks}(n:a.size=i+l.length)(h:(k==l.length)=false):¬(i+k==a.size)=true:=λz=>A5 (h.symm.trans ((sz_c n).symm.trans z))
theorem z_i2{β:Type}{C:Sc}{c:Prop}[Decidable c]{p q:SM β}{Q:β->SortSt->Prop}(h:C.W p Q st)(g:C.W q Q st):C.W (if c then p else q) Q st:=by
 split
 ·exact h
 ·exact g
variable{x2:Keyed}{mg n bc:Nat}
theorem MS.lA(S:X.S out i j (x::la) lb)(hk:(X.a.size-i)+(X.b.size-j)<=n):(X.a.size- (i+1))+(X.b.size-j)<n:=Ap (Nat.add_lt_add_right (Bs S.ia (Ax i)) _) hk
theorem MS.lB(S:X.S out i j la (y::lb))(hk:(X.a.size-i)+(X.b.size-j)<=n):(X.a.size-i)+(X.b.size- (j+1))<n:=Ap (Nat.add_lt_add_left (Bs S.jb (Ax j)) _) hk
theorem lo_ax{τ:Type}{c:Prop}[Decidable c]{t:τ}(S:X.S out i j (x::x2::la) (y::lb))(h:X.C.le x y=true)(hF:X.F st)(hk:(X.a.size-i)+(X.b.size-j)<=n):X.C.W (loAx X.a X.b out i j c t) (X.lo.T True n) st:=by
 refine z_el (dp_e S.da) ?_
 have S2:=S.pa h
 cases la with
 |nil=>exact z_it (sz_y S2.na rfl) (Al ⟨hF,S2.dL⟩)
 |cons x3 la=>exact z_ie (sz_n S2.na rfl) (z_i2 (Al ⟨hF,⟨⟩,.mk _ _ _ _ _ S2,S.lA hk⟩) (Al ⟨hF,.mk _ _ _ _ _ S2,S.lA hk⟩))
theorem lo_b(S:X.S out i j (x::x2::la) (y::lb))(h:X.C.le x y=false)(hF:X.F st)(hk:(X.a.size-i)+(X.b.size-j)<=n):X.C.W (loB X.a X.b out i j mg bc) (X.lo.T True n) st:=by
 refine z_el (dp_e S.db) ?_
 have S2:=S.pb h
 cases lb with
 |nil=>exact z_it (sz_y (k:=0) S2.nb rfl) (Al ⟨hF,S2.dD mg_n⟩)
 |cons y2 lb=>exact z_ie (sz_n (k:=0) S2.nb rfl) (z_i2 (Al ⟨hF,⟨⟩,.mk _ _ _ _ _ S2,S.lB hk⟩) (Al ⟨hF,.mk _ _ _ _ _ S2,S.lB hk⟩))
theorem MS.px(S:X.S out i j (x::la) lb):X.C.P x:=X.pa x (List.mem_of_mem_drop (show x∈X.a.toList.drop i from S.da▸ .head _))
theorem MS.py(S:X.S out i j la (y::lb)):X.C.P y:=X.pb y (List.mem_of_mem_drop (show y∈X.b.toList.drop j from S.db▸ .head _))
theorem tk_all{a:Ks}{l:List Keyed}(h:a.toList.drop i=l)(n:a.size=i+l.length):(a.toList.drop i).take (a.size-i)=l:=by rw[h,n,Cv,List.take_length]
theorem MS.galB(S:X.S out i j (x::la) (y::lb))(hF:X.F st){Q:Option Nat->SortSt->Prop}(K:∀l1 l2,y::lb=l1++l2->(∀z∈l1,X.C.le x z=false)->(∀z∈l2,X.C.le x z=true)->Q (some l1.length) st):X.C.W (gallop' true x X.b j (X.b.size-j) 0) Q st:=
 A6y (tk_all S.db S.nb) (Nat.eq_sub_of_add_eq (S.nb.trans (Bg _ _)).symm) (Nat.sub_pos_of_lt S.jb) (S.db▸X.sb.sublist (List.drop_sublist _ _)) S.px (λz q=>X.pb z (List.mem_of_mem_drop (show z∈X.b.toList.drop j from S.db▸q))) (X.kd _ hF) λl1 l2 e h1 h2=>K l1 l2 e (λz q=>(Cg _).mp (h1 z q)) λz q=>(Bool.not_eq_false' _).mp (h2 z q)
theorem MS.galA(S:X.S out i j (x::la) (y::lb))(hF:X.F st){Q:Option Nat->SortSt->Prop}(K:∀l1 l2,x::la=l1++l2->(∀z∈l1,X.C.le z y=true)->(∀z∈l2,X.C.le z y=false)->Q (some l1.length) st):X.C.W (gallop' false y X.a i (X.a.size-i) 0) Q st:=
 A6y (tk_all S.da S.na) (Nat.eq_sub_of_add_eq (S.na.trans (Bg _ _)).symm) (Nat.sub_pos_of_lt S.ia) (S.da▸X.sa.sublist (List.drop_sublist _ _)) S.py (λz q=>X.pa z (List.mem_of_mem_drop (show z∈X.a.toList.drop i from S.da▸q))) (X.kd _ hF) K
theorem lo_t1b{k0:Nat}(S:X.S out i j (x::x2::la) (l1++l2))(ne:l1++l2=y::lb)(h1:∀z∈l1,X.C.le x z=false)(h2:∀z∈l2,X.C.le x z=true)(hF:X.F st)(hk:(X.a.size-i)+(X.b.size-j)<=n):X.C.W (loT1b X.a X.b out i j mg k0 l1.length) (X.lo.T True n) st:=by
 cases l1 with
 |nil=>
  have ne:l2=y::lb:=ne
  subst ne
  exact z_ie (Nat.lt_irrefl 0) (lo_ax S (h2 y (.head _)) hF hk)
 |cons y0 l1=>
  have S2:=S.gb h1
  refine z_it (Ar _) ?_
  cases l2 with
  |nil=>exact z_it (sz_y (k:=0) S2.nb rfl) (Al ⟨hF,S2.dD mg_n⟩)
  |cons y l2=>exact z_ie (sz_n (k:=0) S2.nb rfl) (lo_ax S2 (h2 y (.head _)) hF (Aa (Au (Nat.sub_le_sub_left (Ao _ _) _) _) hk))
theorem lo_t1{k0:Nat}(S:X.S out i j (x::x2::la) (y::lb))(h:X.C.le x y=false)(hF:X.F st)(hk:(X.a.size-i)+(X.b.size-j)<=n):X.C.W (loT1 X.a X.b out i j mg k0 bc) (X.lo.T True n) st:=by
 refine z_el (dp_e S.db) ?_
 have S2:=S.pb h
 cases lb with
 |nil=>exact z_it (sz_y (k:=0) S2.nb rfl) (Al ⟨hF,S2.dD mg_n⟩)
 |cons y2 lb=>exact z_ie (sz_n (k:=0) S2.nb rfl) (z_el (dp_e S2.da) (wpS_bind (S2.galB hF λl1 l2 e h1 h2=>lo_t1b (e▸S2) e.symm h1 h2 hF (Ak (S.lB hk)))))
theorem lo_t0b(S:X.S out i j (l1++l2) (y::lb))(ne:l1++l2=x::x2::la)(h1:∀z∈l1,X.C.le z y=true)(h2:∀z∈l2,X.C.le z y=false)(hF:X.F st)(hk:(X.a.size-i)+(X.b.size-j)<=n):X.C.W (loT0b X.a X.b out i j mg l1.length bc) (X.lo.T True n) st:=by
 cases l1 with
 |nil=>
  have ne:l2=x::x2::la:=ne
  subst ne
  exact z_ie (Nat.lt_irrefl 0) (lo_t1 S (h2 x (.head _)) hF hk)
 |cons x0 l1=>
  have S2:=S.ga h1
  refine z_it (Ar _) ?_
  cases l2 with
  |nil=>exact z_ie (sz_n S2.na rfl) (z_it (sz_y (k:=0) S2.na rfl) (Al ⟨hF,S2.dD (List.nil_merge _)⟩))
  |cons x l2=>
   cases l2 with
   |nil=>exact z_it (sz_y S2.na rfl) (Al ⟨hF,S2.dL⟩)
   |cons x2 la=>exact z_ie (sz_n S2.na rfl) (z_ie (sz_n (k:=0) S2.na rfl) (lo_t1 S2 (h2 x (.head _)) hF (Aa (Ay (Nat.sub_le_sub_left (Ao _ _) _) _) hk)))
theorem lo_t0{k0:Nat}(S:X.S out i j (x::x2::la) (y::lb))(hF:X.F st):X.C.W (loT0 X.a X.b out i j mg k0 bc) (X.lo.T True ((X.a.size-i)+(X.b.size-j))) st:=
 wpS_bind (B4k (z_el (dp_e S.db) (wpS_bind (S.galA (X.sg _ _ hF) λl1 l2 e h1 h2=>lo_t0b (e▸S) e.symm h1 h2 (X.sg _ _ hF) (Ac _)))))
theorem lo_ok(ha:X.a.toList=x::la)(hb:X.b.toList=y::lb)(hF:X.F st):X.C.W (A4e X.a X.b) (λr st=>X.F st/\X.R r) st:=by
 have S:X.S #[] 0 0 (x::la) (y::lb):=⟨ha,hb,(congrArg List.length ha).trans (Bc _).symm,(congrArg List.length hb).trans (Bc _).symm,by rw[←ha,←hb];rfl⟩
 have S2:=S.pb (X.first y (hb▸rfl) x (ha▸ .head _))
 rw[B3u]
 refine wpS_bind (A8l (z_el (dp_e S.db) ?_))
 cases lb with
 |nil=>exact z_it (sz_y (i:=1) (k:=0) S2.nb rfl) (Al ⟨hF,S2.dD mg_n⟩)
 |cons y2 lb=>
  refine z_ie (sz_n (i:=1) (k:=0) S2.nb rfl) ?_
  cases la with
  |nil=>exact z_it (sz_y S2.na rfl) (Al ⟨hF,S2.dL⟩)
  |cons x2 la=>
   refine z_ie (sz_n S2.na rfl) (tg_end (G:=X.lo) (λo i j q=>q.rec λ_ _ _ _ _ S=>Nat.add_pos_left (Nat.sub_pos_of_lt S.ia) _) (λg n c st hF q=> ?_) (λn c st hF q=>q.rec λ_ _ _ _ _ S=>z_i2 (lo_t0 S hF) (lo_t0 S hF)) (.mk _ _ _ _ _ S2) hF (Be (Nat.sub_le _ _) (Nat.sub_le _ _)))
   refine q.rec λx x2 la y lb S=>z_el (dp_e S.db) (z_el (dp_e S.da) (wpS_bind (X.C.lt _ _ _ _ S.py S.px (X.kd _ hF) ?_)))
   cases e:X.C.le x y with
   |true=>exact lo_ax S e hF (Ac _)
   |false=>exact lo_b S e hF (Ac _)
end
abbrev Bh(τ:Type):=Bu Nat Nat Ks τ
noncomputable def hiD(a b out:Ks)(i j:Nat):Ks:=a.extract 0 i++b.extract 0 j++out.reverse
noncomputable def hiL(a b out:Ks)(i j:Nat):Ks:=b.extract 0 j++a.extract 0 i++out.reverse
noncomputable def hiAx{τ:Type}(a b out:Ks)(i j:Nat)(c:Prop)[Decidable c](t:τ):SM (ForInStep (Bh τ)):=do
 let z←elem' a (i-1)
 if(i-1==0)=true then pure (.done (some (hiD a b (out.push z) (i-1) j),i-1,j,out.push z,t))
 else if c then pure (.done (none,i-1,j,out.push z,t))
 else pure (.yield (none,i-1,j,out.push z,t))
noncomputable def hiB(a b out:Ks)(i j mg bc:Nat):SM (ForInStep (Bh (Nat×Nat))):=do
 let z←elem' b (j-1)
 if(j-1==1)=true then pure (.done (some (hiL a b (out.push z) i (j-1)),i,j-1,out.push z,0,bc+1))
 else if bc+1≥mg then pure (.done (none,i,j-1,out.push z,0,bc+1))
 else pure (.yield (none,i,j-1,out.push z,0,bc+1))
noncomputable def hiOn(a b out:Ks)(mg i j ac bc:Nat):SM (ForInStep (Bh (Nat×Nat))):=do
 let x←elem' b (j-1)
 let y←elem' a (i-1)
 let r←lt' x y
 match r with
 |some w=>if w=true then hiAx a b out i j (ac+1≥mg) (ac+1,0) else hiB a b out i j mg bc
 |_=>pure (.done (some (hiD a b out i j),i,j,out,ac,bc))
noncomputable def hiOne(a b:Ks)(mg:Nat):Nat->Bh (Nat×Nat)->SM (ForInStep (Bh (Nat×Nat))):=λ_ c=>hiOn a b c.2.2.2.1 mg c.2.1 c.2.2.1 c.2.2.2.2.1 c.2.2.2.2.2
noncomputable def hiT1b(a b out:Ks)(i j mg k k1:Nat):SM (ForInStep (Bh (Nat×Nat×Nat))):=
 if j-k1>0 then
  (if(k1==1)=true then pure (.done (some (hiL a b (out++(b.extract k1 j).reverse) i k1),i,k1,out++(b.extract k1 j).reverse,mg,k,j-k1))
  else if(k1==0)=true then pure (.done (some (hiD a b (out++(b.extract k1 j).reverse) i k1),i,k1,out++(b.extract k1 j).reverse,mg,k,j-k1))
  else hiAx a b (out++(b.extract k1 j).reverse) i k1 ((decide (k<7)&&decide (j-k1<7))=true) (mg,k,j-k1))
 else hiAx a b out i j ((decide (k<7)&&decide (j-k1<7))=true) (mg,k,j-k1)
noncomputable def hiT1(a b out:Ks)(i j mg k bc:Nat):SM (ForInStep (Bh (Nat×Nat×Nat))):=do
 let z←elem' b (j-1)
 if(j-1==1)=true then pure (.done (some (hiL a b (out.push z) i (j-1)),i,j-1,out.push z,mg,k,bc))
 else do
  let y←elem' a (i-1)
  let r←gallop' true y b 0 (j-1) (j-1-1)
  match r with
  |some k1=>hiT1b a b (out.push z) i (j-1) mg k k1
  |_=>pure (.done (some (hiD a b (out.push z) i (j-1)),i,j-1,out.push z,mg,k,bc))
noncomputable def hiT0b(a b out:Ks)(i j mg k bc:Nat):SM (ForInStep (Bh (Nat×Nat×Nat))):=
 if i-k>0 then
  (if(k==0)=true then pure (.done (some (hiD a b (out++(a.extract k i).reverse) k j),k,j,out++(a.extract k i).reverse,mg,i-k,bc))
  else hiT1 a b (out++(a.extract k i).reverse) k j mg (i-k) bc)
 else hiT1 a b out i j mg (i-k) bc
noncomputable def hiT0(a b out:Ks)(mg i j ac bc:Nat):SM (ForInStep (Bh (Nat×Nat×Nat))):=do
 A1y mg
 let x←elem' b (j-1)
 let r←gallop' false x a 0 i (i-1)
 match r with
 |some k=>hiT0b a b out i j mg k bc
 |_=>pure (.done (some (hiD a b out i j),i,j,out,mg,ac,bc))
noncomputable def hiTwo(a b:Ks):Nat->Bh (Nat×Nat×Nat)->SM (ForInStep (Bh (Nat×Nat×Nat))):=λ_ c=>
 if c.2.2.2.2.1>1 then hiT0 a b c.2.2.2.1 (c.2.2.2.2.1-1) c.2.1 c.2.2.1 c.2.2.2.2.2.1 c.2.2.2.2.2.2
 else hiT0 a b c.2.2.2.1 c.2.2.2.2.1 c.2.1 c.2.2.1 c.2.2.2.2.2.1 c.2.2.2.2.2.2
theorem B3v(a b:Ks):A4f a b=(do
 liftM (rule "list.sort.merge-hi")
 let x←elem' a (a.size-1)
 if(a.size-1==0)=true then pure (hiD a b #[x] (a.size-1) b.size)
 else if(b.size==1)=true then pure (hiL a b #[x] (a.size-1) b.size)
 else mgEnd (a.size+b.size) (a.size-1) b.size #[x] (B2b (a.size+b.size) (hiOne a b) (hiTwo a b))):=by kernel_rfl
structure MT(le:Keyed->Keyed->Bool)(a b out:Ks)(la lb:List Keyed):Prop where
 da:(b.toList.take la.length).reverse=la
 db:(a.toList.take lb.length).reverse=lb
 m:out.toList++zm le la lb=zm le b.toList.reverse a.toList.reverse
section
variable{le:Keyed->Keyed->Bool}{a b out:Ks}{i j k n mg bc:Nat}{x x2 y:Keyed}{r la lb l1 l2:List Keyed}{X:Mx}{st:SortSt}
theorem tr_r(h:(a.toList.take (l1++l2).length).reverse=l1++l2):a.toList.take (l1++l2).length=l2.reverse++l1.reverse:=by
 have q:=congrArg List.reverse h
 rw[Ct,Cu] at q
 exact q
theorem tr_k(h:(a.toList.take (l1++l2).length).reverse=l1++l2):(a.toList.take l2.length).reverse=l2:=by
 have q:=congrArg (List.take l2.length) (tr_r h)
 rw[List.take_take,Ci (by rw[Ae];exact Bb _ _),List.take_left' Bv] at q
 rw[q,Ct]
theorem tr_x(h:(a.toList.take (l1++l2).length).reverse=l1++l2):((a.extract l2.length (l1++l2).length).reverse).toList=l1:=by
 rw[Array.toList_reverse,Array.toList_extract]
 show(List.take ((l1++l2).length-l2.length) (List.drop l2.length a.toList)).reverse=l1
 rw[←List.drop_take,tr_r h,List.drop_left' Bv,Ct]
theorem tr_e(h:(a.toList.take (x::r).length).reverse=x::r):a[r.length]?=some x:=
 Bx.symm.trans ((List.getElem?_take_of_lt (Ax r.length)).symm.trans ((congrArg (λz:List Keyed=>z[r.length]?) (tr_r (l1:=[x]) h)).trans (Bv (as:=r)▸List.getElem?_concat_length)))
theorem tr_0(h:(a.toList.take la.length).reverse=la):(a.extract 0 la.length).toList=la.reverse:=
 Array.toList_extract.trans ((Ct (List.take la.length a.toList)).symm.trans (congrArg List.reverse h))
theorem MT.stA(S:MT le a b out (l1++l2) lb)(e:zm le (l1++l2) lb=l1++zm le l2 lb){out':Ks}(h:out'.toList=out.toList++l1):MT le a b out' l2 lb:=
 ⟨tr_k S.da,S.db,by rw[h,Ai,←e];exact S.m⟩
theorem MT.stB(S:MT le a b out la (l1++l2))(e:zm le la (l1++l2)=l1++zm le la l2){out':Ks}(h:out'.toList=out.toList++l1):MT le a b out' la l2:=
 ⟨S.da,tr_k S.db,by rw[h,Ai,←e];exact S.m⟩
theorem MT.pa(S:MT le a b out (x::la) (y::lb))(h:le x y=true):MT le a b (out.push x) la (y::lb):=S.stA (l1:=[x]) (mg_a h) Array.toList_push
theorem MT.pb(S:MT le a b out (x::la) (y::lb))(h:le x y=false):MT le a b (out.push y) (x::la) lb:=S.stB (l1:=[y]) (mg_b h) Array.toList_push
theorem MT.ga(S:MT le a b out (l1++l2) (y::lb))(h:∀x∈l1,le x y=true):MT le a b (out++(b.extract l2.length (l1++l2).length).reverse) l2 (y::lb):=S.stA (mg_as h) (Cf.trans (congrArg (out.toList++ ·) (tr_x S.da)))
theorem MT.gb(S:MT le a b out (x::la) (l1++l2))(h:∀y∈l1,le x y=false):MT le a b (out++(a.extract l2.length (l1++l2).length).reverse) (x::la) l2:=S.stB (mg_bs h) (Cf.trans (congrArg (out.toList++ ·) (tr_x S.db)))
abbrev Mx.sw(X:Mx)(x y:Keyed):Bool:=X.C.le y x
abbrev Mx.H(X:Mx)(out:Ks)(la lb:List Keyed):Prop:=MT X.sw X.a X.b out la lb
theorem q_of{r:Ks}(h:r.toList.reverse=zm X.sw X.b.toList.reverse X.a.toList.reverse):X.R r:=by
 have p:r.toList.Perm (X.b.toList.reverse++X.a.toList.reverse):=(List.reverse_perm r.toList).symm.trans (h.symm▸List.merge_perm_append X.sw)
 refine⟨p.trans ((List.reverse_perm _).append (List.reverse_perm _) |>.trans List.perm_append_comm),?_⟩
 have q:=List.pairwise_merge (le:=X.sw) (λ_ _ _ h g=>X.C.tr g h) (λx y=>X.C.to y x) _ _ (List.pairwise_reverse.mpr X.sb) (List.pairwise_reverse.mpr X.sa)
 exact List.pairwise_reverse.mp (h▸q)
theorem MT.dD(S:X.H out la lb)(h:zm X.sw la lb=la++lb):X.R (hiD X.a X.b out lb.length la.length):=q_of (by
 show(X.a.extract 0 lb.length++X.b.extract 0 la.length++out.reverse).toList.reverse=_
 rw[Cf,Cf,tr_0 S.da,tr_0 S.db,Array.toList_reverse,Cu,Ct,Cu,Ct,Ct,←h];exact S.m)
theorem MT.dL(S:X.H out [x] lb):X.R (hiL X.a X.b out lb.length 1):=q_of (by
 have e:X.b.toList.head?=some x:=by
  have q:=tr_r (l1:=[x]) (l2:=[]) S.da
  cases w:X.b.toList with
  |nil=>rw[w] at q;cases q
  |cons z l=>rw[w] at q;exact congrArg List.head? q
 show(X.b.extract 0 [x].length++X.a.extract 0 lb.length++out.reverse).toList.reverse=_
 rw[Cf,Cf,tr_0 S.da,tr_0 S.db,Array.toList_reverse,Cu,Ct,Cu,Ct,Ct,←mg_l (le:=X.sw) λy q=>X.first x e y (List.mem_of_mem_take (Cc.mp (S.db.symm▸q)))];exact S.m)
inductive HiS(X:Mx):Nat->Nat->Ks->Prop
 |mk (x x2:Keyed) (la:List Keyed) (y:Keyed) (lb:List Keyed) (out:Ks) (S:X.H out (x::x2::la) (y::lb)):HiS X (lb.length+1) (la.length+2) out
noncomputable abbrev Mx.hi(X:Mx):Tg Nat Nat Ks:=⟨X.C,X.F,X.kd,X.sg,HiS X,λi j _=>i+j,X.R⟩
theorem MT.px(S:X.H out (x::la) lb):X.C.P x:=X.pb x (List.mem_of_mem_take (Cc.mp ((congrArg (x∈ ·) S.da).mpr (.head _))))
theorem MT.py(S:X.H out la (y::lb)):X.C.P y:=X.pa y (List.mem_of_mem_take (Cc.mp ((congrArg (y∈ ·) S.db).mpr (.head _))))
theorem lt1{m:Nat}(h:m+1<=n):m<n:=h
theorem hi_ax{τ:Type}{c:Prop}[Decidable c]{t:τ}(S:X.H out (x::x2::la) (y::lb))(h:X.sw x y=false)(hF:X.F st)(hk:(y::lb).length+(x::x2::la).length<=n):X.C.W (hiAx X.a X.b out (y::lb).length (x::x2::la).length c t) (X.hi.T True n) st:=by
 refine z_el (tr_e S.db) ?_
 have S2:=S.pb h
 cases lb with
 |nil=>exact z_it rfl (Al ⟨hF,S2.dD mg_n⟩)
 |cons y2 lb=>
  have lt:=Ap (Nat.add_lt_add_right (Ax (y2::lb).length) (x::x2::la).length) hk
  exact z_ie (λz=>A5 z) (z_i2 (Al ⟨hF,⟨⟩,.mk _ _ _ _ _ _ S2,lt⟩) (Al ⟨hF,.mk _ _ _ _ _ _ S2,lt⟩))
theorem hi_b(S:X.H out (x::x2::la) (y::lb))(h:X.sw x y=true)(hF:X.F st)(hk:(y::lb).length+(x::x2::la).length<=n):X.C.W (hiB X.a X.b out (y::lb).length (x::x2::la).length mg bc) (X.hi.T True n) st:=by
 refine z_el (tr_e S.da) ?_
 have S2:=S.pa h
 cases la with
 |nil=>exact z_it rfl (Al ⟨hF,S2.dL⟩)
 |cons x3 la=>
  have lt:=Ap (Nat.add_lt_add_left (Ax (x2::x3::la).length) (y::lb).length) hk
  exact z_ie (λz=>A5 z) (z_i2 (Al ⟨hF,⟨⟩,.mk _ _ _ _ _ _ S2,lt⟩) (Al ⟨hF,.mk _ _ _ _ _ _ S2,lt⟩))
theorem re_2{p q:List Keyed}(e:la.reverse=p++q):la=q.reverse++p.reverse:=by rw[←Cu,←e,Ct]
theorem MT.galB(S:X.H out (x::la) (y::lb))(hF:X.F st){Q:Option Nat->SortSt->Prop}(K:∀l1 l2,x::la=l1++l2->(∀z∈l1,X.sw z y=true)->(∀z∈l2,X.sw z y=false)->Q (some l2.length) st):X.C.W (gallop' true y X.b 0 (x::la).length ((x::la).length-1)) Q st:=by
 have e:X.b.toList.take (x::la).length=(x::la).reverse:=tr_r (l1:=x::la) (l2:=[]) ((A6 (x::la)).symm▸S.da) |> λq=>by rw[A6] at q;exact q
 exact A6y (L:=(x::la).reverse) e Bv (Ax la.length) (e▸X.sb.sublist (List.take_sublist _ _)) S.py (λz q=>X.pb z (List.mem_of_mem_take (show z∈X.b.toList.take (x::la).length from e.symm▸q))) (X.kd _ hF)
  λl1 l2 e h1 h2=>Bv (as:=l1)▸K l2.reverse l1.reverse (re_2 e) (λz q=>(Bool.not_eq_false' _).mp (h2 z (Cc.mp q))) λz q=>(Cg _).mp (h1 z (Cc.mp q))
theorem MT.galA(S:X.H out (x::la) (y::lb))(hF:X.F st){Q:Option Nat->SortSt->Prop}(K:∀l1 l2,y::lb=l1++l2->(∀z∈l1,X.sw x z=false)->(∀z∈l2,X.sw x z=true)->Q (some l2.length) st):X.C.W (gallop' false x X.a 0 (y::lb).length ((y::lb).length-1)) Q st:=by
 have e:X.a.toList.take (y::lb).length=(y::lb).reverse:=tr_r (l1:=y::lb) (l2:=[]) ((A6 (y::lb)).symm▸S.db) |> λq=>by rw[A6] at q;exact q
 exact A6y (L:=(y::lb).reverse) e Bv (Ax lb.length) (e▸X.sa.sublist (List.take_sublist _ _)) S.px (λz q=>X.pa z (List.mem_of_mem_take (show z∈X.a.toList.take (y::lb).length from e.symm▸q))) (X.kd _ hF)
  λl1 l2 e h1 h2=>Bv (as:=l1)▸K l2.reverse l1.reverse (re_2 e) (λz q=>h2 z (Cc.mp q)) λz q=>h1 z (Cc.mp q)
theorem gt_no:¬([]++l2:List Keyed).length-l2.length>0:=λz=>Nat.lt_irrefl 0 ((Nat.sub_self l2.length)▸z)
theorem gt_ye:(x::l1++l2).length-l2.length>0:=Nat.sub_pos_of_lt (by rw[Ae];exact Nat.lt_add_of_pos_left (Ar _))
theorem le_k:l2.length<=(l1++l2).length:=Ae (as:=l1)▸Bb _ _
theorem hi_t1b{k0 jj:Nat}(ej:jj=(l1++l2).length)(S:X.H out (l1++l2) (y::lb))(ne:l1++l2=x::x2::la)(h1:∀z∈l1,X.sw z y=true)(h2:∀z∈l2,X.sw z y=false)(hF:X.F st)(hk:(y::lb).length+jj<=n):X.C.W (hiT1b X.a X.b out (y::lb).length jj mg k0 l2.length) (X.hi.T True n) st:=by
 subst ej
 cases l1 with
 |nil=>
  have ne:l2=x::x2::la:=ne
  subst ne
  exact z_ie gt_no (hi_ax S (h2 x (.head _)) hF hk)
 |cons x0 l1=>
  have S2:=S.ga h1
  refine z_it gt_ye ?_
  cases l2 with
  |nil=>exact z_ie (λz=>A5 z) (z_it rfl (Al ⟨hF,S2.dD (List.nil_merge _)⟩))
  |cons x l2=>
   cases l2 with
   |nil=>exact z_it rfl (Al ⟨hF,S2.dL⟩)
   |cons x2 la=>exact z_ie (λz=>A5 z) (z_ie (λz=>A5 z) (hi_ax S2 (h2 x (.head _)) hF (Aa (Au le_k _) hk)))
theorem hi_t1{k0:Nat}(S:X.H out (x::x2::la) (y::lb))(h:X.sw x y=true)(hF:X.F st)(hk:(y::lb).length+(x::x2::la).length<=n):X.C.W (hiT1 X.a X.b out (y::lb).length (x::x2::la).length mg k0 bc) (X.hi.T True n) st:=by
 refine z_el (tr_e S.da) ?_
 have S2:=S.pa h
 cases la with
 |nil=>exact z_it rfl (Al ⟨hF,S2.dL⟩)
 |cons x3 la=>exact z_ie (λz=>A5 z) (z_el (tr_e S2.db) (wpS_bind (S2.galB hF λl1 l2 e h1 h2=>hi_t1b (congrArg List.length e) (e▸S2) e.symm h1 h2 hF (Ak (Ap (Nat.add_lt_add_left (Ax (x2::x3::la).length) (y::lb).length) hk)))))
theorem hi_t0b{ii:Nat}(ei:ii=(l1++l2).length)(S:X.H out (x::x2::la) (l1++l2))(ne:l1++l2=y::lb)(h1:∀z∈l1,X.sw x z=false)(h2:∀z∈l2,X.sw x z=true)(hF:X.F st)(hk:ii+(x::x2::la).length<=n):X.C.W (hiT0b X.a X.b out ii (x::x2::la).length mg l2.length bc) (X.hi.T True n) st:=by
 subst ei
 cases l1 with
 |nil=>
  have ne:l2=y::lb:=ne
  subst ne
  exact z_ie gt_no (hi_t1 S (h2 y (.head _)) hF hk)
 |cons y0 l1=>
  have S2:=S.gb h1
  refine z_it gt_ye ?_
  cases l2 with
  |nil=>exact z_it rfl (Al ⟨hF,S2.dD mg_n⟩)
  |cons y l2=>exact z_ie (λz=>A5 z) (hi_t1 S2 (h2 y (.head _)) hF (Aa (Ay le_k _) hk))
theorem hi_t0{k0:Nat}(S:X.H out (x::x2::la) (y::lb))(hF:X.F st):X.C.W (hiT0 X.a X.b out mg (y::lb).length (x::x2::la).length k0 bc) (X.hi.T True ((y::lb).length+(x::x2::la).length)) st:=
 wpS_bind (B4k (z_el (tr_e S.da) (wpS_bind (S.galA (X.sg _ _ hF) λl1 l2 e h1 h2=>hi_t0b (congrArg List.length e) (e▸S) e.symm h1 h2 (X.sg _ _ hF) (Ac _)))))
theorem hi_two(q:HiS X i j out)(hF:X.F st){ac:Nat}:X.C.W (hiT0 X.a X.b out mg i j ac bc) (X.hi.T True (i+j)) st:=by
 cases q with
 |mk x x2 la y lb out S=>exact hi_t0 S hF
theorem hi_one(q:HiS X i j out)(hF:X.F st){ac:Nat}:X.C.W (hiOn X.a X.b out mg i j ac bc) (X.hi.T True (i+j)) st:=by
 cases q with
 |mk x x2 la y lb out S=>
  refine z_el (tr_e S.da) (z_el (tr_e S.db) (wpS_bind (X.C.lt _ _ _ _ S.px S.py (X.kd _ hF) ?_)))
  cases e:X.C.le y x with
  |true=>exact hi_b S e hF (Ac _)
  |false=>exact hi_ax S e hF (Ac _)
theorem hi_ok(ha:X.a.toList.reverse=y::lb)(hb:X.b.toList.reverse=x::la)(hF:X.F st):X.C.W (A4f X.a X.b) (λr st=>X.F st/\X.R r) st:=by
 have na:X.a.size=lb.length+1:=(Bv (as:=X.a.toList)).symm.trans (congrArg List.length ha)
 have nb:X.b.size=la.length+1:=(Bv (as:=X.b.toList)).symm.trans (congrArg List.length hb)
 have S:X.H #[] (x::la) (y::lb):=⟨by rw[←hb,Bv,List.take_length],by rw[←ha,Bv,List.take_length],by rw[←ha,←hb];rfl⟩
 have mem:x∈X.b.toList:=Cc.mp (hb▸ .head _)
 have gl:X.a.toList.getLast?=some y:=by rw[List.getLast?_eq_head?_reverse,ha];rfl
 have S2:=S.pb (X.last y gl x mem)
 rw[B3v,na,nb]
 refine wpS_bind (A8l (z_el (tr_e S.db) ?_))
 cases lb with
 |nil=>exact z_it rfl (Al ⟨hF,S2.dD mg_n⟩)
 |cons y2 lb=>
  refine z_ie (λz=>A5 z) ?_
  cases la with
  |nil=>exact z_it rfl (Al ⟨hF,S2.dL⟩)
  |cons x2 la=>
   exact z_ie (λz=>A5 z) (tg_end (G:=X.hi) (λi j o q=>q.rec λ_ _ _ _ _ _ _=>Ar _) (λg n c st hF q=>hi_one q hF) (λn c st hF q=>z_i2 (hi_two q hF) (hi_two q hF)) (.mk _ _ _ _ _ _ S2) hF (Be (A9 _) (Ac _)))
end
section
variable{xs:Ks}{A B D:List Keyed}{x y z:Keyed}{i j k:Nat}
theorem ap_2{α:Type}{A B:List α}:∀k,(A++B)[A.length+k]?=B[k]?:=λk=>by rw[List.getElem?_append_right (Ao _ _),Cv]
theorem sp_3(A B:List Keyed)(k:Nat):k<A.length∨(∃m,m<B.length/\k=A.length+m)∨∃m,k=A.length+(B.length+m):=by
 rcases Nat.lt_or_ge k A.length with h | h
 ·exact .inl h
 ·obtain⟨m,rfl⟩:=Nat.le.dest h
  rcases Nat.lt_or_ge m B.length with h | h
  ·exact .inr (.inl ⟨m,h,rfl⟩)
  ·obtain⟨q,rfl⟩:=Nat.le.dest h
   exact .inr (.inr ⟨q,rfl⟩)
theorem mir_t(h:xs.toList=A++(B++D)):(mirror xs A.length (A.length+B.length) ((A.length+B.length-A.length)/2)).toList=A++(B.reverse++D):=by
 have hs:A.length+B.length<=xs.size:=by
  have q:=congrArg List.length h
  rw[Ae,Ae,←A7] at q
  exact Aa (Ao _ _) (Aj q.symm)
 refine List.ext_getElem? λk=> ?_
 rw[Bx,getElem?_mirror_all hs,←Bx,←Bx,h]
 rcases sp_3 A B k with q | ⟨m,q,rfl⟩ | ⟨m,rfl⟩
 ·rw[if_neg (λw=>B9 q w.1),Bp q,Bp q]
 ·have e:A.length+(A.length+B.length)-1- (A.length+m)=A.length+(B.length-1-m):=by
   rw[Nat.sub_sub,Bg 1,A7,Nat.add_sub_add_left,Bg m 1,←Nat.sub_sub,Nat.add_sub_assoc (Nat.succ_le_of_lt (As (Ag m) q)),Nat.add_sub_assoc (Nat.le_sub_one_of_lt q)]
  rw[if_pos ⟨Ao _ _,Nat.add_lt_add_left q _⟩,e,ap_2,ap_2,Bp (As (Nat.sub_le _ _) (Nat.sub_one_lt_of_lt q)),Bp (by rw[Bv];exact q),List.getElem?_reverse q]
 ·rw[if_neg (λw=>Nat.not_lt_of_le (Au (Ao _ _) _) w.2),ap_2,ap_2,ap_2]
  exact(ap_2 (A:=B.reverse) (B:=D) m).symm.trans (by rw[Bv]) |>.symm▸rfl
theorem bub_t(h:xs.toList=A++(B++x::D)):(bubble xs (A.length+B.length) B.length).toList=A++(x::(B++D)):=by
 have hs:A.length+B.length<xs.size:=by
  have q:=congrArg List.length h
  rw[Ae,Ae,←A7] at q
  exact Ap (B5 (Ar _)) (Aj q.symm)
 refine List.ext_getElem? λk=> ?_
 rw[Bx,getElem?_bubble hs _ (Bb _ _),←Bx,←Bx,←Bx,h,Nat.add_sub_cancel]
 rcases sp_3 A (x::B) k with q | ⟨m,q,rfl⟩ | ⟨m,rfl⟩
 ·rw[if_neg (B8 q),if_neg (λw=>Nat.lt_asymm q w.1),Bp q,Bp q]
 ·rw[ap_2 (A:=A) (B:=x::(B++D))]
  cases m with
  |zero=>rw[if_pos (Nat.add_zero A.length)];exact(ap_2 B.length).trans (ap_2 (A:=B) (B:=x::D) 0)
  |succ m=>
   have q:=Nat.lt_of_succ_lt_succ q
   rw[if_neg (Nat.ne_of_gt (B5 (Ar m))),if_pos ⟨B5 (Ar m),Au q _⟩]
   show(A++(B++x::D))[A.length+m]?=(B++D)[m]?
   rw[ap_2,Bp q,Bp q]
 ·have q:A.length+B.length<A.length+((x::B).length+m):=Nat.add_lt_add_left (Ap (Ax _) (Ao _ _)) _
  rw[ap_2 (A:=A) (B:=x::(B++D)),if_neg (Nat.ne_of_gt (As (Ao _ _) q)),if_neg (λw=>B9 q w.2),ap_2]
  rw[show(x::B).length+m=B.length+(m+1) from Cr _ _]
  exact(ap_2 (A:=B) (B:=x::D) (m+1)).trans (ap_2 (A:=B) (B:=D) m).symm
end
noncomputable def ascS(lo:Nat):Nat->AscSt->SM (ForInStep AscSt):=λ_ c=>do
 let x←ltAt' (lo+c.2) (lo+c.2-1)
 match x with
 |some w=>if w=true then pure (.done (none,c.2)) else pure (.yield (none,c.2+1))
 |_=>pure (.done (some none,c.2))
noncomputable def ascE(lo n nrem:Nat):SM (Option Nat):=do
 reverseSlice' lo (lo+n)
 let c←forIn [n:nrem] ((none,n):AscSt) (ascS lo)
 zOpt c.1 pure (pure (some c.2))
noncomputable def dscA(lo n q:Nat):SM (ForInStep DescSt):=if q>0 then do
  reverseSlice' (lo+n- (q+1)) (lo+n)
  pure (.yield (none,n+1,0))
 else pure (.yield (none,n+1,0))
noncomputable def dscB(lo n q:Nat):SM (ForInStep DescSt):=do
 let x←ltAt' (lo+n-1) (lo+n)
 match x with
 |some w=>if w=true then pure (.done (none,n,q)) else pure (.yield (none,n+1,q+1))
 |_=>pure (.done (some none,n,q))
noncomputable def dscS(lo:Nat):Nat->DescSt->SM (ForInStep DescSt):=λ_ c=>do
 let x←ltAt' (lo+c.2.1) (lo+c.2.1-1)
 match x with
 |some w=>if w=true then dscA lo c.2.1 c.2.2 else dscB lo c.2.1 c.2.2
 |_=>pure (.done (some none,c.2.1,c.2.2))
noncomputable def dscF(lo nrem n q:Nat):SM (Option Nat):=if q>0 then do
  reverseSlice' (lo+n- (q+1)) (lo+n)
  ascE lo n nrem
 else ascE lo n nrem
noncomputable def dscE(lo nrem:Nat)(c:DescSt):SM (Option Nat):=zOpt c.1 pure (dscF lo nrem c.2.1 c.2.2)
noncomputable def dscP(lo n nrem:Nat):SM (Option Nat):=do
 liftM (rule "list.sort.descending-run")
 let c←forIn [n+1:nrem] ((none,n+1,0):DescSt) (dscS lo)
 dscE lo nrem c
noncomputable def cntE(lo nrem n:Nat):SM (Option Nat):=if n>1 then do
  let x←ltAt' lo (lo+n-1)
  match x with
  |some w=>if w=true then pure (some n) else do
    reverseSlice' lo (lo+n)
    dscP lo n nrem
  |_=>pure none
 else dscP lo n nrem
theorem count_eq(lo nrem:Nat):countRun' lo nrem=(do
 let c←forIn [1:nrem] ((none,1):AscSt) (ascS lo)
 zOpt c.1 pure (if(c.2==nrem)=true then pure (some c.2) else cntE lo nrem c.2)):=by kernel_rfl
structure Rn(C:Sc)(pd:Array (Nat×Nat×Nat))(p t0 u r:List Keyed)(st:SortSt):Prop where
 k:kindOf st=C.kd
 pn:pendingOf st=pd
 fl:failedOf st=none
 ar:(arrOf st).toList=p++(u++r)
 pm:(u++r).Perm t0
section
variable{C:Sc}{pd:Array (Nat×Nat×Nat)}{p t0 u v e r:List Keyed}{x y z:Keyed}{st:SortSt}{i j n:Nat}{xs:Ks}
theorem ar_y(h:xs.toList=p++(u++y::r)):xs[p.length+u.length]?=some y:=by
 rw[←Bx,h,ap_2];exact ap_2 (A:=u) (B:=y::r) 0
theorem ar_z(h:xs.toList=p++(u++[z]++r)):xs[p.length+(u++[z]).length-1]?=some z:=by
 rw[Ae];exact ar_y (by rw[h,Ai];rfl)
theorem z_lt{Q:Option Bool->SortSt->Prop}(h1:(arrOf st)[i]?=some x)(h2:(arrOf st)[j]?=some y)(px:C.P x)(py:C.P y)(k:kindOf st=C.kd)(q:Q (some (!C.le y x)) st):C.W (ltAt' i j) Q st:=by
 show wpS _ _ _ _ (ltAt' i j) Q st
 rw[ltAt'_eq]
 exact wpS_bind (wpS_get (z_el h1 (z_el h2 (C.lt x y st Q px py k q))))
theorem Rn.pp(R:Rn C pd p t0 u r st)(hP:∀x∈t0,C.P x)(h:x∈u++r):C.P x:=hP x (R.pm.mem_iff.mp h)
theorem Rn.nx(R:Rn C pd p t0 u (y::r) st):Rn C pd p t0 (u++[y]) r st:=⟨R.k,R.pn,R.fl,by rw[R.ar,Ai];rfl,by rw[Ai];exact R.pm⟩
theorem Rn.ln(R:Rn C pd p t0 u r st):u.length+r.length=t0.length:=Ae.symm.trans R.pm.length_eq
theorem Rn.rev(R:Rn C pd p t0 (v++e) r st)(hi:i=p.length+v.length)(hj:j=p.length+(v++e).length){Q:Unit->SortSt->Prop}(K:∀st,Rn C pd p t0 (v++e.reverse) r st->Q () st):C.W (reverseSlice' i j) Q st:=by
 subst hi;subst hj
 refine wpS_modify (K _ ⟨R.k,R.pn,R.fl,?_,?_⟩)
 ·have q:=mir_t (xs:=arrOf st) (A:=p++v) (B:=e) (D:=r) (by rw[R.ar,Ai,Ai])
  rw[Ae,A7,←Ae (as:=v) (bs:=e)] at q
  exact q.trans (by rw[Ai,Ai])
 ·exact(((List.reverse_perm e).append_left v).append_right r).trans R.pm
abbrev Sc.D(C:Sc)(l:List Keyed):Prop:=l.Pairwise λx y=>C.le y x=true
theorem le_of(h:C.le x y=false):C.le y x=true:=by have q:=C.to x y;rw[h] at q;exact q
theorem B7e:C.le x x=true:=by have q:=C.to x x;rw[Bool.or_self] at q;exact q
theorem s_sn(h:C.S (u++[z]))(g:C.le z y=true):C.S (u++[z]++[y]):=by
 refine Ck.mpr ⟨h,List.pairwise_singleton _ _,λa ha b hb=> ?_⟩
 cases Bo.mp hb
 rcases Cd.mp ha with q | q
 ·exact C.tr ((Ck.mp h).2.2 a q z (.head _)) g
 ·cases Bo.mp q;exact g
theorem d_sn(h:C.D u)(g:∀a∈u,C.le y a=true):C.D (u++[y]):=Ck.mpr ⟨h,List.pairwise_singleton _ _,λa ha b hb=>by cases Bo.mp hb;exact g a ha⟩
theorem d_le(h:C.D (u++[z]))(g:C.le y z=true):∀a∈u++[z],C.le y a=true:=λa ha=>by
 rcases Cd.mp ha with q | q
 ·exact C.tr g ((Ck.mp h).2.2 a q z (.head _))
 ·cases Bo.mp q;exact g
inductive Asc(C:Sc)(pd:Array (Nat×Nat×Nat))(p t0:List Keyed)(n:Nat):AscSt->SortSt->Prop
 |mk (u r:List Keyed) (z:Keyed) (st:SortSt) (R:Rn C pd p t0 (u++[z]) r st) (so:C.S (u++[z])) (e:(u++[z]).length=n):Asc C pd p t0 n (none,n) st
inductive AscX(C:Sc)(pd:Array (Nat×Nat×Nat))(p t0:List Keyed):AscSt->SortSt->Prop
 |mk (u r:List Keyed) (z:Keyed) (st:SortSt) (R:Rn C pd p t0 (u++[z]) r st) (so:C.S (u++[z])) (h:∀y r',r=y::r'->C.le z y=false):AscX C pd p t0 (none,(u++[z]).length) st
theorem asc_ok(hP:∀x∈t0,C.P x)(R:Rn C pd p t0 (u++[z]) r st)(so:C.S (u++[z]))(en:(u++[z]).length=n):C.W (forIn [n:t0.length] ((none,n):AscSt) (ascS p.length)) (AscX C pd p t0) st:=by
 refine wpS_forRange (I:=λx c st=>Asc C pd p t0 x c st) (λi c st _ hi h=> ?_) (λc st h=> ?_) (.mk u r z st R so en)
 ·refine h.rec λu r z st R so e=> ?_
  cases r with
  |nil=>exact absurd hi (Nat.not_lt_of_le (Aj (R.ln.symm.trans e)))
  |cons y r=>
   subst e
   refine wpS_bind (z_lt (ar_y R.ar) (ar_z R.ar) (R.pp hP (Cb _ (.head _))) (R.pp hP (Cy _ (Cb _ (.head _)))) R.k ?_)
   cases q:C.le z y with
   |false=>exact z_it rfl (Al (.mk u (y::r) z st R so λy' r' w=>by cases w;exact q))
   |true=>exact z_ie (λz=>A5 z) (Al (.mk (u++[z]) r y st R.nx (s_sn so q) Ae))
 ·have hN:n<=t0.length:=Aa (Aj en.symm) (Aa (Ao _ _) (Aj R.ln))
  rw[Nat.max_eq_right hN] at h
  cases h with
  |mk u r z st R so e=>exact e▸ .mk u r z st R so λy r' w=>absurd (e.trans (R.ln.symm.trans (congrArg (λr=>(u++[z]).length+List.length r) w))) (B8 (B5 (Ar _)))
end
inductive CntQ(C:Sc)(pd:Array (Nat×Nat×Nat))(p t0:List Keyed):Option Nat->SortSt->Prop
 |mk (u r:List Keyed) (st:SortSt) (R:Rn C pd p t0 u r st) (so:C.S u) (ne:1<=u.length):CntQ C pd p t0 (some u.length) st
abbrev Sc.Q(C:Sc)(l:List Keyed):Prop:=∀a∈l,∀b∈l,C.le a b=true
structure Ds(C:Sc)(pd:Array (Nat×Nat×Nat))(p t0 v e:List Keyed)(z:Keyed)(r:List Keyed)(st:SortSt):Prop where
 R:Rn C pd p t0 (v++(e++[z])) r st
 dn:C.D (v++(e++[z]))
 eq:C.Q (e++[z])
inductive Dsc(C:Sc)(pd:Array (Nat×Nat×Nat))(p t0:List Keyed)(n:Nat):DescSt->SortSt->Prop
 |mk (v e r:List Keyed) (z:Keyed) (st:SortSt) (S:Ds C pd p t0 v e z r st) (l:(v++(e++[z])).length=n):Dsc C pd p t0 n (none,n,e.length) st
inductive DscX(C:Sc)(pd:Array (Nat×Nat×Nat))(p t0:List Keyed):DescSt->SortSt->Prop
 |mk (n:Nat) (c:DescSt) (st:SortSt) (h:Dsc C pd p t0 n c st):DscX C pd p t0 c st
section
variable{C:Sc}{pd:Array (Nat×Nat×Nat)}{p t0 u v e r:List Keyed}{x y z:Keyed}{st:SortSt}{i j n q:Nat}
theorem rv_sn(h:1<=u.length):∃w z,u=w++[z]:=by
 cases u with
 |nil=>exact absurd h (Nat.not_succ_le_zero 0)
 |cons a u=>exact⟨_,_,(List.dropLast_concat_getLast (List.cons_ne_nil a u)).symm⟩
theorem len_r{e:List Keyed}:(v++e.reverse).length=(v++e).length:=by rw[Ae,Ae,Bv]
theorem B9m(hP:∀x∈t0,C.P x)(R:Rn C pd p t0 u r st)(d:C.D u)(ne:1<=u.length)(hn:n=u.length):C.W (ascE p.length n t0.length) (CntQ C pd p t0) st:=by
 refine wpS_bind (R.rev (v:=[]) (e:=u) rfl (congrArg (p.length+ ·) hn) λst R=> ?_)
 have so:C.S u.reverse:=List.pairwise_reverse.mpr d
 have l:u.reverse.length=n:=Bv.trans hn.symm
 have R:Rn C pd p t0 u.reverse r st:=R
 revert R so l
 obtain⟨w,z,e⟩:=rv_sn (u:=u.reverse) (Bv.symm▸ne)
 rw[e]
 exact λso l R=>A2k (asc_ok hP R so l) λc st h=>h.rec λu r z st R so _=>Al (.mk _ r st R so (Ae▸Bb _ _))
theorem Ds.le(S:Ds C pd p t0 v e z r st)(g:C.le y z=true):∀a∈v++(e++[z]),C.le y a=true:=Ai v e [z]▸d_le (Ai v e [z]▸S.dn) g
theorem Ds.dr(S:Ds C pd p t0 v e z r st):C.D (v++(e++[z]).reverse):=by
 have h:=Ck.mp S.dn
 exact Ck.mpr ⟨h.1,List.pairwise_of_forall_mem_list λa ha b hb=>S.eq b (Cc.mp hb) a (Cc.mp ha),λa ha b hb=>h.2.2 a ha b (Cc.mp hb)⟩
theorem dsc_y{v:List Keyed}(R:Rn C pd p t0 v (y::r) st)(d:C.D v)(h:∀a∈v,C.le y a=true):Ds C pd p t0 v [] y r st:=⟨R.nx,d_sn d h,λa ha b hb=>by cases Bo.mp ha;cases Bo.mp hb;exact B7e⟩
theorem Ds.rev{n q:Nat}(S:Ds C pd p t0 v e z r st)(hn:n=(v++(e++[z])).length)(hq:q=e.length){Q:Unit->SortSt->Prop}(K:∀st,Rn C pd p t0 (v++(e++[z]).reverse) r st->Q () st):C.W (reverseSlice' (p.length+n- (q+1)) (p.length+n)) Q st:=by
 refine S.R.rev ?_ (congrArg (p.length+ ·) hn) K
 rw[hn,hq,Ae,Ae,←A7]
 exact Nat.add_sub_cancel _ (e.length+1)
theorem dsc_ok(hP:∀x∈t0,C.P x)(S:Ds C pd p t0 v e z r st)(l:(v++(e++[z])).length=n)(hq:q=e.length):C.W (forIn [n:t0.length] ((none,n,q):DescSt) (dscS p.length)) (DscX C pd p t0) st:=by
 subst hq
 refine wpS_forRange (I:=λx c st=>Dsc C pd p t0 x c st) (λi c st _ hi h=> ?_) (λc st h=>.mk _ _ _ h) (.mk v e r z st S l)
 refine h.rec λv e r z st S l=> ?_
 cases r with
 |nil=>exact absurd hi (Nat.not_lt_of_le (Aj (S.R.ln.symm.trans l)))
 |cons y r=>
  have R2:Rn C pd p t0 (v++e++[z]) (y::r) st:=(Ai v e [z]).symm▸S.R
  have l2:(v++e++[z]).length=i:=(Ai v e [z]).symm▸l
  have py:=R2.pp hP (Cb _ (.head _))
  have pz:=R2.pp hP (Cy _ (Cb _ (.head _)))
  have zy:=ar_z R2.ar
  have yy:=ar_y R2.ar
  rw[l2] at zy yy
  refine wpS_bind (z_lt yy zy py pz S.R.k ?_)
  have ln:∀{w:List Keyed},w.length=i->(w++([]++[y])).length=i+1:=λh=>Ae.trans (congrArg (· +1) h)
  cases g:C.le z y with
  |false=>
   have g:=le_of g
   refine z_it rfl ?_
   cases e with
   |nil=>exact z_ie (Nat.lt_irrefl 0) (Al (.mk _ _ _ _ _ (dsc_y S.R S.dn (S.le g)) (ln l)))
   |cons a e=>exact z_it (Ar _) (wpS_bind (S.rev l.symm rfl λst R=>Al (.mk _ _ _ _ _ (dsc_y R S.dr λb hb=>S.le g b (Cd.mpr ((Cd.mp hb).imp_right Cc.mp))) (ln (len_r.trans l)))))
  |true=>
   refine z_ie (λz=>A5 z) (wpS_bind (z_lt zy yy pz py S.R.k ?_))
   cases g2:C.le y z with
   |false=>exact z_it rfl (Al (.mk _ _ _ (.mk _ _ _ _ _ S l)))
   |true=>
    refine z_ie (λz=>A5 z) (Al ?_)
    have ea:v++(e++[z])++[y]=v++(e++[z]++[y]):=Ai _ _ _
    have m:=Dsc.mk v (e++[z]) r y st ⟨ea▸S.R.nx,ea▸d_sn S.dn (S.le g2),λa ha b hb=> ?_⟩ (ea▸ln l)
    ·rw[Ae] at m
     exact m
    ·have f:∀a∈e++[z]++[y],C.le a y=true/\C.le y a=true:=λa ha=>by
      rcases Cd.mp ha with w | w
      ·exact⟨C.tr (S.eq a w z (Cb _ (.head _))) g,S.le g2 a (Cb _ w)⟩
      ·cases Bo.mp w;exact⟨B7e,B7e⟩
     exact C.tr (f a ha).1 (f b hb).2
theorem dsce_ok(hP:∀x∈t0,C.P x){c:DescSt}(h:DscX C pd p t0 c st):C.W (dscE p.length t0.length c) (CntQ C pd p t0) st:=
 h.rec λn c st h=>h.rec λv e r z st S l=>by
  have ne:∀{v:List Keyed},1<=(v++(e++[z])).length:=by
   intro v
   rw[Ae,Ae];exact Aa (Bb 1 _) (Bb _ _)
  show C.W (dscF p.length t0.length n e.length) _ st
  cases e with
  |nil=>exact z_ie (Nat.lt_irrefl 0) (B9m hP S.R S.dn ne l.symm)
  |cons a e=>exact z_it (Ar _) (wpS_bind (S.rev l.symm rfl λst R=>B9m hP R S.dr (len_r.symm▸ne) (l.symm.trans len_r.symm)))
theorem B8p(hP:∀x∈t0,C.P x)(R:Rn C pd p t0 u (y::r) st)(d:C.D u)(h:∀a∈u,C.le y a=true)(hn:u.length=n):C.W (dscP p.length n t0.length) (CntQ C pd p t0) st:=
 wpS_bind (A8l (A2k (dsc_ok hP (dsc_y R d h) (Ae.trans (congrArg (· +1) hn)) rfl) λc st h=>dsce_ok hP h))
theorem cnte_ok(hP:∀x∈t0,C.P x)(R:Rn C pd p t0 (u++[z]) (y::r) st)(so:C.S (u++[z]))(g:C.le z y=false):C.W (cntE p.length t0.length (u++[z]).length) (CntQ C pd p t0) st:=by
 have g:=le_of g
 cases u with
 |nil=>exact z_ie (Nat.lt_irrefl 1) (B8p hP R (List.pairwise_singleton _ _) (λa ha=>by cases Bo.mp ha;exact g) rfl)
 |cons a u=>
  have ea:(arrOf st)[p.length]?=some a:=by rw[←Bx,R.ar];exact ap_2 (A:=p) 0
  refine z_it (Nat.succ_lt_succ (Ae (as:=u)▸Nat.lt_add_left _ Nat.zero_lt_one)) (wpS_bind (z_lt ea (ar_z R.ar) (R.pp hP (.head _)) (R.pp hP (Cy _ (Cb _ (.head _)))) R.k ?_))
  cases q:C.le z a with
  |false=>exact z_it rfl (Al (.mk _ _ _ R so (Ar _)))
  |true=>
   refine z_ie (λz=>A5 z) (wpS_bind (R.rev (v:=[]) rfl rfl λst R=>B8p hP R (List.pairwise_reverse.mpr so) (λb hb=>C.tr (C.tr g q) ?_) Bv))
   rcases Bf.mp (Cc.mp hb) with w | w
   ·cases w;exact B7e
   ·exact(List.pairwise_cons.mp so).1 b w
theorem count_ok(hP:∀x∈t0,C.P x)(R:Rn C pd p t0 [x] r st):C.W (countRun' p.length t0.length) (CntQ C pd p t0) st:=by
 rw[count_eq]
 refine A2k (asc_ok (u:=[]) hP R (List.pairwise_singleton _ _) rfl) λc st h=>h.rec λu r z st R so h=> ?_
 have l:=R.ln
 cases r with
 |nil=>exact z_it (beq_iff_eq.mpr l) (Al (.mk _ _ _ R so (Ae▸Bb _ _)))
 |cons y r=>exact z_ie (λw=>B8 (B5 (Ar r.length)) ((beq_iff_eq.mp w).trans l.symm)) (cnte_ok hP R so (h y r rfl))
end
abbrev BSt:=Option Bool×Nat×Nat
noncomputable def binS(lo k:Nat):Nat->BSt->SM (ForInStep BSt):=λ_ c=>
 if c.2.1≥c.2.2 then pure (.done (none,c.2.1,c.2.2)) else do
  let x←ltAt' (lo+k) (lo+(c.2.1+c.2.2)/2)
  match x with
  |some w=>if w=true then pure (.yield (none,c.2.1,(c.2.1+c.2.2)/2)) else pure (.yield (none,(c.2.1+c.2.2)/2+1,c.2.2))
  |_=>pure (.done (some false,c.2.1,c.2.2))
noncomputable def binT(lo:Nat):Nat->Option Bool×Unit->SM (ForInStep (Option Bool×Unit)):=λk _=>do
 let d←forIn [:k] ((none,0,k):BSt) (binS lo k)
 zOpt d.1 (λr=>pure (.done (some r,()))) (do
  moveDown' (lo+k) (lo+d.2.1)
  pure (.yield (none,())))
theorem bin_eq(lo n ok:Nat):binarySort' lo n ok=(do
 let c←forIn [max ok 1:n] ((none,()):Option Bool×Unit) (binT lo)
 zOpt c.1 pure (pure true)):=by kernel_rfl
section
variable{C:Sc}{pd:Array (Nat×Nat×Nat)}{p t0 u r:List Keyed}{x:Keyed}{st:SortSt}{k l n:Nat}
theorem ins_s(so:C.S u)(h1:∀z∈u.take l,C.le z x=true)(h2:∀z∈u.drop l,C.le z x=false):C.S (u.take l++(x::u.drop l)):=by
 rw[←C0 l u] at so
 have q:=Ck.mp so
 refine Ck.mpr ⟨q.1,List.pairwise_cons.mpr ⟨λz m=>le_of (h2 z m),q.2.1⟩,λa ha b hb=> ?_⟩
 rcases Bf.mp hb with w | w
 ·cases w;exact h1 a ha
 ·exact q.2.2 a ha b w
theorem Rn.ins(R:Rn C pd p t0 u (x::r) st)(hl:l<=u.length){Q:Unit->SortSt->Prop}(K:∀st,Rn C pd p t0 (u.take l++(x::u.drop l)) r st->Q () st):C.W (moveDown' (p.length+u.length) (p.length+l)) Q st:=by
 have lt:(u.take l).length=l:=Co.trans (Ci hl)
 have ld:(p++u.take l).length+(u.drop l).length=p.length+u.length:=by rw[Ae,A7,←Ae,C0]
 refine wpS_modify (K _ ⟨R.k,R.pn,R.fl,?_,?_⟩)
 ·have q:=bub_t (xs:=arrOf st) (A:=p++u.take l) (B:=u.drop l) (x:=x) (D:=r) (by rw[R.ar,Ai,←Ai (u.take l),C0])
  rw[ld] at q
  show(bubble (arrOf st) (p.length+u.length) (p.length+u.length- (p.length+l))).toList=_
  rw[Nat.add_sub_add_left,←List.length_drop]
  exact q.trans (by rw[Ai,Ai];rfl)
 ·refine List.Perm.trans (List.Perm.append_right r (List.perm_middle (a:=x))) ?_
  rw[C0]
  exact(List.perm_middle (a:=x)).symm.trans R.pm
inductive BinI(q:Nat->Bool)(k:Nat)(st:SortSt):BSt->SortSt->Prop
 |mk (l r:Nat) (a:Lowz q l) (b:Hig q r) (c:r<=k):BinI q k st (none,l,r) st
inductive BinE(q:Nat->Bool)(k:Nat)(st:SortSt):BSt->SortSt->Prop
 |mk (l r:Nat) (a:Lowz q l) (b:Hig q l) (c:l<=k):BinE q k st (none,l,r) st
theorem bin_s(hP:∀x∈t0,C.P x)(R:Rn C pd p t0 u (x::r) st)(so:C.S u)(hk:u.length=k):C.W (forIn [:k] ((none,0,k):BSt) (binS p.length k)) (BinE (gq C false x u) k st) st:=by
 have fin:∀{l r:Nat},l≥r->Lowz (gq C false x u) l->Hig (gq C false x u) r->r<=k->BinE (gq C false x u) k st (none,l,r) st:=λ{l r} e a b c=>by
  have e2:l<=r:=Ca λw=>A5 ((b r (Ac r)).symm.trans (a r w))
  cases Nat.le_antisymm e2 e
  exact .mk _ _ a b c
 refine A8m (BinI (gq C false x u) k st) (λc=>c.2.2-c.2.1) (λi c st' h=> ?_) (λc st' h=>h.rec λl r a b c e=>fin (Cz.mp e) a b c) (.mk 0 k (λi h=>absurd h (Nat.not_lt_zero i)) (λi h=>congrArg (Option.any _) (List.getElem?_eq_none (hk.symm▸h))) (Ac k)) (Nat.sub_le _ _)
 refine h.rec λl r a b c=> ?_
 by_cases e:l≥r
 ·exact z_it e (Al (fin e a b c))
 ·have e:=Nat.lt_of_not_ge e
  have m1:(l+r)/2<r:=Nat.div_lt_of_lt_mul (Nat.two_mul r▸Nat.add_lt_add_right e r)
  have m0:l<=(l+r)/2:=(Nat.le_div_iff_mul_le (Ar 1)).mpr (Nat.mul_two l▸Au (Ak e) l)
  have mu:(l+r)/2<u.length:=hk.symm▸Ap m1 c
  have eu:=B4 mu
  have e1:(arrOf st)[p.length+k]?=some x:=hk▸ar_y R.ar
  have e2:(arrOf st)[p.length+(l+r)/2]?=some u[(l+r)/2]:=by rw[←Bx,R.ar,ap_2,Bp mu];exact eu
  refine z_ie (B9 e) (wpS_bind (z_lt e1 e2 (R.pp hP (Cb _ (.head _))) (R.pp hP (Cy _ (List.getElem_mem mu))) R.k ?_))
  have eq:gq C false x u ((l+r)/2)=C.le u[(l+r)/2] x:=by unfold gq;rw[eu];rfl
  cases w:C.le u[(l+r)/2] x with
  |true=>exact z_ie (λz=>A5 z) (Al ⟨.mk _ _ (λi h=>gq_mo so i _ (Bw h) (eq.trans w)) b c,Bs e (Bz m0)⟩)
  |false=>exact z_it rfl (Al ⟨.mk _ _ a (λi h=>Bn.mpr λz=>A5 ((eq.trans w).symm.trans (gq_mo so _ i h z))) (Ak (Ap m1 c)),Nat.sub_lt_sub_right m0 m1⟩)
inductive BinU(C:Sc)(pd:Array (Nat×Nat×Nat))(p t0:List Keyed)(n:Nat)(st:SortSt):Prop
 |mk (u r:List Keyed) (R:Rn C pd p t0 u r st) (so:C.S u) (e:u.length=n):BinU C pd p t0 n st
theorem bin_ok(hP:∀x∈t0,C.P x)(R:Rn C pd p t0 u r st)(so:C.S u)(ne:1<=u.length)(h:u.length<=n)(hn:n<=t0.length):C.W (binarySort' p.length n u.length) (λb st=>b=true/\BinU C pd p t0 n st) st:=by
 rw[bin_eq,Nat.max_eq_left ne]
 refine A2k (wpS_forRange (I:=λx c st=>c.1=none/\BinU C pd p t0 x st) (Q:=λc st=>c.1=none/\BinU C pd p t0 n st) (λi c st _ hi q=> ?_) (λc st q=>Nat.max_eq_right h▸q) ⟨rfl,.mk u r R so rfl⟩) λc st q=> ?_
 ·refine q.2.rec λu r R so e=> ?_
  cases r with
  |nil=>exact absurd (Ap hi hn) (Nat.not_lt_of_le (Aj (R.ln.symm.trans e)))
  |cons x r=>
   refine A2k (bin_s hP R so e) λd st' h=> ?_
   refine h.rec λl r' a b c=> ?_
   subst e
   exact wpS_bind (R.ins c λst R=>Al ⟨rfl,.mk _ _ R (ins_s so (gq_lo a) (gq_hi b)) (by rw[Ae,List.length_cons,←A7,←Ae,C0])⟩)
 ·obtain⟨c,_⟩:=c
  cases q.1
  exact Al ⟨rfl,q.2⟩
end
noncomputable def putL(arr:Ks)(sa:Nat)(m:List Keyed)(i:Nat):Ks:=(m.zipIdx i).foldl (λa (x:Keyed×Nat)=>a.setIfInBounds (sa+x.2) x.1) arr
noncomputable def mgD(sa:Nat)(m:Ks):SM Bool:=do
 modify λs=>setArr s (putL (arrOf s) sa m.toList 0)
 let s←get
 pure (failedOf s).isNone
noncomputable def mgC(arr:Ks)(sa na sb nb:Nat):SM Bool:=if(nb==0)=true then pure true else do
 let m←if na<=nb then A4e (arr.extract sa sb) (arr.extract sb (sb+nb)) else A4f (arr.extract sa sb) (arr.extract sb (sb+nb))
 mgD sa m
noncomputable def mgB(arr:Ks)(sa na sb nb:Nat):SM Bool:=if(na==0)=true then pure true else do
 let x←elem' arr (sa+na-1)
 let r←gallop' true x arr sb nb (nb-1)
 match r with
 |some k=>mgC arr sa na sb k
 |_=>pure false
noncomputable def mgA(arr:Ks)(sa na sb nb:Nat):SM Bool:=do
 let x←elem' arr sb
 let r←gallop' false x arr sa na 0
 match r with
 |some k=>mgB arr (sa+k) (na-k) sb nb
 |_=>pure false
theorem B3w(i:Nat):mergeAt' i=(do
 let s←get
 match(pendingOf s)[i]?,(pendingOf s)[i+1]? with
 |some (sa,na,pw),some (sb,nb,_)=>do
  set (SortSt.mk' (kindOf s) (arrOf s) (((pendingOf s).setIfInBounds i (sa,na+nb,pw)).eraseIdxIfInBounds (i+1)) (gallopOf s) (failedOf s))
  mgA (arrOf s) sa na sb nb
 |_,_=>liftM (unsupported "internal:list.sort.pending" :Sem Bool)):=by kernel_rfl
structure Sk(C:Sc)(pd:Array (Nat×Nat×Nat))(l:List Keyed)(st:SortSt):Prop where
 k:kindOf st=C.kd
 pn:pendingOf st=pd
 fl:failedOf st=none
 ar:(arrOf st).toList=l
inductive MgQ(C:Sc)(pd:Array (Nat×Nat×Nat))(A B D:List Keyed):Bool->SortSt->Prop
 |mk (w:List Keyed) (st:SortSt) (pm:w.Perm B) (so:C.S w) (S:Sk C pd (A++(w++D)) st):MgQ C pd A B D true st
section
variable{C:Sc}{pd:Array (Nat×Nat×Nat)}{A B D u v:List Keyed}{x y z:Keyed}{st:SortSt}{i j n sa sb na nb:Nat}{xs:Ks}
theorem putL_t:∀(m:List Keyed) {xs:Ks} {A B:List Keyed} {i:Nat},xs.toList=A++(B++D)->A.length=sa+i->m.length=B.length->(putL xs sa m i).toList=A++(m++D):=by
 intro m
 induction m with
 |nil=>exact λ{xs A B i} h _ l=>by rw[List.length_eq_zero_iff.mp l.symm] at h;exact h
 |cons x m ih=>
  intro xs A B i h hA l
  cases B with
  |nil=>cases l
  |cons b B=>
   have q:=ih (xs:=xs.setIfInBounds (sa+i) x) (A:=A++[x]) (B:=B) (i:=i+1) (by rw[Array.toList_setIfInBounds,h,←hA,List.set_append_right _ _ (Ac _),Nat.sub_self,Ai];rfl) (by rw[Ae,hA];rfl) (Nat.succ.inj l)
   exact q.trans (Ai _ _ _)
theorem seg_t(h:xs.toList=A++(B++D)):(xs.toList.drop A.length).take B.length=B:=by rw[h,List.drop_left,List.take_left]
theorem ext_t(h:xs.toList=A++(B++D)):(xs.extract A.length (A.length+B.length)).toList=B:=by
 rw[Array.toList_extract]
 show List.take (A.length+B.length-A.length) (xs.toList.drop A.length)=B
 rw[Cv];exact seg_t h
theorem mgD_ok{m:Ks}(S:Sk C pd (A++(B++D)) st)(so:C.S m.toList)(pm:m.toList.Perm B):C.W (mgD A.length m) (MgQ C pd A B D) st:=
 wpS_bind (wpS_modify (wpS_bind (wpS_get (Al ((congrArg Option.isNone S.fl).symm▸ .mk m.toList _ pm so ⟨S.k,S.pn,S.fl,putL_t _ S.ar rfl pm.length_eq⟩)))))
noncomputable def mkX(C:Sc)(pd:Array (Nat×Nat×Nat))(l:List Keyed)(a b:Ks)(pa:∀x∈a.toList,C.P x)(pb:∀x∈b.toList,C.P x)(sa:C.S a.toList)(sb:C.S b.toList)(h1:∀x,a.toList.getLast?=some x->∀y∈b.toList,C.le x y=false)(h2:∀y,b.toList.head?=some y->∀x∈a.toList,C.le x y=false):Mx:=
 ⟨C,λs=>Sk C pd l s,λ_ h=>h.k,λ_ _ h=>⟨h.k,h.pn,h.fl,h.ar⟩,a,b,pa,pb,sa,sb,h1,h2⟩
theorem mgm_ok{a b:Ks}(S:Sk C pd (A++(a.toList++(b.toList++D))) st)(pu:∀x∈a.toList,C.P x)(pv:∀x∈b.toList,C.P x)(su:C.S a.toList)(sv:C.S b.toList)(nu:1<=a.toList.length)(nv:1<=b.toList.length)(l1:∀x,a.toList.getLast?=some x->∀y∈b.toList,C.le x y=false)(l2:∀y,b.toList.head?=some y->∀x∈a.toList,C.le x y=false){c:Prop}[Decidable c]:
  C.W (if c then A4e a b >>= mgD A.length else A4f a b >>= mgD A.length) (MgQ C pd A (a.toList++b.toList) D) st:=by
 have fin:∀(m:Ks) st',Sk C pd (A++(a.toList++(b.toList++D))) st'/\(m.toList.Perm (a.toList++b.toList)/\C.S m.toList)->C.W (mgD A.length m) (MgQ C pd A (a.toList++b.toList) D) st':=λm st' h=>mgD_ok ((Ai a.toList b.toList D).symm▸h.1) h.2.2 h.2.1
 refine z_i2 ?_ ?_
 ·cases ea:a.toList with
  |nil=>rw[ea] at nu;exact absurd nu (Nat.not_succ_le_zero 0)
  |cons x l=>
   cases eb:b.toList with
   |nil=>rw[eb] at nv;exact absurd nv (Nat.not_succ_le_zero 0)
   |cons y r=>rw[←ea,←eb];exact A2k (lo_ok (X:=mkX C pd _ a b pu pv su sv l1 l2) ea eb S) fin
 ·obtain⟨u1,z,ez⟩:=rv_sn nu
  obtain⟨v1,w,ew⟩:=rv_sn nv
  exact A2k (hi_ok (X:=mkX C pd _ a b pu pv su sv l1 l2) (y:=z) (x:=w) (lb:=u1.reverse) (la:=v1.reverse) ((congrArg List.reverse ez).trans Cu) ((congrArg List.reverse ew).trans Cu) S) fin
theorem mgC_ok(S:Sk C pd (A++(u++(v++D))) st)(pu:∀x∈u,C.P x)(pv:∀x∈v,C.P x)(su:C.S u)(sv:C.S v)(ne:1<=u.length)(l1:∀x,u.getLast?=some x->∀y∈v,C.le x y=false)(l2:∀y,v.head?=some y->∀x∈u,C.le x y=false)
  (hn:na=u.length) (hb:sb=A.length+u.length) (hv:nb=v.length):C.W (mgC (arrOf st) A.length na sb nb) (MgQ C pd A (u++v) D) st:=by
 subst hn hb hv
 rcases Nat.eq_zero_or_pos v.length with q | q
 ·cases List.length_eq_zero_iff.mp q
  exact z_it rfl (Al (.mk u st ((A6 u).symm▸ .refl u) su S))
 ·refine z_ie (λz=>Nat.ne_of_gt q (eq_of_beq z)) ?_
  have ea:((arrOf st).extract A.length (A.length+u.length)).toList=u:=ext_t S.ar
  have eb:((arrOf st).extract (A.length+u.length) (A.length+u.length+v.length)).toList=v:=by
   rw[←Ae (as:=A)];exact ext_t (S.ar.trans (Ai _ _ _).symm)
  show C.W (if _ then A4e ((arrOf st).extract A.length (A.length+u.length)) ((arrOf st).extract (A.length+u.length) (A.length+u.length+v.length)) >>= mgD A.length else A4f ((arrOf st).extract A.length (A.length+u.length)) ((arrOf st).extract (A.length+u.length) (A.length+u.length+v.length)) >>= mgD A.length) _ st
  generalize(arrOf st).extract A.length (A.length+u.length)=a at ea ⊢
  generalize(arrOf st).extract (A.length+u.length) (A.length+u.length+v.length)=b at eb ⊢
  subst ea eb
  exact mgm_ok S pu pv su sv ne q l1 l2
end
section
variable{C:Sc}{pd:Array (Nat×Nat×Nat)}{A B D u v w:List Keyed}{x y z:Keyed}{st:SortSt}{i j n sa sb na nb:Nat}{xs:Ks}
theorem s_app(su:C.S u)(sv:C.S v)(h:∀a∈u,∀b∈v,C.le a b=true):C.S (u++v):=Ck.mpr ⟨su,sv,h⟩
theorem s_le(s:C.S (u++[z])):∀a∈u++[z],C.le a z=true:=λa ha=>by
 rcases Cd.mp ha with q | q
 ·exact(Ck.mp s).2.2 a q z (.head _)
 ·cases Bo.mp q;exact B7e
theorem mgB_ok(S:Sk C pd (A++(u++(v++D))) st)(pu:∀x∈u,C.P x)(pv:∀x∈v,C.P x)(su:C.S u)(sv:C.S v)(nv:1<=v.length)(l2:∀y,v.head?=some y->∀x∈u,C.le x y=false)
  (ha:sa=A.length) (hn:na=u.length) (hb:sb=A.length+u.length) (hv:nb=v.length):C.W (mgB (arrOf st) sa na sb nb) (MgQ C pd A (u++v) D) st:=by
 subst ha hn hb hv
 rcases Nat.eq_zero_or_pos u.length with q | q
 ·cases List.length_eq_zero_iff.mp q
  exact z_it rfl (Al (.mk v st (.refl v) sv S))
 ·refine z_ie (λz=>Nat.ne_of_gt q (eq_of_beq z)) ?_
  obtain⟨u1,z,e⟩:=rv_sn q
  have pz:C.P z:=pu z (e▸Cb _ (.head _))
  have ez:(arrOf st)[A.length+u.length-1]?=some z:=by
   have q:=S.ar
   rw[e] at q ⊢
   exact ar_z q
  have ev:((arrOf st).toList.drop (A.length+u.length)).take v.length=v:=Ae (as:=A)▸seg_t (S.ar.trans (Ai _ _ _).symm)
  refine z_el ez (wpS_bind (A6y ev rfl (Nat.sub_lt nv Nat.zero_lt_one) sv pz pv S.k λM1 M2 em h1 h2=> ?_))
  have sp:=Ck.mp (em▸sv)
  have hd:∀y,M1.head?=some y->v.head?=some y:=λy h=>by rw[em,List.head?_append,h];rfl
  have S1:Sk C pd (A++(u++(M1++(M2++D)))) st:=by rw[←Ai M1,←em];exact S
  refine wpS_mono (mgC_ok S1 pu (λx m=>pv x (em▸Cy _ m)) su sp.1 q (λx hx y hy=> ?_) (λy hy=>l2 y (hd y hy)) rfl rfl rfl) λb st' h=>h.rec λw st pm so S=>.mk (w++M2) st (em▸Ai u M1 M2▸pm.append_right M2) (s_app so sp.2.1 λa ha b hb=> ?_) (by rw[Ai];exact S)
  ·rw[e,List.getLast?_concat] at hx
   cases hx
   exact(Cg _).mp (h1 y hy)
  ·rcases Cd.mp (pm.mem_iff.mp ha) with m | m
   ·exact C.tr (s_le (e▸su) a (e▸m)) ((Bool.not_eq_false' _).mp (h2 b hb))
   ·exact sp.2.2 a m b hb
theorem mgA_ok(S:Sk C pd (A++(u++(v++D))) st)(pu:∀x∈u,C.P x)(pv:∀x∈v,C.P x)(su:C.S u)(sv:C.S v)(nu:1<=u.length)(nv:1<=v.length):C.W (mgA (arrOf st) A.length u.length (A.length+u.length) v.length) (MgQ C pd A (u++v) D) st:=by
 cases v with
 |nil=>exact absurd nv (Nat.not_succ_le_zero 0)
 |cons y v=>
  refine z_el (ar_y S.ar) (wpS_bind (A6y (seg_t S.ar) rfl nu su (pv y (.head _)) pu S.k λL1 L2 e h1 h2=> ?_))
  have sp:=Ck.mp (e▸su)
  have hy:=List.pairwise_cons.mp sv
  subst e
  refine wpS_mono (mgB_ok (A:=A++L1) (u:=L2) (v:=y::v) (D:=D) (by rw[Ai];exact(Ai L1 L2 _)▸S) (λx m=>pu x (Cb _ m)) pv sp.2.1 sv nv (λz hz x m=>by cases hz;exact h2 x m) Ae.symm (by rw[Ae,Cv]) (by rw[Ae,Ae,A7]) rfl) λb st' h=>h.rec λw st pm so S=>.mk (L1++w) st (Ai L1 L2 (y::v)▸pm.append_left L1) (s_app sp.1 so λa ha b hb=> ?_) (by rw[Ai L1,←Ai A];exact S)
  rcases Cd.mp (pm.mem_iff.mp hb) with m | m
  ·exact sp.2.2 a ha b m
  ·rcases Bf.mp m with m | m
   ·cases m;exact h1 a ha
   ·exact C.tr (h1 a ha) (hy.1 b m)
end
theorem wpS_set{M:Model}{A:Around}{E:Value->Shared->Prop}{s:Shared}{st st':SortSt}{Q:PUnit->SortSt->Prop}(h:Q ⟨⟩ st'):wpS M A E s (set st':SM PUnit) Q st:=by
 unfold wpS;rw[StateT.run_set];exact Ad ⟨rfl,h⟩
inductive Rz(C:Sc):Nat->List (Nat×Nat×Nat)->List Keyed->Prop
 |nil (b:Nat):Rz C b [] []
 |cons (u xs:List Keyed) (P:List (Nat×Nat×Nat)) (pw b:Nat) (so:C.S u) (ne:1<=u.length) (h:Rz C (b+u.length) P xs):Rz C b ((b,u.length,pw)::P) (u++xs)
inductive RzA(C:Sc)(b:Nat)(P:List (Nat×Nat×Nat))(xs:List Keyed)(i:Nat):Prop
 |mk (P1 P2:List (Nat×Nat×Nat)) (x1 x2 u v:List Keyed) (pw q:Nat) (eP:P=P1++(b+x1.length,u.length,pw)::(b+x1.length+u.length,v.length,q)::P2) (ei:P1.length=i) (ex:xs=x1++(u++(v++x2)))
   (su:C.S u) (sv:C.S v) (nu:1<=u.length) (nv:1<=v.length) (K:∀w,C.S w->w.length=u.length+v.length->Rz C b (P1++(b+x1.length,u.length+v.length,pw)::P2) (x1++(w++x2))):RzA C b P xs i
section
variable{C:Sc}{u v w r t0 xs:List Keyed}{st:SortSt}{i b:Nat}{P:List (Nat×Nat×Nat)}
theorem rs_at(h:Rz C b P xs):∀{i:Nat},i+1<P.length->RzA C b P xs i:=by
 induction h with
 |nil b=>exact λh=>absurd h (Nat.not_lt_zero _)
 |cons u xs P pw b so ne h ih=>
  intro i hi
  cases i with
  |succ i=>
   refine(ih (Nat.lt_of_succ_lt_succ hi)).rec λP1 P2 x1 x2 u' v' pw' q eP ei ex su sv nu nv K=> ?_
   have e:b+(u++x1).length=b+u.length+x1.length:=by rw[Ae,A7]
   refine .mk ((b,u.length,pw)::P1) P2 (u++x1) x2 u' v' pw' q (by rw[e,eP];rfl) (congrArg (· +1) ei) (by rw[ex,Ai]) su sv nu nv λw sw lw=> ?_
   rw[e,Ai]
   exact .cons u _ _ pw b so ne (K w sw lw)
  |zero=>
   cases h with
   |nil=>exact absurd hi (Nat.lt_irrefl 1)
   |cons v x2 P2 q _ sv nv h2=>
    refine .mk [] P2 [] x2 u v pw q rfl rfl rfl so sv ne nv λw sw lw=> ?_
    have e:b+w.length=b+u.length+v.length:=by rw[lw,A7]
    rw[←lw]
    exact .cons w x2 P2 pw b sw (lw▸Nat.le_add_right_of_le ne) (e▸h2)
structure Sr(C:Sc)(t0 xs r:List Keyed)(P:List (Nat×Nat×Nat))(st:SortSt):Prop where
 k:kindOf st=C.kd
 fl:failedOf st=none
 pn:(pendingOf st).toList=P
 rs:Rz C 0 P xs
 ar:(arrOf st).toList=xs++r
 pm:(xs++r).Perm t0
inductive SrQ(C:Sc)(t0 r:List Keyed)(n m:Nat):Bool->SortSt->Prop
 |mk (xs:List Keyed) (P:List (Nat×Nat×Nat)) (st:SortSt) (S:Sr C t0 xs r P st) (l:P.length+1=n) (e:xs.length=m):SrQ C t0 r n m true st
theorem A6x(hP:∀x∈t0,C.P x)(S:Sr C t0 xs r P st)(hi:i+1<P.length):C.W (mergeAt' i) (SrQ C t0 r P.length xs.length) st:=by
 refine(rs_at S.rs hi).rec λP1 P2 x1 x2 u v pw q eP ei ex su sv nu nv K=> ?_
 rw[B3w]
 rw[Bc] at eP
 have pe:=S.pn
 rw[eP] at pe
 have e1:(pendingOf st)[i]?=some (x1.length,u.length,pw):=by rw[←Bx,pe,←ei];exact ap_2 (A:=P1) 0
 have e2:(pendingOf st)[i+1]?=some (x1.length+u.length,v.length,q):=by rw[←Bx,pe,←ei];exact ap_2 (A:=P1) 1
 refine wpS_bind (wpS_get ?_)
 rw[e1,e2]
 have mem:∀x,x∈u++v->C.P x:=λx m=>hP x (S.pm.mem_iff.mp (Cy _ (by rw[ex,←Ai u];exact Cb _ (Cy _ m))))
 have hpd:(((pendingOf st).setIfInBounds i (x1.length,u.length+v.length,pw)).eraseIdxIfInBounds (i+1)).toList=P1++(x1.length,u.length+v.length,pw)::P2:=by
  rw[Array.toList_eraseIdxIfInBounds,Array.toList_setIfInBounds,pe,←ei,List.set_append_right _ _ (Ac _),Nat.sub_self,List.eraseIdx_append_of_length_le (A9 _),show P1.length.succ-P1.length=1 from Cv P1.length 1];rfl
 show C.W (set (SortSt.mk' (kindOf st) (arrOf st) (((pendingOf st).setIfInBounds i (x1.length,u.length+v.length,pw)).eraseIdxIfInBounds (i+1)) (gallopOf st) (failedOf st)) >>= λ_=>mgA (arrOf st) x1.length u.length (x1.length+u.length) v.length) _ st
 generalize((pendingOf st).setIfInBounds i (x1.length,u.length+v.length,pw)).eraseIdxIfInBounds (i+1)=pd at hpd ⊢
 refine wpS_bind (wpS_set (wpS_mono (mgA_ok (st:=SortSt.mk' (kindOf st) (arrOf st) pd (gallopOf st) (failedOf st)) (A:=x1) (u:=u) (v:=v) (D:=x2++r) ⟨S.k,rfl,S.fl,by rw[←Ai v,←Ai u,←Ai x1,←ex];exact S.ar⟩ (λx m=>mem x (Cy _ m)) (λx m=>mem x (Cb _ m)) su sv nu nv) λb st' h=>h.rec λw st pm so S2=> ?_))
 have lw:w.length=u.length+v.length:=pm.length_eq.trans Ae
 have K:=K w so lw
 rw[Bc] at K
 refine .mk _ _ st ⟨S2.k,S2.fl,?_,K,?_,?_⟩ ?_ ?_
 ·rw[S2.pn,hpd]
 ·rw[S2.ar,Ai,Ai]
 ·refine List.Perm.trans ?_ S.pm
  rw[ex]
  refine((List.Perm.append_left x1 ?_)).append_right r
  rw[←Ai u]
  exact pm.append_right x2
 ·rw[eP,Ae,Ae];rfl
 ·rw[ex,Ae,Ae,Ae,Ae,Ae,lw,A7]
end
abbrev USt:=Option Unit×Unit
abbrev LSt:=Option Unit×Nat
noncomputable def whS(pw:Nat):Nat->USt->SM (ForInStep USt):=λ_ _=>do
 let st←get
 match(if(pendingOf st).size>1 then(pendingOf st)[(pendingOf st).size-2]? else none) with
 |some x=>if x.2.2<=pw then pure (.done (none,())) else do
   let b←mergeAt' ((pendingOf st).size-2)
   if(!b)=true then pure (.done (some (),())) else pure (.yield (none,()))
 |_=>pure (.done (none,()))
noncomputable def rsP(lo n:Nat):SM (ForInStep LSt):=do
 modify λs=>setPending s ((pendingOf s).push (lo,n,0))
 pure (.yield (none,lo+n))
noncomputable def rsM(lo n pw:Nat)(c:USt):SM (ForInStep LSt):=zOpt c.1 (λr=>pure (.done (some r,lo))) (do
 modify λs=>setPending s ((pendingOf s).modify ((pendingOf s).size-1) λx=>(x.1,x.2.1,pw))
 rsP lo n)
noncomputable def rsS(sz lo n:Nat):SM (ForInStep LSt):=do
 let st←get
 match(pendingOf st).back? with
 |some x=>do
  let c←forIn [:sz] ((none,()):USt) (whS (power' sz (2*x.1+x.2.1) (2*x.1+x.2.1+x.2.1+n) sz))
  rsM lo n (power' sz (2*x.1+x.2.1) (2*x.1+x.2.1+x.2.1+n) sz) c
 |_=>rsP lo n
noncomputable def rsN(sz mr lo m:Nat):SM (ForInStep LSt):=if m<mr then do
  liftM (rule "list.sort.binary-insertion")
  let b←binarySort' lo (min (sz-lo) mr) m
  if(!b)=true then pure (.done (some (),lo)) else rsS sz lo (min (sz-lo) mr)
 else rsS sz lo m
noncomputable def mnS(sz mr:Nat):Nat->LSt->SM (ForInStep LSt):=λ_ c=>
 if c.2≥sz then pure (.done (none,c.2)) else do
  let f←countRun' c.2 (sz-c.2)
  match f with
  |some m=>rsN sz mr c.2 m
  |_=>pure (.done (some (),c.2))
noncomputable def fnI(p:Array (Nat×Nat×Nat)):Nat:=if(if p.size-2>0 then p[p.size-2-1]?.map (·.2.1) else none).any (· <(p[p.size-2+1]?.elim 0 (·.2.1))) then p.size-2-1 else p.size-2
noncomputable def fnS:Nat->USt->SM (ForInStep USt):=λ_ _=>do
 let st←get
 if(pendingOf st).size<=1 then pure (.done (none,())) else do
  let b←mergeAt' (fnI (pendingOf st))
  if(!b)=true then pure (.done (some (),())) else pure (.yield (none,()))
theorem sort_eq:sortRuns'=(do
 let st←get
 let c←forIn [:(arrOf st).size] ((none,0):LSt) (mnS (arrOf st).size (minRun' (arrOf st).size (arrOf st).size 0))
 zOpt c.1 pure (do
  let d←forIn [:(arrOf st).size] ((none,()):USt) fnS
  zOpt d.1 pure (pure ()))):=by kernel_rfl
inductive SrE(C:Sc)(t0 r:List Keyed)(m:Nat)(st:SortSt):Prop
 |mk (xs:List Keyed) (P:List (Nat×Nat×Nat)) (S:Sr C t0 xs r P st) (e:xs.length=m):SrE C t0 r m st
inductive YQ(C:Sc)(t0:List Keyed)(m:Nat):ForInStep LSt->SortSt->Prop
 |mk (xs r:List Keyed) (P:List (Nat×Nat×Nat)) (st:SortSt) (S:Sr C t0 xs r P st) (e:xs.length=m):YQ C t0 m (.yield (none,m)) st
section
variable{C:Sc}{u v w r t0 xs:List Keyed}{st st1:SortSt}{i b n lo sz pw mr:Nat}{P:List (Nat×Nat×Nat)}
theorem lt_2{n:Nat}(h:1<n):n-2+1<n:=match n,h with | k+2,_=>Ax (k+1)
theorem Sr.ps(S:Sr C t0 xs r P st):P.length=(pendingOf st).size:=S.pn▸Array.length_toList
theorem Sr.ln(S:Sr C t0 xs r P st):xs.length+r.length=t0.length:=Ae.symm.trans S.pm.length_eq
theorem wh_ok(hP:∀x∈t0,C.P x)(S:Sr C t0 xs r P st):C.W (forIn [:sz] ((none,()):USt) (whS pw)) (λc st=>c.1=none/\SrE C t0 r xs.length st) st:=by
 refine wpS_forRange (I:=λ_ (c:USt) st=>c.1=none/\SrE C t0 r xs.length st) (λi c st _ _ q=> ?_) (λc st q=>q) ⟨rfl,.mk xs P S rfl⟩
 refine q.2.rec λxs' P S e=>wpS_bind (wpS_get ?_)
 by_cases h:(pendingOf st).size>1
 ·rw[if_pos h]
  cases(pendingOf st)[(pendingOf st).size-2]? with
  |none=>exact Al ⟨rfl,.mk _ _ S e⟩
  |some x=>exact z_i2 (Al ⟨rfl,.mk _ _ S e⟩) (A2k (A6x hP S (S.ps.symm▸lt_2 h)) λb st h=>h.rec λxs2 P st S l e2=>z_ie (λz=>A5 z) (Al ⟨rfl,.mk _ _ S (e2.trans e)⟩))
 ·rw[if_neg h]
  exact Al ⟨rfl,.mk _ _ S e⟩
theorem rz_push(h:Rz C b P xs)(so:C.S u)(ne:1<=u.length):Rz C b (P++[(b+xs.length,u.length,0)]) (xs++u):=by
 induction h with
 |nil b=>have q:=Rz.cons u [] [] 0 b so ne (.nil _);rw[A6] at q;exact q
 |cons v xs P pw b sv nv h ih=>
  rw[Ae,Ai,←A7]
  exact .cons v _ _ pw b sv nv ih
theorem rz_mod(h:Rz C b P xs):∀i,Rz C b (P.modify i λx=>(x.1,x.2.1,pw)) xs:=by
 induction h with
 |nil b=>exact λi=>by rw[List.modify_nil];exact .nil b
 |cons v xs P pw' b sv nv h ih=>
  intro i
  cases i with
  |zero=>exact .cons v xs P pw b sv nv h
  |succ i=>exact .cons v xs _ pw' b sv nv (ih i)
theorem rsP_ok(S:Sr C t0 xs (u++r) P st)(so:C.S u)(ne:1<=u.length)(hl:lo=xs.length)(hn:n=u.length):C.W (rsP lo n) (YQ C t0 (lo+n)) st:=by
 subst hl hn
 refine wpS_bind (wpS_modify (Al (.mk (xs++u) r (P++[(xs.length,u.length,0)]) _ ⟨S.k,S.fl,?_,?_,by rw[Ai];exact S.ar,by rw[Ai];exact S.pm⟩ Ae)))
 ·show((pendingOf st).push _).toList=_
  rw[Array.toList_push,S.pn]
 ·have q:=rz_push S.rs so ne
  rw[Bc] at q
  exact q
theorem rsM_ok{c:USt}(hc:c.1=none)(S:Sr C t0 xs (u++r) P st)(so:C.S u)(ne:1<=u.length)(hl:lo=xs.length)(hn:n=u.length):C.W (rsM lo n pw c) (YQ C t0 (lo+n)) st:=by
 obtain⟨c,_⟩:=c
 cases hc
 exact wpS_bind (wpS_modify (rsP_ok (P:=P.modify ((pendingOf st).size-1) λx=>(x.1,x.2.1,pw)) ⟨S.k,S.fl,Array.toList_modify.trans (by rw[S.pn]),rz_mod S.rs _,S.ar,S.pm⟩ so ne hl hn))
theorem rsS_ok(hP:∀x∈t0,C.P x)(S:Sr C t0 xs (u++r) P st)(so:C.S u)(ne:1<=u.length)(hl:lo=xs.length)(hn:n=u.length):C.W (rsS sz lo n) (YQ C t0 (lo+n)) st:=by
 refine wpS_bind (wpS_get ?_)
 cases(pendingOf st).back? with
 |none=>exact rsP_ok S so ne hl hn
 |some x=>exact A2k (wh_ok hP S) λc st h=>h.2.rec λxs2 P2 S2 e=>rsM_ok h.1 S2 so ne (hl.trans e.symm) hn
theorem Sr.of(S:Sr C t0 xs r P st){r2:List Keyed}(R:Rn C (pendingOf st) xs r u r2 st1):Sr C t0 xs (u++r2) P st1:=⟨R.k,R.fl,R.pn▸S.pn,S.rs,R.ar,(R.pm.append_left xs).trans S.pm⟩
inductive YE(C:Sc)(t0:List Keyed)(lo:Nat)(c:ForInStep LSt)(st:SortSt):Prop
 |mk (n:Nat) (h:1<=n) (q:YQ C t0 (lo+n) c st):YE C t0 lo c st
theorem rsN_ok(hP:∀x∈t0,C.P x)(S:Sr C t0 xs r P st){r2:List Keyed}(R:Rn C (pendingOf st) xs r u r2 st1)(so:C.S u)(ne:1<=u.length)(hs:sz-xs.length=r.length):C.W (rsN sz mr xs.length u.length) (YE C t0 xs.length) st1:=by
 by_cases h:u.length<mr
 ·have hr:∀x∈r,C.P x:=λx m=>hP x (S.pm.mem_iff.mp (Cb _ m))
  have hm:u.length<=min (sz-xs.length) mr:=Nat.le_min.mpr ⟨hs▸Aa (Ao _ _) (Aj R.ln),Ak h⟩
  exact z_it h (wpS_bind (A8l (A2k (bin_ok hr R so ne hm (hs▸Nat.min_le_left _ _)) λb st2 q=>q.2.rec λu r R2 so e=>by
   cases q.1
   exact z_ie (λz=>A5 z) (wpS_mono (rsS_ok hP (S.of R2) so (e▸Aa ne hm) rfl e.symm) λc st q=>.mk _ (Aa ne hm) q))))
 ·exact z_ie h (wpS_mono (rsS_ok hP (S.of R) so ne rfl rfl) λc st q=>.mk _ ne q)
inductive MnI(C:Sc)(t0:List Keyed)(x:Nat):LSt->SortSt->Prop
 |mk (xs r:List Keyed) (P:List (Nat×Nat×Nat)) (st:SortSt) (S:Sr C t0 xs r P st) (n:Nat) (e:xs.length=n) (h:x<=n):MnI C t0 x (none,n) st
theorem mn_ok(hP:∀x∈t0,C.P x)(S:Sr C t0 [] t0 [] st):C.W (forIn [:t0.length] ((none,0):LSt) (mnS t0.length mr)) (MnI C t0 t0.length) st:=by
 refine wpS_forRange (I:=MnI C t0) (λi c st _ _ q=> ?_) (λc st q=>by rw[Nat.zero_max] at q;exact q) (.mk [] t0 [] st S 0 rfl (Ac 0))
 refine q.rec λxs r P st S n e h=> ?_
 subst e
 have l:=S.ln
 cases r with
 |nil=>exact z_it (Aj l.symm) (Al (.mk xs [] P st S _ rfl (Aj l.symm)))
 |cons x r=>
  have hs:t0.length-xs.length=(x::r).length:=by rw[←l,Cv]
  refine z_ie (B9 (l▸B5 (Ar _))) ?_
  show C.W (countRun' xs.length (t0.length-xs.length) >>= _) _ st
  have hr:∀y∈x::r,C.P y:=λy m=>hP y (S.pm.mem_iff.mp (Cb _ m))
  rw[hs]
  refine A2k (count_ok (p:=xs) (t0:=x::r) (pd:=pendingOf st) hr ⟨S.k,rfl,S.fl,S.ar,.refl _⟩) λf st1 q=>q.rec λu r2 st1 R so ne=> ?_
  exact wpS_mono (rsN_ok hP S R so ne hs) λc st q=>q.rec λn hn q=>q.rec λxs2 r P st S e=>.mk xs2 r P st S _ e (Aa (Ah h) (Au hn _))
theorem fnI_lt{p:Array (Nat×Nat×Nat)}(h:1<p.size):fnI p+1<p.size:=by
 have q:∀c:Bool,(if c=true then p.size-2-1 else p.size-2)+1<p.size:=λc=>by
  cases c with
  |true=>exact As (Ah (Nat.sub_le _ _)) (lt_2 h)
  |false=>exact lt_2 h
 exact q _
inductive FnE(C:Sc)(t0:List Keyed)(m:Nat)(st:SortSt):Prop
 |mk (xs:List Keyed) (P:List (Nat×Nat×Nat)) (S:Sr C t0 xs [] P st) (h:P.length<=m):FnE C t0 m st
theorem fn_ok(hP:∀x∈t0,C.P x)(S:Sr C t0 xs [] P st)(h:P.length<=sz):C.W (forIn [:sz] ((none,()):USt) fnS) (λc st=>c.1=none/\FnE C t0 1 st) st:=by
 refine wpS_forRange (I:=λx (c:USt) st=>c.1=none/\FnE C t0 (sz-x) st) (λi c st _ hi q=> ?_) (λc st q=>⟨q.1,q.2.rec λxs P S h=>.mk xs P S (Aa h (by rw[Nat.zero_max,Nat.sub_self];exact Ag 1))⟩) ⟨rfl,.mk xs P S h⟩
 refine q.2.rec λxs P S h=>wpS_bind (wpS_get ?_)
 by_cases h1:(pendingOf st).size<=1
 ·exact z_it h1 (Al ⟨rfl,.mk xs P S (S.ps.symm▸h1)⟩)
 ·exact z_ie h1 (A2k (A6x hP S (S.ps.symm▸fnI_lt (Nat.lt_of_not_ge h1))) λb st q=>q.rec λxs P st S l e=>z_ie (λz=>A5 z) (Al ⟨rfl,.mk xs P S (by rw[←Nat.sub_sub];exact Nat.le_sub_one_of_lt (Ap (l▸Ax _) h))⟩))
theorem rz_len(h:Rz C b P xs):P.length<=xs.length:=by
 induction h with
 |nil b=>exact Ac 0
 |cons v xs P pw b sv nv h ih=>rw[Ae,Bg];exact Be ih nv
theorem rz_one(h:Rz C b P xs)(l:P.length<=1):C.S xs:=by
 cases h with
 |nil=>exact .nil
 |cons u xs P pw b so ne h=>
  cases h with
  |nil=>rw[A6];exact so
  |cons _ _ _ _ _ _ _ _=>exact absurd l (B9 (Nat.succ_lt_succ (Ar _)))
theorem z_sort(hP:∀x∈(arrOf st).toList,C.P x)(k:kindOf st=C.kd)(fl:failedOf st=none)(pn:pendingOf st= #[]):C.W sortRuns' (λ_ st'=>C.S (arrOf st').toList/\(arrOf st').toList.Perm (arrOf st).toList/\failedOf st'=none) st:=by
 have S:Sr C (arrOf st).toList [] (arrOf st).toList [] st:=⟨k,fl,by rw[pn],.nil 0,rfl,.refl _⟩
 rw[sort_eq]
 refine wpS_bind (wpS_get ?_)
 refine A2k (mn_ok hP S) λc st1 q=>q.rec λxs r P st1 S n e h=> ?_
 have l:=S.ln
 subst e
 have er:r=[]:=List.length_eq_zero_iff.mp (Nat.eq_zero_of_le_zero (Nat.le_of_add_le_add_left (l.symm▸h:xs.length+r.length<=xs.length+0)))
 subst er
 refine A2k (fn_ok hP S (Aa (rz_len S.rs) (Aj l))) λd st2 q=> ?_
 obtain⟨d,_⟩:=d
 cases q.1
 refine q.2.rec λxs P S h=>Al ?_
 have e:=S.ar
 rw[A6] at e
 rw[e]
 exact⟨rz_one S.rs h,A6 xs▸S.pm,S.fl⟩
end
inductive PrA(h:Heap)(q:Int×Int):Value->Prop
 |mk (a:Addr) (o:Obj) (n:Nat) (t u:Tok) (g:h.get? a=some o) (c:o.cls=.type "tuple") (d:o.data=.seq #[.int q.1 t,.int q.2 u] n):PrA h q (.ref a)
theorem PrA.uq{h:Heap}{q q':Int×Int}{v:Value}(x:PrA h q v)(y:PrA h q' v):q=q':=by
 cases x with
 |mk a o n t u g c d=>
  cases y with
  |mk _ o' n' t' u' g' c' d'=>
   cases Option.some.inj (g.symm.trans g')
   have e:=d.symm.trans d'
   injection e with e1 e2
   have e3:=congrArg Array.toList e1
   injection e3 with e4 e5
   injection e5 with e6 e7
   injection e4 with e8 e9
   injection e6 with e10 e11
   exact Prod.ext e8 e10
theorem PrA.keep{h h':Heap}{q:Int×Int}{v:Value}(x:PrA h q v)(k:∀a o,v=.ref a->h.get? a=some o->h'.get? a=some o):PrA h' q v:=x.rec (motive:=λv _=>(∀a o,v=.ref a->h.get? a=some o->h'.get? a=some o)->PrA h' q v) (λa o n t u g c d k=>⟨a,o,n,t,u,k a o rfl g,c,d⟩) k
open Classical in
noncomputable def prV(h:Heap)(v:Value):Int×Int:=if q:∃q,PrA h q v then choose q else(0,0)
theorem PrA.pr{h:Heap}{q:Int×Int}{v:Value}(x:PrA h q v):prV h v=q:=by
 have w:∃q,PrA h q v:=⟨q,x⟩
 unfold prV
 rw[dif_pos w]
 exact(Classical.choose_spec w).uq x
theorem nl_ne{p q:Int×Int}(h:p.1≠q.1):(!A1b q p)=decide (p.1<q.1):=by
 unfold A1b
 rw[decide_eq_false (p:=q.1=p.1) (λe=>h e.symm),Bool.false_and,Ce,←decide_not]
 exact decide_eq_decide.mpr ⟨λw=>Int.lt_iff_le_and_ne.mpr ⟨Int.not_lt.mp w,h⟩,λw=>Int.lt_asymm w⟩
theorem nl_eq{p q:Int×Int}(h:p.1=q.1):(!A1b q p)=decide (p.2<q.2):=by
 unfold A1b
 rw[decide_eq_false (p:=q.1<p.1) (h▸Int.lt_irrefl _),A8 (p:=q.1=p.1) h.symm,Bool.false_or,Bool.true_and,←decide_not]
 exact decide_eq_decide.mpr Int.not_le
section
variable{prog:Program}{w:World}{A:Around}{E:Value->Shared->Prop}{s:Shared}
theorem key_lt{x y:Value}{p q:Int×Int}{b:Bool}{Q:Bool->Shared->Prop}(hx:PrA s.heap p x)(hy:PrA s.heap q y)(h:Q (!A1b q p) s):wpAny (model prog w) A (keyLt' (tuples' b) x y) Q E s:=by
 cases hx with
 |mk a o n t u ho hc hd=>
  cases hy with
  |mk a' o' n' t' u' ho' hc' hd'=>
   have one:∀(c:Bool) {i j:Int} {t u:Tok} {Q:Bool->Shared->Prop} {E:Value->Shared->Prop},Q (decide (i<j)) s->wpAny (model prog w) A (oneLt' c (.int i t) (.int j u)) Q E s:=λc i j t u Q E h=>by
    cases c with
    |false=>exact kat_one _ _ (PySem.P.lt_int h)
    |true=>exact oneLt_int h
   refine kat_lt ho hd ho' hd' (kat_cons (wpAny_eqBool_int (kat_go (λe=>kat_yes (kat_cons (wpAny_eqBool_int (kat_go (λe2=>kat_yes (kat_nil ?_)) λe2=>kat_no (one _ ?_))))) λe=>kat_no (one _ ?_))))
   ·rw[nl_eq (Ba e),decide_eq_false (Ba e2▸Int.lt_irrefl _)] at h
    exact h
   ·rw[nl_eq (Ba e)] at h
    exact h
   ·rw[nl_ne (of_decide_eq_false e)] at h
    exact h
noncomputable def scH(prog:Program)(w:World)(A:Around)(E:Value->Shared->Prop)(s:Shared)(b:Bool)(φ:Value->Int×Int):Sc where
 M:=model prog w
 A:=A
 E:=E
 s:=s
 kd:=tuples' b
 P:=λk=>PrA s.heap (φ k.1) k.1
 le:=λx y=>A1b (φ x.1) (φ y.1)
 tr:=pl_tr
 to:=λ_ _=>pl_to
 lt:=λx y st Q px py hk hq=>by
  rw[lt'_eq]
  refine wpS_bind (wpS_get ?_)
  rw[hk]
  exact wpS_bind (wpS_lift (wpAny_attempt (key_lt px py ⟨rfl,Al hq⟩)))
end
section
variable{prog:Program}{w:World}{A:Around}{E:Value->Shared->Prop}{s:Shared}{φ:Value->Int×Int}
inductive FsA(h:Heap)(vs:List Value):Prop
 |mk (fs:List Value) (k:KatTups h vs fs) (l:fs.length=vs.length) (i:∀f∈fs,∃x t,f=.int x t):FsA h vs
theorem B8c{h:Heap}:∀{vs:List Value},(∀v∈vs,PrA h (φ v) v)->FsA h vs:=by
 intro vs
 induction vs with
 |nil=>exact λ_=>⟨[],.nil,rfl,λf hf=>absurd hf Cn⟩
 |cons v vs ih=>
  intro hv
  obtain⟨fs,k,l,i⟩:=ih λu hu=>hv u (.tail _ hu)
  have p:=hv v (.head _)
  revert p
  generalize φ v=q
  exact λp=>p.rec λa o n t u ho hc hd=>⟨.int q.1 t::fs,.cons ho hc hd rfl k,congrArg (· +1) l,λf hf=>by
   cases hf with
   |head=>exact⟨_,_,rfl⟩
   |tail _ hf=>exact i f hf⟩
structure OutQ(φ:Value->Int×Int)(vs:List Value)(xs:Ks):Prop where
 pm:xs.toList.Perm (vs.zip vs)
 so:xs.toList.Pairwise λx y=>A1b (φ x.1) (φ y.1)=true
theorem zip_t{vs:List Value}:(vs.toArray.zip vs.toArray).toList=vs.zip vs:=Array.toList_zip
theorem out_one{vs:List Value}(h2:vs.length<2):OutQ φ vs (vs.toArray.zip vs.toArray):=by
 refine⟨zip_t▸ .refl _,?_⟩
 rw[zip_t]
 cases vs with
 |nil=>exact .nil
 |cons v vs=>
  cases vs with
  |nil=>exact List.pairwise_singleton _ _
  |cons u vs=>exact absurd h2 (Nat.not_lt_of_le (Ah (Ah (Ag _))))
theorem OutQ.sz{vs:List Value}{xs:Ks}(h:OutQ φ vs xs):xs.size=vs.length:=h.pm.length_eq.trans (by rw[List.length_zip,Nat.min_self])
theorem B7b{a:Addr}{vs:List Value}{n:Nat}{P:Fin->Shared->Prop}(ho:s.heap.get? a=some (seqObj "list" vs.toArray n))(hv:∀v∈vs,PrA s.heap (φ v) v)(hna:∀v∈vs,v≠ .ref a)(hl:vs.length<=sizeLine)
  (h:∀xs:Ks,OutQ φ vs xs->P (.done (.ret .none)) {s with heap:=sortedHeap s.heap a vs (xs.map (·.2))}):
  wpAny (model prog w) A (Builtin.«list.sort» ⟨[.ref a],[]⟩) P E s:=by
 rw[list_sort_plain]
 have ha:a<s.heap.objs.size:=Heap.lt_size ho
 refine Ab (listItems_at ho rfl ?_)
 refine Ab (listUpdate_at ho rfl ?_ hl (Ag _))
 obtain⟨e1,ho1⟩:∃e1,(s.heap.update a (Obj.mapSeq λ_=> #[])).get? a=some (seqObj "list" #[] e1):=⟨_,get?_update_seq ho (λ_=> #[])⟩
 refine Ab (seqEpoch_at ho1 rfl ?_)
 refine Ab (wpAny_newTuple ?_ hl)
 refine Ab (wpAny_newList ?_ (Ag _))
 refine wpAny_holding ?_
 have ho6:(((s.heap.update a (Obj.mapSeq λ_=> #[])).push (seqObj "tuple" vs.toArray 0)).push (seqObj "list" #[] 0)).get? a=some (seqObj "list" #[] e1):=Heap.get?_push_of_some _ (Heap.get?_push_of_some _ ho1)
 have hv6:∀v∈vs,PrA (((s.heap.update a (Obj.mapSeq λ_=> #[])).push (seqObj "tuple" vs.toArray 0)).push (seqObj "list" #[] 0)) (φ v) v:=λv hm=>(hv v hm).keep λb o e g=>
  Heap.get?_push_of_some _ (Heap.get?_push_of_some _ (by rw[Heap.get?_update_ne _ _ _ _ (λz:b=a=>hna v hm (e.trans (congrArg Value.ref z)))];exact g))
 have lim:∀{xs:Ks},OutQ φ vs xs->(xs.map (·.2)).size<=sizeLine+1:=λh=>Az (Aa (Aj ((Array.size_map ..).trans h.sz)) hl)
 show wpAny (model prog w) A _ P E {s with heap:=((s.heap.update a (Obj.mapSeq λ_=> #[])).push (seqObj "tuple" vs.toArray 0)).push (seqObj "list" #[] 0)}
 dsimp only
 by_cases h2:vs.toArray.size<2
 ·rw[if_pos h2,if_pos h2]
  refine Ab (Ad ?_)
  rw[StateT.run_pure]
  refine Ab (Ad ?_)
  dsimp only
  have q:=out_one (φ:=φ) h2
  refine Ab (seqEpoch_at ho6 rfl (Ab (listUpdate_at ho6 rfl ?_ (Ag _) (lim q))))
  rw[bne_self_eq_false]
  exact Ad (h _ q)
 ·rw[if_neg h2,if_neg h2]
  obtain⟨fs,f1,f2,f3⟩:=B8c hv6
  have hvl:2<=vs.length:=Ca h2
  refine Ab (kat_kind (T:=.type "int") f1 (f2.symm▸Ap (Ar 1) hvl) (λf hf=>(f3 f hf).elim λx e=>e.elim λt e=>e▸Looks.of_pure rfl) (by rfl) ?_)
  generalize hH:((s.heap.update a (Obj.mapSeq λ_=> #[])).push (seqObj "tuple" vs.toArray 0)).push (seqObj "list" #[] 0)=h6 at ho6 hv6 ⊢
  have mem:∀{x:Keyed},x∈vs.zip vs->x.1=x.2/\x.1∈vs:=λm=>mem_zip_self m
  refine Ab (Af (z_sort (C:=scH prog w A E {s with heap:=h6} (Value.type "int" !=Value.type "tuple") φ) (st:=SortSt.mk' (tuples' (Value.type "int" !=Value.type "tuple")) (vs.toArray.zip vs.toArray) #[] 7 none)
   (λx m=>hv6 x.1 (mem (zip_t▸m)).2) rfl rfl rfl) ?_ λ_ _ e=>e)
  rintro ⟨⟨⟩,st'⟩ s' ⟨rfl,so,pm,fl⟩
  dsimp only at so pm fl ⊢
  have q:OutQ φ vs (arrOf st'):=⟨pm.trans (zip_t▸ .refl _),so⟩
  refine Ab (seqEpoch_at ho6 rfl (Ab (listUpdate_at ho6 rfl ?_ (Ag _) (lim q))))
  rw[fl,bne_self_eq_false]
  subst hH
  exact Ad (h _ q)
theorem A8v{l:Addr}{vs:List Value}{Q:Value->Shared->Prop}(hl:s.heap.IsList l vs.toArray)(hv:∀v∈vs,PrA s.heap (φ v) v)(hz:vs.length<=sizeLine)
  (h:∀xs:Ks,OutQ φ vs xs->Q (.ref (s.heap.objs.size+1)) {s with heap:=sortedAll s.heap vs (xs.map (·.2))}):
  wpAny (model prog w) A (call (.builtin "sorted") [.ref l]) Q E s:=by
 refine Calls.call_function_entry kind_sorted plain_sorted entry_sorted (args_sorted1 _) ?_
 unfold Builtin.«sorted»
 refine Ab (m:=checkCount "sorted" 1 1 _) (Ad ?_)
 refine Ab (collect_list hl ?_ hz)
 refine Ab (wpAny_newList ?_ hz)
 have hsz:((s.heap.push (seqObj "list" #[] 0)).update s.heap.objs.size (Obj.mapSeq (· ++vs.toArray))).objs.size=s.heap.objs.size+1:=by
  rw[Heap.size_update,size_push']
 have hoL:(((s.heap.push (seqObj "list" #[] 0)).update s.heap.objs.size (Obj.mapSeq (· ++vs.toArray))).push (seqObj "list" vs.toArray 0)).get? (s.heap.objs.size+1)=some (seqObj "list" vs.toArray 0):=by
  rw[←hsz];exact Heap.get?_push_size _ rfl
 have keep:∀b o,s.heap.get? b=some o->(((s.heap.push (seqObj "list" #[] 0)).update s.heap.objs.size (Obj.mapSeq (· ++vs.toArray))).push (seqObj "list" vs.toArray 0)).get? b=some o:=λb o q=>by
  refine Heap.get?_push_of_some _ ?_
  rw[Heap.get?_update_ne _ _ _ _ (B8 (Heap.lt_size q))]
  exact Heap.get?_push_of_some _ q
 show wpAny _ _ _ _ _ {s with heap:=((s.heap.push (seqObj "list" #[] 0)).update s.heap.objs.size (Obj.mapSeq (· ++vs.toArray))).push (seqObj "list" vs.toArray 0)}
 rw[hsz]
 refine Ab (wpAny_holding (wpAny_call_entry slot_list_sort ⟨_,hoL,rfl⟩ entry_list_sort (B7b (φ:=φ) hoL (λv hm=>(hv v hm).keep λb o _=>keep b o) (λv hm=> ?_) hz λxs hx=>⟨_,rfl,Ad ⟨_,rfl,h xs hx⟩⟩) (args_list_sort _)))
 have p:=hv v hm
 revert p
 generalize φ v=q
 exact λp=>p.rec (motive:=λv _=>v≠ .ref (s.heap.objs.size+1)) λb o n t u g _ _ e=>by
  injection e with e
  exact B8 (B1 (Heap.lt_size g)) e
end
section
variable{cx:Cx}{l:List Env}{S:St}
inductive PsA(cx:Cx)(S:St)(vs:List Value)(ps:List (Int×Int))(xs:List AVal):Prop
 |mk (e:vs.map (prV S.s.heap)=ps) (h:∀v∈vs,PrA S.s.heap (prV S.s.heap v) v/\VRep cx S.G (A4q (prV S.s.heap v)) v):PsA cx S vs ps xs
theorem pr_at(R:Rel cx l S){q:Int×Int}{v:Value}(h:VRep cx S.G (A4q q) v):PrA S.s.heap q v:=by
 obtain⟨vs,s,_,r⟩:=h
 cases vs with
 |nil=>exact r.elim
 |cons a vs=>
  cases vs with
  |nil=>exact r.2.elim
  |cons b vs=>
   obtain⟨⟨t⟩,⟨u⟩,e⟩:=r
   cases e
   exact s.rec λa o n g c d=>⟨a,o,n,t,u,R.stay _ _ g,c,d⟩
theorem ps_at(R:Rel cx l S):∀{xs:List AVal} {vs:List Value} {ps:List (Int×Int)},All2 (VRep cx S.G) xs vs->pairs? xs=some ps->PsA cx S vs ps xs:=by
 intro xs vs ps h
 induction h generalizing ps with
 |nil=>intro e;cases e;exact⟨rfl,λv m=>absurd m Cn⟩
 |@cons x y xs ys hx t ih=>
  intro e
  have key:∃q qs,x=A4q q/\pairs? xs=some qs/\ps=q::qs:=by
   cases x with
   |tup ys=>
    cases ys with
    |nil=>exact A0a e
    |cons a ys=>
     cases a with
     |int i=>
      cases ys with
      |nil=>exact A0a e
      |cons b zs=>
       cases b with
       |int j=>
        cases zs with
        |nil=>exact(Option.map_eq_some_iff.mp e).elim λqs h=>⟨(i,j),qs,rfl,h.1,h.2.symm⟩
        |cons _ _=>exact A0a e
       |_=>exact A0a e
     |_=>exact A0a e
   |_=>exact A0a e
  obtain⟨q,qs,rfl,e2,rfl⟩:=key
  obtain⟨e3,h3⟩:=ih e2
  have p:=pr_at R hx
  refine⟨by rw[List.map_cons,e3,p.pr],λv m=> ?_⟩
  cases m with
  |head=>rw[p.pr];exact⟨p,hx⟩
  |tail _ m=>exact h3 v m
theorem ok_gz{o:Obj}{a:Addr}{b:V}{h':Heap}{tk:Nat}{K:Kv}(R:Rel cx l S)(hn:S.s.heap.get? a=none)(ho:h'.get? a=some o)(kp:∀b o,S.s.heap.get? b=some o->h'.get? b=some o)(r:Sub S.G (S.G.put a o)->VR cx (S.G.put a o) S.σ b (.ref a))(k:K b S.h):Okx cx l S K (.ref a) {S.s with heap:=h',toks:=tk}:=
 ⟨{S with G:=S.G.put a o,s:={S.s with heap:=h',toks:=tk}},b,.g' (GM.sub_put (R.gNone hn)),(R.keep kp).gput (R.gNone hn) (R.fNone hn) (R.off' hn) ho,r (GM.sub_put (R.gNone hn)),k⟩
theorem sorted_ok(cx:Cx):A1z cx:=by
 intro A l S v xs ps K Y _ R hL hp hk
 cases hL with
 |mk a o vs n ho hl r=>
  obtain⟨e,hall⟩:=ps_at R r hp
  have lv:vs.length=xs.length:=r.length
  refine A8v ⟨_,ho,rfl,n,rfl⟩ (λu hu=>(hall u hu).1) (lv▸hl) λout O=> ?_
  have hz:∀z∈out.toList,z.1=z.2/\z.1∈vs:=λz m=>mem_zip_self (O.pm.mem_iff.mp m)
  have e2:(out.map (·.2)).toList=out.toList.map (·.1):=Array.toList_map.trans (List.map_congr_left λz m=>(hz z m).1.symm)
  have hvp:(out.toList.map (·.1)).Perm vs:=by
   have q:=O.pm.map Prod.fst
   rw[List.map_fst_zip (Ac _)] at q
   exact q
  have hs:(out.toList.map (·.1)).map (prV S.s.heap)=A6n ps:=by
   refine List.Perm.eq_of_pairwise (le:=λx y=>A1b x y=true) (λx y _ _ h1 h2=> ?_) ?_ (List.pairwise_mergeSort (le:=A1b) (λ_ _ _=>pl_tr) (λ_ _=>pl_to) ps) ((hvp.map _).trans (e▸(List.mergeSort_perm ..).symm))
   ·rcases A6w.mp h1 with a | a
    ·exact absurd a ((A6w.mp h2).elim (λb=>Int.lt_asymm b) λb=>b.1▸Int.lt_irrefl _)
    ·exact(A6w.mp h2).elim (λb=>absurd b (a.1▸Int.lt_irrefl _)) λb=>Prod.ext a.1 (Int.le_antisymm a.2 b.2)
   ·rw[List.map_map,List.pairwise_map]
    exact O.so
  obtain⟨ee,hat⟩:=sortedAll_at S.s.heap vs (out.map (·.2))
  have ea:(out.map (·.2))=(out.toList.map (·.1)).toArray:=by rw[←e2]
  refine ok_gz (tk:=S.s.toks) (o:=seqObj "list" (out.toList.map (·.1)).toArray ee) (b:=.p (.lst ((A6n ps).map A4q))) R (Heap.get?_none_of_le (A9 _)) (hat.trans (congrArg (λz=>some (seqObj "list" z ee)) ea)) (λb o q=>sortedAll_old q) (λsub=> ?_) hk
  refine⟨out.toList.map (·.1),⟨_,_,ee,GM.put_self,rfl,rfl⟩,?_,?_⟩
  ·rw[Aw,←hs,Aw,hvp.length_eq,lv];exact hl
  ·rw[←hs]
   refine VReps.mono sub ?_
   have all:∀u∈out.toList.map (·.1),VRep cx S.G (A4q (prV S.s.heap u)) u:=λu m=>(hall u (hvp.mem_iff.mp m)).2
   revert all
   generalize out.toList.map (·.1)=us
   intro all
   induction us with
   |nil=>rfl
   |cons u us ih=>exact⟨all u (.head _),ih λz m=>all z (.tail _ m)⟩
end
end Mine
end
section
namespace Mine
end Mine
end
theorem PySem.Challenge.cw_nn0398_01_holds : PySem.Challenge.rw_nn0398_01.Holds :=
 Mine.law_holds Mine.sorted_ok
