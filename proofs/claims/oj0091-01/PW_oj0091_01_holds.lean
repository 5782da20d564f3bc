import PyProof.Rows.All
import Wide.All
import OpenK.AllK
import Wide.FinOn
import Lean
import PySem.Challenge.RW_oj0091_01
open PySem PySem.W PyProof.Rows PySem.Calls
set_option Elab.async false
set_option linter.unusedVariables false
set_option linter.unusedSimpArgs false
set_option maxRecDepth 100000
set_option autoImplicit true
set_option genSizeOf false
set_option genInjectivity false
set_option compiler.extract_closed false
namespace Mine
open Lean in
def sth(e:Syntax)(s:Array Syntax):MacroM Syntax:=do
 let n:=Syntax.node .none
 return n ``Parser.Tactic.runTac #[mkAtomFrom (← getRef) "run_tac",n ``Parser.Term.doSeqIndent #[n `null #[n ``Parser.Term.doSeqItem #[e,n `null s]]]]
open Lean in
def stw(p:Name)(s:Array Syntax):MacroM Syntax:=sth (.node .none ``Parser.Term.doExpr #[mkIdent p]) s
local macro_rules |`(tactic|as_aux_lemma=>$ts:tacticSeq)=>sth ts.raw[0][0][0][1][0][0][0] #[ts]
open Lean in
local macro_rules |`(f!$x)=>`($(Lean.mkIdent `Cs) $(quote ((x.raw[0].isInterpolatedStrLit?.getD "").toList.map (·.toNat))))
abbrev LN:=List Nat
abbrev aX:=List LN
local macro_rules |`(#[$xs,*])=>`(⟨$xs,*⟩)
local macro_rules |`(⋯)=>`(by decide +kernel)
local macro_rules |`(∎)=>`(by omega)
local macro_rules |`(!$x:str)=>`(Str.ofString $x)
noncomputable section
inductive V where
 | none
 | bool (b:Bool)
 | int (i:Int)
 | str (s:LN)
 | tup (vs:List V)
 | ref (a:Addr)
 | typ (n:String)
 | bi (id:String)
 | rng (a b c:Int)
inductive Cell where
 | list (vs:List V)
 | dict (es:List (Str×V))
 | inst (C d:Addr)
 | exc (C:Addr) (d:Option Addr)
inductive Slot where
 | free
 | imm (o:Obj)
 | cell (c:Cell)
 | frame (m:Str->Option Value)
 | tb (e:Addr)
 | own (o:Obj)
abbrev G:=Addr->Slot
abbrev Sg:=Addr->Option Cell
abbrev Ψ:=Sg→Prop
def Tr(g:G)(e:Addr):Prop:=∃ T,g T = .tb e
noncomputable def iK(xs:List Value)(n:Nat):Obj:={ cls:=.type "tuple",data:=.seq xs.toArray n }
noncomputable def WD(a b c:Int)(t u v:Tok):Obj:={ cls:=.type "range",data:=.fields ([.int a t,.int b u,.int c v].toArray) }
noncomputable def Og(xs:List Value)(n:Nat):Obj:={ cls:=.type "list",data:=.seq xs.toArray n }
noncomputable def Gg(C:Addr)(d:Option Addr)(a0 tb ctx ca su me:Value):Obj:={ cls:=.ref C,dict:=d,data:=.fields ([a0,tb,ctx,ca,su,me].toArray) }
mutual
inductive Rep(g:G):V->Value->Prop where
 | none:Rep g .none .none
 | bool (b:Bool):Rep g (.bool b) (.bool b)
 | int (i:Int) (t:Tok):Rep g (.int i) (.int i t)
 | str (l:LN) (t:Tok):l.length<=sizeLine->Rep g (.str l) (.str #[l.toArray] t)
 | tup {vs:List V} {xs:List Value} {a:Addr} {n:Nat}:g a = .imm (iK xs n)->aV g vs xs->vs.length<=sizeLine->Rep g (.tup vs) (.ref a)
 | ref (a:Addr):Rep g (.ref a) (.ref a)
 | typ (n:String):Rep g (.typ n) (.type n)
 | bi (n:String):Rep g (.bi n) (.builtin n)
 | rng {a b c:Int} {r:Addr} {t u v:Tok}:g r = .imm (WD a b c t u v)->Rep g (.rng a b c) (.ref r)
inductive aV(g:G):List V->List Value->Prop where
 | nil:aV g [] []
 | cons {v:V} {x:Value} {vs:List V} {xs:List Value}:Rep g v x->aV g vs xs->aV g (v::vs) (x::xs)
end
structure Le(g g':G):Prop where
 imm:∀ a o,g a = .imm o->g' a = .imm o
 frame:∀ a m,g a = .frame m->g' a = .frame m
 tb:∀ a e,g a = .tb e->g' a = .tb e
 exc:∀ a C d,g a = .cell (.exc C d)->∃ d',g' a = .cell (.exc C d')
 own:∀ a o,g a = .own o->g' a = .own o
structure gU(L:Addr)(g g':G):Prop where
 imm:∀ a o,g a = .imm o->g' a = .imm o
 frame:∀ a m,a≠L->g a = .frame m->g' a = .frame m
 tb:∀ a e,g a = .tb e->g' a = .tb e
 exc:∀ a C d,g a = .cell (.exc C d)->∃ d',g' a = .cell (.exc C d')
 own:∀ a o,g a = .own o->g' a = .own o
inductive dR(P:Params)(g:G):List (Str×V)->List DictEntry->Prop where
 | nil:dR P g [] []
 | cons {k:Str} {v:V} {es:List (Str×V)} {t:Tok} {x:Value} {ds:List DictEntry}:Rep g v x->dR P g es ds->dR P g ((k,v)::es) (#[PyData.keyHash P k,.str k t,x]::ds)
def dw(es:List (Str×V)):Prop:=(es.map (·.1)).Nodup
def iU(P:Params)(g:G)(h:Heap)(a:Addr):Cell->Prop
 | .list vs=>∃ xs n,h.get? a=some (Og xs n)/\aV g vs xs/\vs.length<=sizeLine
 | .dict es=>∃ ds n,h.get? a=some (dictOf ds n)/\dR P g es ds/\es.length<=1000/\dw es
 | .inst C d=>h.get? a=some (instObj C d)
 | .exc C d=>∃ a0 tb ctx ca su me,h.get? a=some (Gg C d a0 tb ctx ca su me)/\((tb = .none/\¬ Tr g a)∨∃ T,tb = .ref T/\g T = .tb a) /\
   (ctx = .none∨∃ c C' d',ctx = .ref c/\c<a/\g c = .cell (.exc C' d'))
def cz(P:Params)(g:G)(h:Heap)(a:Addr):Slot->Prop
 | .free=>True
 | .imm o=>h.get? a=some o
 | .cell c=>iU P g h a c
 | .frame m=>h.Ns a m
 | .tb e=>(∃ o ts,h.get? a=some o/\o.data = .fields ts/\4<=ts.size)/\e<a
 | .own o=>h.get? a=some o
def gf(P:Params)(g:G)(h:Heap):Prop:=∀ a,cz P g h a (g a)
def View(U:Sg)(g:G):Prop:=∀ a c,U a=some c->g a = .cell c
noncomputable def G.set(g:G)(a:Addr)(s:Slot):G:=λb=>if b=a then s else g b
noncomputable def lk{α:Type}(x:Str):List (Str×α)->Option α
 | []=>none
 | (y,v)::r=>if x=y then some v else lk x r
section
variable (prog:Program) (w:World) (s0:Shared)
structure Si(g:G)(s:Shared):Prop where
 ok:gf w.params g s.heap
 base:∀ a o,s0.heap.get? a=some o->g a = .imm o
 gens:s.gens=s0.gens
 os:s.os=s0.os
end
structure Cx where
 n:Nat
 hd:Option Addr
def DW(g:G)(l:List Env):Prop:=∀ env∈l,env.scope.kind ≠ .module/\∃ L m,env.frame=some L/\g L = .frame m
structure qM(A:Around)(c:Cx)(g:G)(l:List Env):Prop where
 depth:A.depth+c.n<recursionLimit
 units:A.units+10*c.n+70<cLine
 hand:A.handled=c.hd.map .ref
 hexc:∀ e,c.hd=some e->∃ C d,g e = .cell (.exc C d)
 frames:A.frames=some l
 fr:DW g l
structure bG(g g':G):Prop extends Le g g' where
 cell:∀ a c,g a = .cell c->g' a = .cell c
structure bc where
 name:Str
 params:Arguments
 body:List Stmt
 scope:Scope
noncomputable def stm(i:Nat):Stmt:=(PySem.Challenge.pw_oj0091_01.main.body)[i]?.getD (.Pass #[0,0,0,0])
noncomputable def aF(z:Stmt):bc:=if q:z.ctorIdx=0 then Stmt.FunctionDef.elim z q λx y b _ _ _ s _ _ _=>#[x,y,b,s]else#[Str.empty,#[[],[],none,[],[],none,[]],[],default]
def fJ(j:Nat)(z:Stmt):bc:=aF (if q:z.ctorIdx=2 then Stmt.ClassDef.elim z q λ_ _ _ b _ _ _ _ _ _ _=>b[j]?.getD (.Pass #[0,0,0,0])else .Pass #[0,0,0,0])
def fn_agx:bc:=aF (stm 0)
def fn_aeR:bc:=fJ 0 (stm 2)
def fn_ae5:bc:=fJ 0 (stm 5)
def fn_afx:bc:=fJ 0 (stm 6)
def fn_afo:bc:=fJ 0 (stm 7)
def fn_agq:bc:=aF (stm 8)
def fn_afp:bc:=aF (stm 9)
def fn_agi:bc:=aF (stm 10)
def fn_agA:bc:=aF (stm 11)
def fn_agE:bc:=aF (stm 12)
def fn_agw:bc:=aF (stm 13)
def fn_afV:bc:=aF (stm 14)
def fn_afu:bc:=aF (stm 15)
def fn_afP:bc:=aF (stm 16)
def fn_afQ:bc:=aF (stm 18)
def fn_agu:bc:=aF (stm 19)
def fn_aeZ:bc:=aF (stm 20)
def fn_agf:bc:=aF (stm 21)
def fn_af5:bc:=aF (stm 22)
def fn_agg:bc:=aF (stm 23)
def fn_afI:bc:=aF (stm 24)
def fn_afS:bc:=aF (stm 26)
def fn_afv:bc:=aF (stm 27)
def fn_afC:bc:=aF (stm 28)
def fn_agk:bc:=aF (stm 29)
def fn_afy:bc:=aF (stm 30)
def fn_aeL:bc:=aF (stm 31)
def fn_aeG:bc:=aF (stm 32)
def fn_afw:bc:=aF (stm 33)
def fn_afX:bc:=aF (stm 34)
def fn_af1:bc:=aF (stm 35)
def fn_agl:bc:=aF (stm 36)
def fn_ae4:bc:=aF (stm 37)
def fn_afq:bc:=aF (stm 38)
def fn_ae6:bc:=aF (stm 39)
def fn_agy:bc:=aF (stm 40)
def fn_afs:bc:=aF (stm 41)
def fn_aeW:bc:=aF (stm 43)
def fn_aeM:bc:=aF (stm 44)
def fn_aeJ:bc:=aF (stm 45)
def fn_aeX:bc:=aF (stm 46)
def fn_ae0:bc:=aF (stm 47)
def fn_afk:bc:=aF (stm 48)
def fn_age:bc:=aF (stm 49)
def fn_af7:bc:=aF (stm 50)
def fn_agr:bc:=aF (stm 51)
def fn_afK:bc:=aF (stm 52)
def fn_agz:bc:=aF (stm 53)
def fn_ae8:bc:=aF (stm 54)
def fn_agn:bc:=aF (stm 55)
def fn_afE:bc:=aF (stm 56)
def fn_afM:bc:=fJ 0 (stm 58)
def fn_agj:bc:=aF (stm 60)
def fn_afO:bc:=aF (stm 61)
def fn_ago:bc:=aF (stm 62)
def fn_afr:bc:=aF (stm 63)
def fn_afm:bc:=aF (stm 64)
def fn_afJ:bc:=fJ 0 (stm 65)
def fn_afL:bc:=fJ 1 (stm 65)
def fn_afi:bc:=fJ 2 (stm 65)
def fn_afh:bc:=fJ 3 (stm 65)
def fn_af3:bc:=fJ 4 (stm 65)
def fn_aeF:bc:=fJ 5 (stm 65)
def fn_afA:bc:=fJ 6 (stm 65)
def fn_ae9:bc:=fJ 7 (stm 65)
def fn_afj:bc:=fJ 8 (stm 65)
def fn_ae1:bc:=fJ 9 (stm 65)
def fn_afe:bc:=aF (stm 66)
def fn_agm:bc:=aF (stm 67)
def fn_afB:bc:=aF (stm 68)
def fn_afb:bc:=aF (stm 69)
def fn_agD:bc:=aF (stm 70)
def fn_aeK:bc:=fJ 0 (stm 71)
def fn_aeU:bc:=fJ 1 (stm 71)
def fn_aeD:bc:=fJ 2 (stm 71)
def fn_aez:bc:=fJ 3 (stm 71)
def fn_aey:bc:=fJ 4 (stm 71)
def fn_aeN:bc:=fJ 5 (stm 71)
def fn_aeE:bc:=fJ 6 (stm 71)
def fn_aeO:bc:=fJ 7 (stm 71)
def fn_aeC:bc:=fJ 8 (stm 71)
def fn_aeI:bc:=fJ 9 (stm 71)
def fn_aeS:bc:=fJ 10 (stm 71)
def fn_aeB:bc:=fJ 11 (stm 71)
def fn_aeP:bc:=fJ 12 (stm 71)
def fn_aeA:bc:=fJ 13 (stm 71)
def fn_aeH:bc:=fJ 14 (stm 71)
def fn_aga:bc:=aF (stm 73)
def fn_aeV:bc:=aF (stm 74)
def fn_ae3:bc:=aF (stm 75)
def fn_aeT:bc:=aF (stm 76)
def fn_afa:bc:=aF (stm 77)
def fn_agp:bc:=aF (stm 78)
def fn_afD:bc:=aF (stm 79)
def fn_agt:bc:=aF (stm 81)
def fn_afN:bc:=aF (stm 83)
def fn_afH:bc:=aF (stm 84)
def fn_afd:bc:=aF (stm 85)
def fn_afG:bc:=aF (stm 86)
def fn_afY:bc:=aF (stm 87)
def fn_afF:bc:=aF (stm 88)
def fn_ae2:bc:=aF (stm 89)
def fn_afT:bc:=aF (stm 90)
def fn_afl:bc:=aF (stm 92)
def fn_agb:bc:=aF (stm 93)
def fn_afz:bc:=aF (stm 94)
def fn_afn:bc:=aF (stm 95)
def fn_aeY:bc:=aF (stm 96)
def fn_afg:bc:=aF (stm 98)
def fn_afZ:bc:=aF (stm 99)
def fn_af0:bc:=aF (stm 100)
def fn_ae7:bc:=aF (stm 101)
def fn_af6:bc:=aF (stm 102)
def fn_af8:bc:=aF (stm 103)
def fn_af9:bc:=aF (stm 104)
def fn_agd:bc:=aF (stm 105)
def fn_af4:bc:=aF (stm 106)
def fn_agc:bc:=aF (stm 107)
def fn_afU:bc:=aF (stm 108)
def fn_afR:bc:=aF (stm 109)
def fn_agh:bc:=aF (stm 110)
def fn_af2:bc:=aF (stm 111)
def fn_afW:bc:=aF (stm 112)
def fn_afc:bc:=aF (stm 113)
def fn_aeQ:bc:=aF (stm 114)
def fn_agJ:bc:=aF (stm 115)
noncomputable def tE:List (Str×V):=[
 (!"_wall",.ref 21),
 (!"TclFault",.ref 38),
 (!"Misused",.ref 51),
 (!"OutOfFuel",.ref 63),
 (!"Raised",.ref 84),
 (!"Nest",.ref 105),
 (!"Pause",.ref 126),
 (!"error",.ref 139),
 (!"wrong_args",.ref 146),
 (!"listing",.ref 153),
 (!"pick",.ref 160),
 (!"cut",.ref 167),
 (!"note",.ref 174),
 (!"note_row",.ref 181),
 (!"end_return",.ref 188),
 (!"end_proc",.ref 195),
 (!"is_blank",.ref 202),
 (!"digit",.ref 209),
 (!"digits_value",.ref 216),
 (!"base_of",.ref 223),
 (!"whole_of",.ref 230),
 (!"bool_of",.ref 237),
 (!"need_bool",.ref 244),
 (!"hex_sign",.ref 251),
 (!"octal_sign",.ref 258),
 (!"backslash",.ref 265),
 (!"is_gap",.ref 272),
 (!"skip_gaps",.ref 279),
 (!"comment_behind",.ref 286),
 (!"skip_to_command",.ref 293),
 (!"read_name",.ref 300),
 (!"variable",.ref 307),
 (!"brackets",.ref 314),
 (!"braces",.ref 321),
 (!"parts_until",.ref 328),
 (!"bare_stops",.ref 335),
 (!"is_expanded",.ref 342),
 (!"word",.ref 349),
 (!"command_at",.ref 357),
 (!"check_behind",.ref 364),
 (!"braced_element",.ref 371),
 (!"quoted_element",.ref 378),
 (!"bare_element",.ref 385),
 (!"find_element",.ref 392),
 (!"split_list",.ref 399),
 (!"mode_of",.ref 406),
 (!"escaped",.ref 413),
 (!"quote",.ref 421),
 (!"join_list",.ref 428),
 (!"trim",.ref 435),
 (!"concat_part",.ref 442),
 (!"concat",.ref 449),
 (!"code_text",.ref 456),
 (!"Var",.ref 473),
 (!"text_of",.ref 484),
 (!"words_of",.ref 491),
 (!"blame",.ref 498),
 (!"run_script",.ref 505),
 (!"outcome_of",.ref 512),
 (!"Host",.ref 593),
 (!"no_variable",.ref 604),
 (!"var_in",.ref 611),
 (!"put_value",.ref 618),
 (!"elements_in",.ref 625),
 (!"act",.ref 632),
 (!"SmallHost",.ref 749),
 (!"info_of",.ref 758),
 (!"error_options",.ref 765),
 (!"options_text",.ref 772),
 (!"write_quietly",.ref 779),
 (!"note_caught",.ref 786),
 (!"tried",.ref 793),
 (!"run_catch",.ref 800),
 (!"truth",.ref 807),
 (!"run_body",.ref 814),
 (!"run_while",.ref 821),
 (!"each_groups",.ref 828),
 (!"set_round",.ref 835),
 (!"run_each",.ref 842),
 (!"run_break",.ref 849),
 (!"run_continue",.ref 856),
 (!"run_eval",.ref 863),
 (!"part_ahead",.ref 870),
 (!"part_at",.ref 877),
 (!"part_text",.ref 884),
 (!"subst_text",.ref 892),
 (!"subst_action",.ref 897),
 (!"_law_number",.ref 904),
 (!"_law_deep",.ref 911),
 (!"_law_flat",.ref 918),
 (!"_law_scripts",.ref 925),
 (!"_law_vars",.ref 930),
 (!"_law_act",.ref 937),
 (!"_law_put",.ref 944),
 (!"_law_say",.ref 951),
 (!"_law_dear",.ref 958),
 (!"_law_bad",.ref 965),
 (!"_law_proc",.ref 972),
 (!"_law_test",.ref 979),
 (!"_law_run",.ref 986),
 (!"_law_host",.ref 993),
 (!"_law_done",.ref 1000),
 (!"_law_counted",.ref 1007),
 (!"_law_cut_right",.ref 1012),
 (!"law",.ref 1019),
 (!"tuple",.typ "tuple"),
 (!"str",.typ "str"),
 (!"range",.typ "range"),
 (!"enumerate",.typ "enumerate"),
 (!"Exception",.typ "Exception"),
 (!"len",.bi "len"),
 (!"isinstance",.bi "isinstance"),
 (!"ord",.bi "ord"),
 (!"chr",.bi "chr")]
def gl(x:Str):Option V:=lk x tE
def gh:List (Addr×Str×bc×Option Addr):=[
 (21,!"_wall",fn_agx,none),
 (35,!"TclFault.__init__",fn_aeR,none),
 (81,!"Raised.__init__",fn_ae5,some 74),
 (102,!"Nest.__init__",fn_afx,some 95),
 (123,!"Pause.__init__",fn_afo,none),
 (139,!"error",fn_agq,some 132),
 (146,!"wrong_args",fn_afp,none),
 (153,!"listing",fn_agi,none),
 (160,!"pick",fn_agA,none),
 (167,!"cut",fn_agE,none),
 (174,!"note",fn_agw,none),
 (181,!"note_row",fn_afV,none),
 (188,!"end_return",fn_afu,none),
 (195,!"end_proc",fn_afP,none),
 (202,!"is_blank",fn_afQ,none),
 (209,!"digit",fn_agu,none),
 (216,!"digits_value",fn_aeZ,none),
 (223,!"base_of",fn_agf,none),
 (230,!"whole_of",fn_af5,none),
 (237,!"bool_of",fn_agg,none),
 (244,!"need_bool",fn_afI,none),
 (251,!"hex_sign",fn_afS,none),
 (258,!"octal_sign",fn_afv,none),
 (265,!"backslash",fn_afC,none),
 (272,!"is_gap",fn_agk,none),
 (279,!"skip_gaps",fn_afy,none),
 (286,!"comment_behind",fn_aeL,none),
 (293,!"skip_to_command",fn_aeG,none),
 (300,!"read_name",fn_afw,none),
 (307,!"variable",fn_afX,none),
 (314,!"brackets",fn_af1,none),
 (321,!"braces",fn_agl,none),
 (328,!"parts_until",fn_ae4,none),
 (335,!"bare_stops",fn_afq,none),
 (342,!"is_expanded",fn_ae6,none),
 (349,!"word",fn_agy,none),
 (357,!"command_at",fn_afs,some 350),
 (364,!"check_behind",fn_aeW,none),
 (371,!"braced_element",fn_aeM,none),
 (378,!"quoted_element",fn_aeJ,none),
 (385,!"bare_element",fn_aeX,none),
 (392,!"find_element",fn_ae0,none),
 (399,!"split_list",fn_afk,none),
 (406,!"mode_of",fn_age,none),
 (413,!"escaped",fn_af7,none),
 (421,!"quote",fn_agr,some 414),
 (428,!"join_list",fn_afK,none),
 (435,!"trim",fn_agz,none),
 (442,!"concat_part",fn_ae8,none),
 (449,!"concat",fn_agn,none),
 (456,!"code_text",fn_afE,none),
 (470,!"Var.__init__",fn_afM,none),
 (484,!"text_of",fn_agj,none),
 (491,!"words_of",fn_afO,none),
 (498,!"blame",fn_ago,none),
 (505,!"run_script",fn_afr,none),
 (512,!"outcome_of",fn_afm,none),
 (527,!"Host.__init__",fn_afJ,some 520),
 (534,!"Host.tool",fn_afL,none),
 (541,!"Host.spend",fn_afi,none),
 (548,!"Host.where",fn_afh,none),
 (555,!"Host.run",fn_af3,none),
 (562,!"Host.run_global",fn_aeF,none),
 (569,!"Host.call",fn_afA,none),
 (576,!"Host.finish",fn_ae9,none),
 (583,!"Host.leave",fn_afj,none),
 (590,!"Host.outcome",fn_ae1,none),
 (604,!"no_variable",fn_afe,none),
 (611,!"var_in",fn_agm,none),
 (618,!"put_value",fn_afB,none),
 (625,!"elements_in",fn_afb,none),
 (632,!"act",fn_agD,none),
 (647,!"SmallHost.__init__",fn_aeK,some 640),
 (654,!"SmallHost.has",fn_aeU,none),
 (661,!"SmallHost.place",fn_aeD,none),
 (668,!"SmallHost.read_var",fn_aez,none),
 (675,!"SmallHost.write_var",fn_aey,none),
 (682,!"SmallHost.read",fn_aeN,none),
 (689,!"SmallHost.write",fn_aeE,none),
 (696,!"SmallHost.drop",fn_aeO,none),
 (703,!"SmallHost.stamp",fn_aeC,none),
 (710,!"SmallHost.array",fn_aeI,none),
 (718,!"SmallHost.put",fn_aeS,some 711),
 (725,!"SmallHost.remove",fn_aeB,none),
 (732,!"SmallHost.add",fn_aeP,none),
 (739,!"SmallHost.is_first",fn_aeA,none),
 (746,!"SmallHost.begin",fn_aeH,none),
 (758,!"info_of",fn_aga,none),
 (765,!"error_options",fn_aeV,none),
 (772,!"options_text",fn_ae3,none),
 (779,!"write_quietly",fn_aeT,none),
 (786,!"note_caught",fn_afa,none),
 (793,!"tried",fn_agp,none),
 (800,!"run_catch",fn_afD,none),
 (807,!"truth",fn_agt,none),
 (814,!"run_body",fn_afN,none),
 (821,!"run_while",fn_afH,none),
 (828,!"each_groups",fn_afd,none),
 (835,!"set_round",fn_afG,none),
 (842,!"run_each",fn_afY,none),
 (849,!"run_break",fn_afF,none),
 (856,!"run_continue",fn_ae2,none),
 (863,!"run_eval",fn_afT,none),
 (870,!"part_ahead",fn_afl,none),
 (877,!"part_at",fn_agb,none),
 (884,!"part_text",fn_afz,none),
 (892,!"subst_text",fn_afn,some 885),
 (897,!"subst_action",fn_aeY,none),
 (904,!"_law_number",fn_afg,none),
 (911,!"_law_deep",fn_afZ,none),
 (918,!"_law_flat",fn_af0,none),
 (925,!"_law_scripts",fn_ae7,none),
 (930,!"_law_vars",fn_af6,none),
 (937,!"_law_act",fn_af8,none),
 (944,!"_law_put",fn_af9,none),
 (951,!"_law_say",fn_agd,none),
 (958,!"_law_dear",fn_af4,none),
 (965,!"_law_bad",fn_agc,none),
 (972,!"_law_proc",fn_afU,none),
 (979,!"_law_test",fn_afR,none),
 (986,!"_law_run",fn_agh,none),
 (993,!"_law_host",fn_af2,none),
 (1000,!"_law_done",fn_afW,none),
 (1007,!"_law_counted",fn_afc,none),
 (1012,!"_law_cut_right",fn_aeQ,none),
 (1019,!"law",fn_agJ,none)]
noncomputable def Kv:List (Addr×Str×Addr):=[
 (749,"__init__",647),
 (749,"has",654),
 (749,"place",661),
 (749,"read_var",668),
 (749,"write_var",675),
 (749,"read",682),
 (749,"write",689),
 (749,"drop",696),
 (749,"stamp",703),
 (749,"array",710),
 (749,"put",718),
 (749,"remove",725),
 (749,"add",732),
 (749,"is_first",739),
 (749,"begin",746),
 (749,"tool",534),
 (749,"spend",541),
 (749,"where",548),
 (749,"run",555),
 (749,"run_global",562),
 (749,"call",569),
 (749,"finish",576),
 (749,"leave",583),
 (749,"outcome",590),
 (105,"__init__",102),
 (473,"__init__",470)]
noncomputable def vB:List (Addr×Str):=[
 (749,"tools"),
 (749,"inline"),
 (749,"limit"),
 (749,"fuel"),
 (749,"depth"),
 (749,"spent"),
 (749,"epoch"),
 (749,"frame"),
 (749,"coroutine"),
 (749,"vars"),
 (749,"commands"),
 (749,"firsts"),
 (105,"script"),
 (105,"back"),
 (105,"is_proc"),
 (105,"label"),
 (473,"kind"),
 (473,"value"),
 (473,"traces"),
 (473,"is_busy"),
 (473,"is_element"),
 (473,"writes")]
noncomputable def Ed:List (Addr×Str):=[
 (84,"code"),
 (84,"value"),
 (84,"errorcode"),
 (84,"level"),
 (84,"ret"),
 (84,"info"),
 (84,"is_noted"),
 (84,"line"),
 (84,"extra"),
 (63,"why")]
noncomputable def up{α:Type}(x:Str)(v:α):List (Str×α)->List (Str×α)
 | []=>[(x,v)]
 | (y,u)::r=>if x=y then(y,v)::r else(y,u)::up x v r
abbrev Lm:=List (Str×V)
def tM(g:G)(m:Lm)(mc:Str->Option Value):Prop:=∀ x v,lk x m=some v->∃ y,mc x=some y/\Rep g v y
noncomputable def aM:List Value->Bool
 | .ref _::r=>aM r
 | l=>l==[.type "Exception",.type "BaseException",.type "object"]
noncomputable def Em:List Addr:=[105,473,749,84,63,593]
noncomputable def xJ:List (Addr×Addr):=[(105,102),(473,470),(749,647)]
noncomputable def fO:List (Addr×Addr):=[(84,81),(63,35)]
noncomputable def bmE:List Value:=[.type "Exception",.type "BaseException",.type "object"]
noncomputable def chs(s:String):LN:=s.toList.map Char.toNat
def qi:List (Addr×List V):=[
 (74,[.tup [.str (chs "NONE")],.int 0,.int 0]),(95,[.none,.bool false,.str []]),(132,[.tup [.str (chs "NONE")]]),(350,[.bool false]),(414,[.bool false]),
 (520,[.int 40,.none]),(640,[.int 40,.none]),(711,[.none]),(885,[.bool true,.bool true,.bool true])]
structure Tp where
 prog:Program
 w:World
 s0:Shared
 K:Frag
 mg:Str->Option Value
 mb:Str->Option Value
 inK:K.In s0.heap
 g:s0.heap.Ns mainGlobals mg
 b:s0.heap.Ns builtinsNs mb
 nolimit:s0.heap.NoLimit
 bu:∀ x:Str,x≠"__name__"->mb x=bootBuiltins x
 glok:∀ x v,gl x=some v->∃ y,(mg x=some y∨(mg x=none/\mb x=some y))/\∀ g,Rep g v y
 sysm:∃ o,s0.heap.get? sysModules=some o
 fn_ok:∀ f q D dv,(f,q,D,dv)∈gh->∃ oc od pm an cdv ct kV doc osl,K.lookup f=some #[oc,od,.func (fnOf D.name q D.params D.body D.scope (match dv with | some t=>.ref t | none=>.none) kV doc pm an cdv ct),osl]/\codeIn K cdv q=true
 attr_ok:∀ C n,(C,n)∈vB->plainGet K C n=true/\hasDictIn K C=true/\findIn K (.ref C) n=some none/\takerIn K C n=some none/\plainOver K C=true/\findIn K (.ref C) "__setattr__"=some (some (.builtin "object.__setattr__"))
 exc_ok:∀ C n,(C,n)∈Ed->findIn K (.ref C) "__getattribute__"=some (some (.builtin "BaseException.__getattribute__"))/\findIn K (.ref C) "__getattr__"=some none/\mroIn K C (.type "BaseException")=some true/\findIn K (.ref C) n=some none /\
  hasDictIn K C=true/\takerIn K C n=some none/\(clsIn K C).any (λcd=>aM cd.mro)=true/\findIn K (.ref C) "__setattr__"=some (some (.builtin "object.__setattr__"))
 meth_ok:∀ C n f,(C,n,f)∈Kv->plainGet K C n=true/\findIn K (.ref C) n=some (some (.ref f))/\isFn K (.ref f)=true
 keep_ok:∀ C,C∈Em->keepIn K (.ref C)=true
 isi_ok:∀ C,C∈([105,126]:List Addr)->(clsIn K C).isSome=true/\typeIn K (.ref C)=some (.type "type")/\subIn K (.type "str") (.ref C)=some false
 make_ok:∀ C f,(C,f)∈xJ->makesIn K C=true/\findIn K (.ref C) "__init__"=some (some (.ref f))/\typeIn K (.ref f)=some (.type "function")
 excn_ok:∀ C f,(C,f)∈fO->(∃ nm q N bs bm hdct sn sub ab col dd k0 k1 k2 k3 k5,K.lookup C=some (excClassObj nm q C N bs bm hdct sn sub ab col dd k0 k1 k2 k3 k5 "Exception.__new__")/\∀ X:String,bm.contains (.type X)=bmE.contains (.type X)) /\
  findIn K (.ref C) "__init__"=some (some (.ref f))/\typeIn K (.ref f)=some (.type "function")/\specialIn K (.ref C) "__call__"=some (some (.builtin "type.__call__"))/\instIn K (.ref C) (.type "type")=some true /\
  instIn K (.ref C) (.type "tuple")=some false/\mroIn K C (.type "BaseException")=some true/\typeIn K (.ref C)=some (.type "type")
 exm_ok:∀ C D f f',(C,f)∈fO->(D,f')∈fO->exmOne K (.ref C) (.ref D)=some (C==D)
 host_ok:readsIn K 593 (.type "type")=true/\specialIn K (.ref 593) "__getattribute__"=some (some (.builtin "type.__getattribute__"))/\findCls K (.ref 593) (.type "type") "__init__"=some (.val (.ref 527))
 def_ok:∀ t vs,(t,vs)∈qi->∃ xs n,K.lookup t=some (iK xs n)/\∀ g:G,(∀ a o,K.lookup a=some o->g a = .imm o)->aV g vs xs
noncomputable abbrev Tp.M(T:Tp):Model:=model T.prog T.w
abbrev Tp.Si(T:Tp):=Mine.Si T.w T.s0
structure Fc where
 qual:Str
 sc:Scope
 fa:Addr
 cd:Value
 cl:List (Str×Addr):=[]
noncomputable def Fc.env(F:Fc)(L:Addr):Env:={ envOf F.qual F.sc L F.fa F.cd with cells:=F.cl }
noncomputable def CK(g:G)(c:Addr):Option Value:=match g c with
 | .imm o=>(match o.data with | .cell v=>v | _=>none)
 | _=>none
def Fc.see(F:Fc)(g:G)(mc:Str->Option Value)(x:Str):Option Value:=match lk x F.sc.names with
 | some .cell=>(match F.cl.lookup x with | some c=>CK g c | none=>none)
 | _=>mc x
structure Run(T:Tp)(c:Cx)(F:Fc)(m:Lm)(U:Sg)(A:Around)(L:Addr)(l:List Env)(g:G)(s:Shared):Prop where
 view:View U g
 si:T.Si g s
 aok:qM A c g (F.env L::l)
 fr:∃ mc,g L = .frame mc/\tM g m (F.see g mc)
 kind:F.sc.kind = .function
def PV(T:Tp)(g:G)(Q:V->Ψ)(v:Value)(s':Shared):Prop:=∃ g' x U',Le g g'/\T.Si g' s'/\View U' g'/\Rep g' x v/\Q x U'
def PX(T:Tp)(g:G)(X:Addr->Ψ)(v:Value)(s':Shared):Prop:=∃ g' e U',v = .ref e/\Le g g'/\T.Si g' s'/\View U' g'/\(∃ C d,g' e = .cell (.exc C d))/\X e U'
def aj(T:Tp)(c:Cx)(f:V)(vs:List V)(Q:V->Ψ)(X:Addr->Ψ)(U:Sg):Prop :=
 ∀ g s A l fv args,View U g->T.Si g s->qM A c g l->Rep g f fv->aV g vs args->wpAny T.M A (call fv args) (PV T g Q) (PX T g X) s
section
variable {T:Tp} {c:Cx} {F:Fc} {m:Lm} {X:Addr->Ψ} {U:Sg}
noncomputable def Qq(s:Str):LN:=s.cps.toList
end
def gJ(op:Operator)(a b:V)(Q:V->Prop):Prop:=match op,a,b with
 | .Add,.int i,.int j=>Q (.int (i+j))
 | .Sub,.int i,.int j=>Q (.int (i-j))
 | .Mult,.int i,.int j=>i.natAbs<2 ^ 62/\Q (.int (i*j))
 | .FloorDiv,.int i,.int j=>(0<j/\j<2 ^ 60)/\Q (.int (i/j))
 | .Mod,.int i,.int j=>0<j/\Q (.int (i%j))
 | .Add,.str a,.str b=>a.length+b.length<=sizeLine/\Q (.str (a++b))
 | _,_,_=>False
section
variable {T:Tp} {A:Around} {s:Shared} {g:G}
def fU(v:V)(U:Sg)(Q:Bool->Prop):Prop:=match v with
 | .none=>Q false
 | .bool b=>Q b
 | .int i=>Q (decide (i≠0))
 | .str l=>Q (decide (l≠[]))
 | .tup vs=>Q (decide (vs≠[]))
 | .ref a=>(match U a with | some (.list vs)=>Q (decide (vs≠[])) | _=>False)
 | _=>False
def Bf(T:Tp)(a:Addr)(vs:List V):Prop:=∃ xs:List Value,T.s0.heap.IsList a xs.toArray/\(∀ g:G,aV g vs xs)/\vs.length<=sizeLine
end
section
variable {T:Tp} {c:Cx} {F:Fc} {m:Lm} {X:Addr->Ψ} {U:Sg}
noncomputable def aad:UnaryOp->Bool
 | .Not=>false
 | _=>true
def Bu(e:Expr):Bool:=!(Nat.beq e.ctorIdx 0||Nat.beq e.ctorIdx 5||Nat.beq e.ctorIdx 15)&&if q:e.ctorIdx=3 then Expr.UnaryOp.elim e q λop _ _=>aad op else true
noncomputable def noStar(e:Expr):Bool:=!Nat.beq e.ctorIdx 22
noncomputable def Sg.set(U:Sg)(a:Addr)(c:Cell):Sg:=λb=>if b=a then some c else U b
def bD(U:Sg)(a:Addr):Prop:=∀ b c,U b=some c->b<a
end
structure tK where
 nxt:Lm->Ψ
 ret:V->Lm->Ψ
 brk:Lm->Ψ
 cnt:Lm->Ψ
 exc:Addr->Lm->Ψ
def tK.at(P:tK)(g:G)(m:Lm)(U:Sg):Flow->Prop
 | .next=>P.nxt m U
 | .brk=>P.brk m U
 | .cont=>P.cnt m U
 | .ret v=>∃ x,Rep g x v/\P.ret x m U
structure wK(T:Tp)(F:Fc)(L:Addr)(g g':G)(m':Lm)(U':Sg)(s':Shared):Prop where
 le:gU L g g'
 si:T.Si g' s'
 view:View U' g'
 fr:∃ mc,g' L = .frame mc/\tM g' m' (F.see g' mc)
def PF(T:Tp)(F:Fc)(L:Addr)(g:G)(P:tK)(f:Flow)(s':Shared):Prop:=∃ g' m' U',wK T F L g g' m' U' s'/\P.at g' m' U' f
def PY(T:Tp)(F:Fc)(L:Addr)(g:G)(Y:Addr->Lm->Ψ)(v:Value)(s':Shared):Prop:=∃ g' m' U' e,v = .ref e/\wK T F L g g' m' U' s'/\(∃ C d,g' e = .cell (.exc C d))/\Y e m' U'
def dU(T:Tp)(c:Cx)(F:Fc)(ss:List Stmt)(m:Lm)(P:tK)(U:Sg):Prop :=
 ∀ A L l g s,Run T c F m U A L l g s->wpAny T.M A (execs ss (F.env L)) (PF T F L g P) (PY T F L g P.exc) s
section
variable {T:Tp} {c:Cx} {F:Fc} {m:Lm} {U:Sg} {A:Around} {L:Addr} {l:List Env} {g g':G} {s s':Shared}
def bI(m m':Lm):Prop:=∀ x v,lk x m=some v->lk x m'=some v
def aO(U U':Sg):Prop:=∀ a c,U a=some c->U' a=some c
def oN(D:bc)(ps:List Str):Prop:=D.params.posonlyargs=[]/\D.params.vararg=none/\D.params.kwonlyargs=[]/\D.params.kwarg=none/\D.params.args.map (·.arg)=ps
noncomputable def oH(D:bc)(ps:List Str):Bool:=D.scope.kind == .function && !D.scope.isCoroutine && !D.scope.isGenerator&&D.scope.names.all (λx=>x.2 != .cell)&&ps.all (λx=>D.scope.names.lookup x==some .local)
end
mutual
inductive Sm(U:Sg):Nat->V->V->Prop where
 | none (n:Nat):Sm U n .none .none
 | bool (n:Nat) (b:Bool):Sm U n (.bool b) (.bool b)
 | int (n:Nat) (i:Int):Sm U n (.int i) (.int i)
 | str (n:Nat) (l:LN):Sm U n (.str l) (.str l)
 | tup {n:Nat} {vs ws:List V}:Nb U n vs ws->Sm U (n+1) (.tup vs) (.tup ws)
 | list {n:Nat} {a b:Addr} {vs ws:List V}:U a=some (.list vs)->U b=some (.list ws)->Nb U n vs ws->Sm U (n+1) (.ref a) (.ref b)
inductive Nb(U:Sg):Nat->List V->List V->Prop where
 | nil (n:Nat):Nb U n [] []
 | cons {n:Nat} {v w:V} {vs ws:List V}:Sm U n v w->Nb U n vs ws->Nb U n (v::vs) (w::ws)
end
noncomputable def strsOf:List V->Option aX
 | []=>some []
 | .str l::r=>(strsOf r).map (l :: ·)
 | _=>none
noncomputable def intsOf:List V->Option (List Int)
 | []=>some []
 | .int l::r=>(intsOf r).map (l :: ·)
 | _=>none
noncomputable def isNone:V->Bool
 | .none=>true
 | _=>false
def Um(a b:V)(U:Sg)(Q:Bool->Prop):Prop:=(∃ n,n<=20/\Sm U n a b/\Q true)∨(∃ x y:aX,a = .tup (x.map .str)/\b = .tup (y.map .str)/\Q (decide (x=y)))∨∃ vs l,a = .tup vs/\b = .str l/\Q false
def RJ(a b:V)(U:Sg)(Q:Bool->Prop):Prop:=(∃ n,n<=20/\Sm U n a b/\Q false)∨∃ vs l,a = .tup vs/\b = .str l/\Q true
def EqP(a b:V)(U:Sg)(Q:Bool->Prop):Prop:=match a,b with
 | .str a,.str b=>Q (decide (a=b))
 | .int a,.int b=>Q (decide (a=b))
 | a,b=>Um a b U Q
def NeP(a b:V)(U:Sg)(Q:Bool->Prop):Prop:=match a,b with
 | .str a,.str b=>Q (decide (a≠b))
 | .int a,.int b=>Q (decide (a≠b))
 | a,b=>RJ a b U Q
def FQ(R:Int->Int->Bool)(a b:V)(Q:Bool->Prop):Prop:=match a with
 | .int i=>(match b with | .int j=>Q (R i j) | _=>False)
 | _=>False
def XX(b:V)(P:Prop):Prop:=match b with
 | .none=>P
 | _=>False
def Ih{α:Type}(o:Option α)(P:α->Prop):Prop:=match o with
 | some x=>P x
 | none=>False
def xP(x:LN)(P:Nat->Prop):Prop:=match x with
 | [x]=>P x
 | _=>False
def dctP(c:Option Cell)(P:List (Str×V)->Prop):Prop:=match c with
 | some (.dict es)=>P es
 | _=>False
def Ae(c:Option Cell)(P:List (Str×V)->Prop)(N:Prop):Prop:=match c with
 | some (.dict es)=>P es
 | some (.list [])=>N
 | _=>False
def InP(a b:V)(U:Sg)(Q:Bool->Prop):Prop:=match b with
 | .tup vs=>(match a with | .str x=>Ih (strsOf vs) λls=>Q (decide (x∈ls)) | .int x=>Ih (intsOf vs) λls=>Q (decide (x∈ls)) | _=>False)
 | .str l=>(match a with | .str x=>xP x λx=>Q (decide (x∈l)) | _=>False)
 | .ref r=>(match a with | .str x=>dctP (U r) λes=>Q (lk #[x.toArray] es).isSome | _=>False)
 | _=>False
def Vq(a b:V)(U:Sg)(Q:Bool->Prop):Prop:=match b with
 | .tup vs=>(match a with | .str x=>Ih (strsOf vs) λls=>Q (decide (x∉ls)) | _=>False)
 | .str l=>(match a with | .str x=>xP x λx=>Q (decide (x∉l)) | _=>False)
 | .ref r=>(match a with | .str x=>Ae (U r) (λes=>Q (!(lk #[x.toArray] es).isSome)) (Q true) | _=>False)
 | _=>False
def b8(op:CmpOp)(a b:V)(U:Sg)(Q:Bool->Prop):Prop:=match op with
 | .Eq=>EqP a b U Q
 | .NotEq=>NeP a b U Q
 | .Lt=>FQ (λa b=>decide (a<b)) a b Q
 | .LtE=>FQ (λa b=>decide (a<=b)) a b Q
 | .Gt=>FQ (λa b=>decide (b<a)) a b Q
 | .GtE=>FQ (λa b=>decide (b<=a)) a b Q
 | .Is=>XX b (Q (isNone a))
 | .IsNot=>XX b (Q (!isNone a))
 | .In=>InP a b U Q
 | .NotIn=>Vq a b U Q
noncomputable def mV(e:Expr):Bool:=!Nat.beq e.ctorIdx 7
section
variable {T:Tp} {c:Cx} {F:Fc} {m:Lm} {X:Addr->Ψ} {U:Sg}
def DX(U:Sg)(v:V)(name:Str)(Q:V->Prop):Prop:=match v with
 | .ref a=>(match U a with
  | some (.inst C d)=>(C,name)∈vB/\(match U d with | some (.dict es)=>(match lk name es with | some x=>Q x | none=>False) | _=>False)
  | some (.exc C (some d))=>(C,name)∈Ed/\(match U d with | some (.dict es)=>(match lk name es with | some x=>Q x | none=>False) | _=>False)
  | _=>False)
 | _=>False
end
section
open Builtin Builtin.ObjectAttr
noncomputable def zK:V->Bool
 | .bi _=>false
 | _=>true
end
section
open Builtin Builtin.ObjectAttr
variable {T:Tp} {c:Cx} {F:Fc} {m:Lm} {X:Addr->Ψ} {U:Sg}
def aY(U:Sg)(v:V)(name:Str)(Q:V->Prop):Prop:=DX U v name λx=>zK x=true/\Q x
noncomputable def fj(e:Expr):Bool:=!Nat.beq e.ctorIdx 16
end
section
open Builtin Builtin.ObjectAttr
noncomputable def cut{α:Type}(l:List α)(lo hi:Option Int):List α:=(l.drop (lo.elim 0 (clipAt l.length))).take (hi.elim l.length (clipAt l.length)-lo.elim 0 (clipAt l.length))
noncomputable def idx(i:Int)(n:Nat):Option Nat:=if 0<=i then some i.toNat else if -(n:Int)<=i then some (i+n).toNat else none
def di(T:Tp)(U:Sg)(o i:V)(Q:V->Prop):Prop:=match o,i with
 | .str l,.int i=>0<=i/\(match l[i.toNat]? with | some c=>Q (.str [c]) | none=>False)
 | .tup vs,.int i=>(match idx i vs.length with | some j=>(match vs[j]? with | some v=>Q v | none=>False) | none=>False)
 | .ref a,.int i=>∃ vs,(U a=some (.list vs)∨Bf T a vs)/\(match idx i vs.length with | some j=>(match vs[j]? with | some v=>Q v | none=>False) | none=>False)
 | .ref a,.str k=>(match U a with
  | some (.dict es)=>(match lk #[k.toArray] es with | some v=>Q v | none=>False)
  | _=>False)
 | _,_=>False
end
section
open Builtin Builtin.ObjectAttr
variable {T:Tp} {c:Cx} {F:Fc} {m:Lm} {X:Addr->Ψ} {U:Sg}
noncomputable def mJ(e:Expr):Bool:=!Nat.beq e.ctorIdx 26
end
section
open Builtin Builtin.ObjectAttr
noncomputable def HD:V->Option (Option Int)
 | .none=>some none
 | .int i=>some (some i)
 | _=>none
def lE(U:Sg)(o lo hi:V)(Q:V->Ψ):Prop:=match o with
 | .str l=>(match HD lo,HD hi with | some a,some b=>Q (.str (cut l a b)) U | _,_=>False)
 | .ref a=>(match U a with
  | some (.list vs)=>(match HD lo,HD hi with | some x,some y=>∀ r,bD U r->Q (.ref r) (U.set r (.list (cut vs x y))) | _,_=>False)
  | _=>False)
 | _=>False
end
section
variable {T:Tp} {c:Cx} {F:Fc} {m:Lm} {X:Addr->Ψ} {U:Sg}
noncomputable def lC(n:Str):Option String :=
 if n="startswith" then some "str.startswith" else if n="endswith" then some "str.endswith"
 else if n="find" then some "str.find" else if n="rfind" then some "str.rfind"
 else if n="split" then some "str.split" else if n="join" then some "str.join"
 else if n="lower" then some "str.lower" else none
noncomputable def j6(n:Str):Option String :=
 if n="append" then some "list.append" else if n="extend" then some "list.extend"
 else if n="index" then some "list.index" else none
noncomputable def rz(n:Str):Option String :=
 if n="pop" then some "dict.pop" else none
noncomputable def lkM(C:Addr)(n:Str):List (Addr×Str×Addr)->Option Addr
 | []=>none
 | (D,x,f)::r=>if C=D/\n=x then some f else lkM C n r
def MethP(U:Sg)(v:V)(n:Str)(P:V->List V->Prop):Prop:=match v with
 | .str l=>(match lC n with | some id=>P (.bi id) [.str l] | none=>False)
 | .ref a=>(match U a with
  | some (.list vs)=>(match j6 n with | some id=>P (.bi id) [.ref a] | none=>False)
  | some (.dict es)=>(match rz n with | some id=>P (.bi id) [.ref a] | none=>False)
  | some (.inst C d)=>(match U d,lkM C n Kv with
   | some (.dict es),some f=>lk n es=none/\P (.ref f) [.ref a]
   | _,_=>False)
  | _=>False)
 | _=>False
end
section
variable {T:Tp} {c:Cx} {X:Addr->Ψ} {U:Sg} {Q:V->Ψ}
noncomputable def Cs(l:LN):Str:=#[l.toArray]
noncomputable def bJ(sep:LN):aX->LN
 | []=>[]
 | [a]=>a
 | a::b::r=>a++sep++bJ sep (b::r)
end
section
variable {T:Tp} {c:Cx} {F:Fc} {m:Lm} {X:Addr->Ψ} {U:Sg} {Q:V->Ψ}
def rG(v:V)(n:Str)(P:V->Prop):Prop:=match v with
 | .ref 593=>n="__init__"/\P (.ref 527)
 | .typ "Exception"=>n="__init__"/\P (.bi "Exception.__init__")
 | _=>False
end
inductive Road(h:Heap):Addr->Addr->Prop
 | here (a:Addr):Road h a a
 | step {a b c:Addr} {o:Obj} {vs:Array Value}:h.get? a=some o->o.data = .fields vs->vs[2]? = some (.ref b)->b<a->Road h b c->Road h a c
section
variable {T:Tp} {c:Cx} {F:Fc} {m:Lm} {U:Sg} {A:Around} {L:Addr} {l:List Env} {g:G} {s:Shared} {E:Value->Shared->Prop}
noncomputable def dj:List Expr->Option (List Str)
 | []=>some []
 | e::r=>if q:e.ctorIdx=23 then Expr.Name.elim e q λx _=>(dj r).map (x :: ·)else none
end
section
variable {T:Tp} {c:Cx} {F:Fc} {m:Lm} {X:Addr->Ψ} {U:Sg} {A:Around} {L:Addr} {l:List Env} {g:G} {s:Shared} {E:Value->Shared->Prop}
def fK(U:Sg)(v:V)(name:Str)(u:V)(P:Ψ):Prop:=match v with
 | .ref a=>(match U a with
  | some (.inst C d)=>(C,name)∈vB/\(match U d with | some (.dict es)=>es.length<=999/\P (U.set d (.dict (up name u es))) | _=>False)
  | some (.exc C (some d))=>(C,name)∈Ed/\(match U d with | some (.dict es)=>es.length<=999/\P (U.set d (.dict (up name u es))) | _=>False)
  | some (.exc C none)=>(C,name)∈Ed/\∀ d,bD U d->P ((U.set d (.dict [(name,u)])).set a (.exc C (some d)))
  | _=>False)
 | _=>False
inductive KV(g:G):List (Str×V)->List (Str×Value)->Prop where
 | nil:KV g [] []
 | cons {k:Str} {v:V} {x:Value} {es kvs}:Rep g v x->KV g es kvs->KV g ((k,v)::es) ((k,x)::kvs)
def yW(U:Sg)(o i v:V)(P:Ψ):Prop:=match o,i with
 | .ref d,.str k=>(match U d with
  | some (.dict es)=>es.length<=999/\P (U.set d (.dict (up (Cs k) v es)))
  | _=>False)
 | _,_=>False
noncomputable def jo(e:Expr):Bool:=!(Nat.beq e.ctorIdx 8||Nat.beq e.ctorIdx 9||Nat.beq e.ctorIdx 10)
end
section
variable {T:Tp} {c:Cx} {F:Fc} {m:Lm} {X:Addr->Ψ} {U:Sg} {A:Around} {L:Addr} {l:List Env} {g:G} {s s':Shared}
def PYT(T:Tp)(F:Fc)(L:Addr)(g:G)(Y:Addr->Lm->Ψ)(v:Value)(s':Shared):Prop:=∃ g' m' U' e,v = .ref e/\wK T F L g g' m' U' s'/\(∃ C d,g' e = .cell (.exc C d))/\Tr g' e/\Y e m' U'
def cH(C:Addr):Prop:=∃ f,(C,f)∈fO
noncomputable def dl(x:Str)(m:Lm):Lm:=m.filter λp=>p.1 != x
def Bt(x:Option Str)(m:Lm):Lm:=x.elim m λn=>dl n m
noncomputable def tK.out(x:Option Str)(P:tK):tK:=#[λm U=>P.nxt (Bt x m) U,λv m U=>P.ret v (Bt x m) U,λm U=>P.brk (Bt x m) U,λm U=>P.cnt (Bt x m) U,λe m U=>P.exc e (Bt x m) U]
noncomputable def tK.fin(T:Tp)(c:Cx)(F:Fc)(fb:List Stmt)(P:tK):tK where
 nxt m U:=dU T c F fb m P U
 ret v m U:=dU T c F fb m { P with nxt:=P.ret v } U
 brk m U:=dU T c F fb m { P with nxt:=P.brk } U
 cnt m U:=dU T c F fb m { P with nxt:=P.cnt } U
 exc e m U:=dU T { c with hd:=some e } F fb m { P with nxt:=P.exc e } U
def iW(T:Tp)(F:Fc)(L:Addr)(g:G)(P:tK)(r:Result)(s':Shared):Prop:=match r with
 | .ok f=>PF T F L g P f s'
 | .error e=>PYT T F L g P.exc e s'
def nD(T:Tp)(c:Cx)(F:Fc)(t:Expr)(b:List Stmt)(m:Lm)(P:tK)(U:Sg):Prop :=
 ∀ A L l g s,Run T c F m U A L l g s->codeAny T.M A (.whileLoop t b [] (F.env L)) (iW T F L g P) s
end
section
variable {T:Tp} {c:Cx} {F:Fc} {m:Lm} {X:Addr->Ψ} {U:Sg} {A:Around} {L:Addr} {l:List Env} {g:G} {s s':Shared} {Q:V->Ψ}
inductive Src where
 | tup (vs:List V)
 | str (l:LN)
 | lst (a:Addr)
 | rng (a c:Int) (n:Nat)
def Src.ok(c:Cx)(U:Sg):Src->Prop
 | .lst a=>c.hd=none/\(match U a with | some (.list _)=>True | _=>False)
 | .rng .. => c.hd=none
 | _=>True
def za(g:G)(h:Heap)(it:Addr):Src->Nat->Prop
 | .tup vs,i=>∃ t xs n,g t = .imm (iK xs n)/\aV g vs xs/\IsTupIter h it t i
 | .str l,i=>∃ ty t,(ty="str_ascii_iterator"∨ty="str_iterator")/\h.IsStrIter it ty (Cs l) t i
 | .lst a,i=>h.IsListIter it a i
 | .rng a c n,i=>IsRangeIter h it (a+i*c) (n-i) c
end
section
variable {T:Tp} {c:Cx} {F:Fc} {m:Lm} {X:Addr->Ψ} {U:Sg} {A:Around} {L:Addr} {l:List Env} {g:G} {s s':Shared} {E:Value->Shared->Prop}
def uF(T:Tp)(c:Cx)(F:Fc)(t:Expr)(src:Src)(i:Nat)(b:List Stmt)(m:Lm)(P:tK)(U:Sg):Prop :=
 ∀ A L l g s it g0,Run T c F m U A L l g s->gU L g0 g->g0 it = .free->(∃ o,g it = .own o)->za g s.heap it src i->codeAny T.M A (.forLoop t (.ref it) b [] (F.env L)) (iW T F L g0 P) s
noncomputable def srcOf(U:Sg):V->Option Src
 | .tup vs=>some (.tup vs)
 | .str l=>some (.str l)
 | .ref a=>(match U a with | some (.list _)=>some (.lst a) | _=>none)
 | .rng a b c=>if c=1 /\ -(2 ^ 40)<a/\a<2 ^ 40 /\ -(2 ^ 40)<b/\b<2 ^ 40 then some (.rng a 1 (b-a).toNat)else if c=2/\a=1/\0<=b/\b<2 ^ 40 then some (.rng 1 2 (b/2).toNat)else none
 | _=>none
end
section
variable {T:Tp} {c:Cx} {F:Fc} {m:Lm} {X:Addr->Ψ} {U:Sg} {A:Around} {L:Addr} {l:List Env} {g:G} {s s':Shared} {E:Value->Shared->Prop} {Q:V->Ψ}
inductive Tn(g:G):List (V×V)->List (Value×Value)->Prop where
 | nil:Tn g [] []
 | cons {k v:V} {x y:Value} {r:List (V×V)} {q:List (Value×Value)}:Rep g k x->Rep g v y->Tn g r q->Tn g ((k,v)::r) ((x,y)::q)
noncomputable def strKeys:List (V×V)->Option (List (Str×V))
 | []=>some []
 | (.str k,v)::r=>(strKeys r).map ((Cs k,v) :: ·)
 | _=>none
end
inductive Raw where
 | filt (i j:Nat)
 | vars (i:Nat)
 | emp (i j:Nat)
mutual
inductive PE where
 | loc (i:Nat)
 | glo (j i:Nat) (v:V)
 | kon (v:V)
 | bin (op:Operator) (l r:PE)
 | neg (x:PE)
 | not (x:PE)
 | ife (t:PT) (b o:PE)
 | cmp (op:CmpOp) (l r:PE)
 | bo (op:BoolOp) (es:PEs)
 | tup (es:PEs)
 | lst (es:PEs)
 | dct (ps:PKs)
 | att (o:PE) (n:Str)
 | itm (o i:PE)
 | sli (o lo hi:PE)
 | sliL (o lo:PE)
 | sliH (o hi:PE)
 | call (j i:Nat) (f:V) (es:PEs)
 | calv (i:Nat) (es:PEs)
 | mth (o:PE) (n:Str) (es:PEs)
 | mtc (o:PE) (n:Str) (es:PEs)
 | raw (r:Raw)
 | bad
inductive PEs where
 | nil
 | cons (e:PE) (es:PEs)
inductive PKs where
 | nil
 | cons (k v:PE) (ps:PKs)
inductive PT where
 | val (e:PE)
 | not (t:PT)
 | cmp (op:CmpOp) (l r:PE)
 | cm2 (l:PE) (o1:CmpOp) (r:PE) (o2:CmpOp) (r':PE)
 | all (op:BoolOp) (ts:PTs)
inductive PTs where
 | nil
 | cons (t:PT) (ts:PTs)
end
inductive TG where
 | loc (i:Nat)
 | tup (is:LN)
 | att (o:PE) (n:Str)
 | itm (o i:PE)
mutual
inductive PS where
 | asg (t:TG) (e:PE)
 | sw (i j:Nat) (e:PE)
 | aug (i:Nat) (op:Operator) (e:PE)
 | augA (o:PE) (n:Str) (op:Operator) (e:PE)
 | exp (e:PE)
 | ret (e:PE)
 | retN
 | ife (t:PT) (b o:PSs)
 | whl (t:PT) (b:PSs)
 | for (t:TG) (e:PE) (b:PSs)
 | forE (is:LN) (j i k:Nat) (b:PSs)
 | brk
 | cnt
 | pas
 | rai (e:PE)
 | tryE (b:PSs) (j i:Nat) (D:Addr) (n:Option Nat) (h:PSs)
 | tryF (b f:PSs)
 | tryEF (b:PSs) (j i:Nat) (D:Addr) (n:Option Nat) (h f:PSs)
 | bad
inductive PSs where
 | nil
 | cons (s:PS) (ss:PSs)
end
abbrev xj:=List (Str×NameKind)
abbrev bj:=Option (List (Str×Str))
noncomputable def aK:bj->bj->bj
 | some a,some b=>some (a++b)
 | _,_=>none
noncomputable def rZ(nm:xj)(i:Nat):Option Str:=match nm[i]? with | some (x,.local)=>some x | _=>none
noncomputable def Y7(nm:xj)(i:Nat):Option Str:=match nm[i]? with | some (x,.local)=>some x | some (x,.cell)=>some x | _=>none
noncomputable def Zn(nm:xj)(i:Nat):Option Str:=match nm[i]? with | some (x,.cell)=>some x | _=>none
noncomputable def nmG(nm:xj)(i:Nat):Option Str:=match nm[i]? with | some (x,.globalImplicit)=>some x | _=>none
noncomputable def jF(x:Str):Option Str->bj
 | some y=>some [(x,y)]
 | none=>none
noncomputable def Uh:V->V->Bool
 | .ref a,.ref b=>a==b
 | .typ a,.typ b=>a==b
 | .bi a,.bi b=>a==b
 | _,_=>false
noncomputable def R8(v:V)(c:Const):bj:=match v,c with
 | .none,.none=>some []
 | .bool b,.bool b'=>if b=b' then some []else none
 | .int i,.int j=>if i=j then some []else none
 | .str l,.str x=>if decide (l.length<=1000)then some [(x,#[l.toArray])]else none
 | _,_=>none
noncomputable def au(b:Bool)(o:bj):bj:=if b then o else none
def JG:List Addr:=gh.map (·.1)++Em
noncomputable def uQ:V->Bool
 | .ref a=>JG.contains a
 | .bi _=>true
 | .typ _=>true
 | _=>false
noncomputable def n_vars0:Str:=#[([118,97,114,115].toArray)]
noncomputable def n_kind0:Str:=#[([107,105,110,100].toArray)]
noncomputable def n_value0:Str:=#[([118,97,108,117,101].toArray)]
noncomputable def n_writes0:Str:=#[([119,114,105,116,101,115].toArray)]
noncomputable def aU(z:Expr)(f:Str->bj):bj:=if q:z.ctorIdx=23 then Expr.Name.elim z q λx _=>f x else none
noncomputable def iI(z:Expr)(f:Const->bj):bj:=if q:z.ctorIdx=19 then Expr.Constant.elim z q λc _ _=>f c else none
noncomputable def Rf(z:Expr)(f:Expr->Operator->Expr->bj):bj:=if q:z.ctorIdx=2 then Expr.BinOp.elim z q λl op r _=>f l op r else none
noncomputable def RQ(z:Expr)(f:UnaryOp->Expr->bj):bj:=if q:z.ctorIdx=3 then Expr.UnaryOp.elim z q λop x _=>f op x else none
noncomputable def vIf(z:Expr)(f:Expr->Expr->Expr->bj):bj:=if q:z.ctorIdx=5 then Expr.IfExp.elim z q λt b o _=>f t b o else none
noncomputable def yh(z:Expr)(f:Expr->(List CmpOp)->(List Expr)->bj):bj:=if q:z.ctorIdx=15 then Expr.Compare.elim z q λl ops rs _=>f l ops rs else none
noncomputable def vBool(z:Expr)(f:BoolOp->(List Expr)->bj):bj:=if q:z.ctorIdx=0 then Expr.BoolOp.elim z q λop es _=>f op es else none
noncomputable def Aw(z:Expr)(f:(List Expr)->bj):bj:=if q:z.ctorIdx=25 then Expr.Tuple.elim z q λes _ _=>f es else none
noncomputable def Sh(z:Expr)(f:(List Expr)->bj):bj:=if q:z.ctorIdx=24 then Expr.List.elim z q λes _=>f es else none
noncomputable def Qg(z:Expr)(f:(List (Option Expr))->(List Expr)->bj):bj:=if q:z.ctorIdx=6 then Expr.Dict.elim z q λks vs _=>f ks vs else none
noncomputable def jY(z:Expr)(f:Expr->Str->Pos->bj):bj:=if q:z.ctorIdx=20 then Expr.Attribute.elim z q λo n p=>f o n p else none
noncomputable def jT(z:Expr)(f:Expr->Expr->bj):bj:=if q:z.ctorIdx=21 then Expr.Subscript.elim z q λo i _=>f o i else none
noncomputable def zM(z:Expr)(f:(Option Expr)->(Option Expr)->(Option Expr)->bj):bj:=if q:z.ctorIdx=26 then Expr.Slice.elim z q λlo hi st _=>f lo hi st else none
noncomputable def jU(z:Expr)(f:Expr->(List Expr)->(List Keyword)->Pos->bj):bj:=if q:z.ctorIdx=16 then Expr.Call.elim z q λf_ es kw p=>f f_ es kw p else none
noncomputable def Vz(z:Expr)(f:Expr->(List Comprehension)->Scope->bj):bj:=if q:z.ctorIdx=8 then Expr.ListComp.elim z q λe gs sc _=>f e gs sc else none
noncomputable def vP(z:Stmt)(f:(List Expr)->Expr->bj):bj:=if q:z.ctorIdx=5 then Stmt.Assign.elim z q λts v _=>f ts v else none
noncomputable def Jy(z:Stmt)(f:Expr->Operator->Expr->bj):bj:=if q:z.ctorIdx=7 then Stmt.AugAssign.elim z q λt op v _=>f t op v else none
noncomputable def QC(z:Stmt)(f:Expr->bj):bj:=if q:z.ctorIdx=24 then Stmt.Expr.elim z q λe _=>f e else none
noncomputable def Lj(z:Stmt)(f:(Option Expr)->bj):bj:=if q:z.ctorIdx=3 then Stmt.Return.elim z q λo _=>f o else none
noncomputable def Uo(z:Stmt)(f:Expr->(List Stmt)->(List Stmt)->bj):bj:=if q:z.ctorIdx=12 then Stmt.If.elim z q λt b o _=>f t b o else none
noncomputable def Te(z:Stmt)(f:Expr->(List Stmt)->(List Stmt)->bj):bj:=if q:z.ctorIdx=11 then Stmt.While.elim z q λt b o _=>f t b o else none
noncomputable def JR(z:Stmt)(f:Expr->Expr->(List Stmt)->(List Stmt)->bj):bj:=if q:z.ctorIdx=9 then Stmt.For.elim z q λt i b o _=>f t i b o else none
noncomputable def UJ(z:Stmt)(f:bj):bj:=if q:z.ctorIdx=26 then Stmt.Break.elim z q λ_=>f else none
noncomputable def RW(z:Stmt)(f:bj):bj:=if q:z.ctorIdx=27 then Stmt.Continue.elim z q λ_=>f else none
noncomputable def QQ(z:Stmt)(f:bj):bj:=if q:z.ctorIdx=25 then Stmt.Pass.elim z q λ_=>f else none
noncomputable def Ry(z:Stmt)(f:(Option Expr)->(Option Expr)->bj):bj:=if q:z.ctorIdx=16 then Stmt.Raise.elim z q λe c _=>f e c else none
noncomputable def Ef(z:Stmt)(f:(List Stmt)->(List ExceptHandler)->(List Stmt)->(List Stmt)->bj):bj:=if q:z.ctorIdx=17 then Stmt.Try.elim z q λb h o f_ _=>f b h o f_ else none
noncomputable def Oz(t:ExceptHandler)(f:Option Expr->Option Str->List Stmt->bj):bj:=match t with
 | .ExceptHandler x n b _=>f x n b
section
variable {α:Type}
noncomputable def cJ(t:List α)(k:bj):bj:=match t with
 | []=>k
 | _=>none
def dg(t:List α)(f:α->bj):bj:=match t with
 | []=>none
 | x::r=>cJ r (f x)
def qx(t:List α)(f:α->α->bj):bj:=match t with
 | []=>none
 | x::r=>dg r (f x)
noncomputable def fW(t:Option α)(k:bj):bj:=match t with
 | none=>k
 | some _=>none
noncomputable def cY(t:Option α)(f:α->bj):bj:=match t with
 | none=>none
 | some x=>f x
noncomputable def cR(t:List α)(f:α->List α->bj):bj:=match t with
 | []=>none
 | x::r=>f x r
end
def Hx(z:Expr)(f:Str->Str->Str->Str->bj):bj:=jY z λo k _=>jT o λa i=>jY a λhh v _=>aU hh λh=>aU i λn=>f h v n k
noncomputable def nk(k:NameKind)(p:Str×NameKind)(f:Str->bj):bj:=if p.2=k then f p.1 else none
def scN(t:List (Str×NameKind))(f:Str->Str->Str->bj):bj:=cR t λp r=>nk .local p λa=>qx r λq u=>nk .local q λb=>nk .free u λc=>f a b c
def WL(t:List (Str×NameKind))(f:Str->Str->Str->bj):bj:=cR t λp r=>nk .local p λa=>cR r λq r=>nk .local q λb=>qx r λu w=>nk .globalImplicit u λ_=>nk .free w λc=>f a b c
noncomputable def isZero:Const->Bool
 | .int i=>decide (i=0)
 | _=>false
noncomputable def aas:UnaryOp->Bool
 | .USub=>true
 | _=>false
def QK(nm:xj):Raw->Expr->bj
 | .filt i j,z=>Vz z λe gs sc=>aU e λr=>dg gs λg=>aU g.target λr1=>aU g.iter λx=>dg g.ifs λq=>yh q λl ops rs=>jT l λo ix=>aU o λr2=>iI ix λk=>dg ops λop=>dg rs λrr=>aU rr λf=>scN sc.names λd0 r3 f2 =>
  au (isZero k&&decide (op = .LtE)&&decide (g.is_async=0)) (au (sc.kind == .function&&decide (f≠d0)&&decide (f≠r)&&decide (r≠d0) && !(r==("__debug__":Str))) (aK (jF x (rZ nm i)) (aK (jF f (Zn nm j)) (some [(r1,r),(r2,r),(r3,r),(f2,f)]))))
 | .vars i,z=>Vz z λe gs sc=>Aw e λes=>cR es λe1 es1=>cR es1 λe2 es2=>qx es2 λe3 e4=>aU e1 λn=>Hx e2 λh1 v1 n1 k1=>Hx e3 λh2 v2 n2 k2=>Hx e4 λh3 v3 n3 k3=>dg gs λg=>aU g.target λn4=>jY g.iter λhh v4 _=>aU hh λh=>scN sc.names λd0 n5 h5 =>
  au (g.ifs.isEmpty&&decide (g.is_async=0)) (au (sc.kind == .function&&decide (h≠d0)&&decide (h≠n)&&decide (n≠d0) && !(n==("__debug__":Str))) (aK (jF h (Zn nm i)) (some [(n1,n),(n2,n),(n3,n),(n4,n),(n5,n),(h1,h),(h2,h),(h3,h),(h5,h),(v1,n_vars0),(v2,n_vars0),(v3,n_vars0),(v4,n_vars0),(k1,n_kind0),(k2,n_value0),(k3,n_writes0)])))
 | .emp i j,z=>Vz z λe gs sc=>dg gs λg=>aU g.target λw=>jT g.iter λo sl=>aU o λx=>zM sl λlo hi st=>fW st (cY lo λlo=>cY hi λhi=>iI lo λk1=>RQ hi λop h=>iI h λk2=>WL sc.names λd0 w2 f =>
  au (g.ifs.isEmpty&&decide (g.is_async=0)) (au (sc.kind == .function&&decide (w≠d0)) (au (aas op) (aK (aK (R8 (.int 1) k1) (R8 (.int 1) k2)) (aK (jF x (rZ nm i)) (aK (jF f (Zn nm j)) (some [(w2,w)])))))))
noncomputable def PEs.len:PEs->Nat
 | .nil=>0
 | .cons _ es=>es.len+1
def j0(nm:xj)(j i:Nat)(v:V)(x:Str)(k:bj):bj:=match tE[i]? with
 | none=>none
 | some p=>au (Uh p.2 v) (aK (jF x (nmG nm j)) (aK (some [(x,p.1)]) k))
def QX(o:Expr)(ap pos:Pos)(es:List Expr):Bool:=fj o&&(ap.endLine==pos.line)&&decide (es.length<30)&&es.all noStar
noncomputable def WW:UnaryOp->UnaryOp->Bool
 | .USub,.USub=>true
 | .Not,.Not=>true
 | _,_=>false
mutual
noncomputable def cF(nm:xj):PE->Expr->bj
 | .loc i,z=>aU z λx=>jF x (Y7 nm i)
 | .glo j i v,z=>aU z λx=>j0 nm j i v x (some [])
 | .kon v,z=>iI z λc=>R8 v c
 | .bin op l r,z=>Rf z λl' op' r'=>au (decide (op=op')) (aK (cF nm l l') (cF nm r r'))
 | .neg x,z=>RQ z λop x'=>au (WW .USub op) (cF nm x x')
 | .not x,z=>RQ z λop x'=>au (WW .Not op) (cF nm x x')
 | .ife t b o,z=>vIf z λt' b' o'=>aK (Ks nm t t') (aK (cF nm b b') (cF nm o o'))
 | .cmp op l r,z=>yh z λl' ops rs=>dg ops λop'=>dg rs λr'=>au (decide (op=op')&&mV r') (aK (cF nm l l') (cF nm r r'))
 | .bo op es,z=>vBool z λop' es'=>au (decide (op=op') && !es'.isEmpty) (my nm es es')
 | .tup es,z=>Aw z λes'=>au (es'.all noStar&&decide (es.len<=1000)) (my nm es es')
 | .lst es,z=>Sh z λes'=>au (es'.all noStar&&decide (es.len<=1000)) (my nm es es')
 | .dct ps,z=>Qg z λks' vs'=>au (ks'.all (·.isSome)&&decide (ks'.length=vs'.length)&&decide (ks'.length<=15)) (Ul nm ps ks' vs')
 | .att o n,z=>jY z λo' n' _=>au (fj o') (aK (some [(n',n)]) (cF nm o o'))
 | .itm o i,z=>jT z λo' i'=>au (mJ i') (aK (cF nm o o') (cF nm i i'))
 | .sli o lo hi,z=>jT z λo' s=>zM s λlo' hi' st=>fW st (cY lo' λlo'=>cY hi' λhi'=>aK (cF nm o o') (aK (cF nm lo lo') (cF nm hi hi')))
 | .sliL o lo,z=>jT z λo' s=>zM s λlo' hi' st=>fW st (fW hi' (cY lo' λlo'=>aK (cF nm o o') (cF nm lo lo')))
 | .sliH o hi,z=>jT z λo' s=>zM s λlo' hi' st=>fW st (fW lo' (cY hi' λhi'=>aK (cF nm o o') (cF nm hi hi')))
 | .call j i v es,z=>jU z λf es' kw _=>cJ kw (aU f λx=>au (uQ v&&es'.all noStar) (j0 nm j i v x (my nm es es')))
 | .calv i es,z=>jU z λf es' kw _=>cJ kw (aU f λx=>au (es'.all noStar) (aK (jF x (rZ nm i)) (my nm es es')))
 | .mth o n es,z=>jU z λf es' kw pos=>cJ kw (jY f λo' n' ap=>au (QX o' ap pos es') (aK (some [(n',n)]) (aK (cF nm o o') (my nm es es'))))
 | .mtc o n es,z=>jU z λf es' kw pos=>cJ kw (jY f λo' n' ap=>au (QX o' ap pos es') (aK (some [(n',n)]) (aK (cF nm o o') (my nm es es'))))
 | .raw r,z=>QK nm r z
 | .bad,_=>some []
noncomputable def my(nm:xj):PEs->List Expr->bj
 | .nil,z=>cJ z (some [])
 | .cons e es,z=>cR z λe' es'=>aK (cF nm e e') (my nm es es')
noncomputable def Ul(nm:xj):PKs->List (Option Expr)->List Expr->bj
 | .nil,z,y=>cJ z (cJ y (some []))
 | .cons k v ps,z,y=>cR z λk' ks'=>cR y λv' vs'=>cY k' λk'=>aK (cF nm k k') (aK (cF nm v v') (Ul nm ps ks' vs'))
noncomputable def Ks(nm:xj):PT->Expr->bj
 | .val e,z=>au (Bu z) (cF nm e z)
 | .not t,z=>RQ z λop x'=>au (WW .Not op) (Ks nm t x')
 | .cmp op l r,z=>yh z λl' ops rs=>dg ops λop'=>dg rs λr'=>au (decide (op=op')&&mV r') (aK (cF nm l l') (cF nm r r'))
 | .cm2 l o1 r o2 r',z=>yh z λl' ops rs=>qx ops λo1' o2'=>qx rs λr1' r2'=>au (decide (o1=o1')&&decide (o2=o2')&&mV r1'&&mV r2') (aK (cF nm l l') (aK (cF nm r r1') (cF nm r' r2')))
 | .all op ts,z=>vBool z λop' es'=>au (decide (op=op')) (QW nm ts es')
noncomputable def QW(nm:xj):PTs->List Expr->bj
 | .nil,z=>cJ z (some [])
 | .cons t ts,z=>cR z λe' es'=>aK (Ks nm t e') (QW nm ts es')
end
def zf(nm:xj):TG->Expr->bj
 | .loc i,z=>aU z λx=>jF x (rZ nm i)
 | .tup is,z=>Aw z λes=>match dj es with
  | none=>none
  | some xs=>au (decide (xs.length=is.length)) ((xs.zip is).foldr (λp r=>aK (jF p.1 (rZ nm p.2)) r) (some []))
 | .att o n,z=>jY z λo' n' _=>aK (some [(n',n)]) (cF nm o o')
 | .itm o i,z=>jT z λo' i'=>au (mJ i') (aK (cF nm o o') (cF nm i i'))
noncomputable def yx:Operator->Bool
 | .Add=>true
 | .Sub=>true
 | _=>false
noncomputable def isTup(e:Expr):Bool:=Nat.beq e.ctorIdx 25
noncomputable def Yc(e:Expr):Bool:=Nat.beq e.ctorIdx 24
def La(t v:Expr):Bool:=!Yc t && !(isTup t&&isTup v)
def Z3(nm:xj):Option Nat->Option Str->bj
 | none,x=>fW x (some [])
 | some i,x=>cY x λx=>jF x (rZ nm i)
noncomputable def BW(sc:Scope)(t v:Expr):Option (Option (List Str)):=match swappedStores [t] v (envOf Str.empty sc 0 0 .none)with
 | .pure x=>some x
 | _=>none
def Zm(sc:Scope)(i j:Nat)(t v:Expr):bj:=cY (BW sc t v) λo=>match o with
 | none=>some []
 | some l=>qx l λx y=>aK (jF x (rZ sc.names i)) (jF y (rZ sc.names j))
mutual
noncomputable def Zb(sc:Scope):PS->Stmt->bj
 | .asg t e,z=>vP z λts e'=>dg ts λt'=>au (jo e'&&La t' e') (aK (zf sc.names t t') (cF sc.names e e'))
 | .sw i j e,z=>vP z λts e'=>dg ts λt'=>au (isTup t'&&isTup e'&&decide (i≠j)) (aK (zf sc.names (.tup [i,j]) t') (aK (Zm sc i j t' e') (cF sc.names e e')))
 | .aug i op e,z=>Jy z λt op' e'=>aU t λx=>au (decide (op=op')&&yx op) (aK (jF x (rZ sc.names i)) (cF sc.names e e'))
 | .augA o n op e,z=>Jy z λt op' e'=>jY t λo' n' _=>au (decide (op=op')&&yx op) (aK (some [(n',n)]) (aK (cF sc.names o o') (cF sc.names e e')))
 | .exp e,z=>QC z λe'=>au (jo e') (cF sc.names e e')
 | .ret e,z=>Lj z λo=>cY o λe'=>cF sc.names e e'
 | .retN,z=>Lj z λo=>fW o (some [])
 | .ife t b o,z=>Uo z λt' b' o'=>aK (Ks sc.names t t') (aK (dH sc b b') (dH sc o o'))
 | .whl t b,z=>Te z λt' b' o'=>cJ o' (aK (Ks sc.names t t') (dH sc b b'))
 | .for t e b,z=>JR z λt' e' b' o'=>cJ o' (au (mV e') (aK (zf sc.names t t') (aK (cF sc.names e e') (dH sc b b'))))
 | .forE is j i k b,z=>JR z λt' e' b' o'=>cJ o' (au (isTup t') (jU e' λf es kw _=>cJ kw (dg es λl=>aU f λx=>aU l λy=>j0 sc.names j i (.typ "enumerate") x (aK (jF y (rZ sc.names k)) (aK (zf sc.names (.tup is) t') (dH sc b b'))))))
 | .brk,z=>UJ z (some [])
 | .cnt,z=>RW z (some [])
 | .pas,z=>QQ z (some [])
 | .rai e,z=>Ry z λo c=>fW c (cY o λe'=>cF sc.names e e')
 | .tryE b j i D n h,z=>Ef z λb' hs o f=>cJ o (cJ f (dg hs λhd=>Oz hd λx n' h'=>cY x λx=>aU x λx=>au (!h'.isEmpty&&(D==84||D==63)) (j0 sc.names j i (.ref D) x (aK (Z3 sc.names n n') (aK (dH sc b b') (dH sc h h'))))))
 | .tryF b f,z=>Ef z λb' hs o f'=>cJ o (cJ hs (au (!f'.isEmpty) (aK (dH sc b b') (dH sc f f'))))
 | .tryEF b j i D n h f,z=>Ef z λb' hs o f'=>cJ o (dg hs λhd=>Oz hd λx n' h'=>cY x λx=>aU x λx=>au (!h'.isEmpty && !f'.isEmpty&&(D==84||D==63)) (j0 sc.names j i (.ref D) x (aK (Z3 sc.names n n') (aK (dH sc b b') (aK (dH sc h h') (dH sc f f'))))))
 | .bad,_=>some []
noncomputable def dH(sc:Scope):PSs->List Stmt->bj
 | .nil,z=>cJ z (some [])
 | .cons s ss,z=>cR z λs' ss'=>aK (Zb sc s s') (dH sc ss ss')
end
abbrev cZ:=List (Option V)
noncomputable def rd:cZ->Nat->Option V
 | [],_=>none
 | x::_,0=>x
 | _::r,n+1=>rd r n
noncomputable def wr:cZ->Nat->Option V->cZ
 | [],0,v=>[v]
 | [],n+1,v=>none::wr [] n v
 | _::r,0,v=>v::r
 | x::r,n+1,v=>x::wr r n v
noncomputable def Y6:cZ->LN->List V->cZ
 | O,i::is,v::vs=>Y6 (wr O i (some v)) is vs
 | O,_,_=>O
structure PP where
 nxt:cZ->Ψ
 ret:V->cZ->Ψ
 brk:cZ->Ψ
 cnt:cZ->Ψ
 exc:Addr->cZ->Ψ
def wR(c:Cx):Raw->cZ->(V->Ψ)->Ψ
 | .filt i j,O,Q,U=>∃(a:Addr) (lim:Int) (ks:List (Int×List V)),rd O i=some (.ref a)/\rd O j=some (.int lim)/\c.hd=none/\U a=some (.list (ks.map λp=>.tup (.int p.1::p.2)))/\ks.length<=100000 /\
   ∀ D,bD U D->Q (.ref D) (U.set D (.list ((ks.filter λp=>decide (p.1<=lim)).map λp=>.tup (.int p.1::p.2))))
 | .vars i,O,Q,U=>∃(h vd:Addr) (es:List (Str×V)) (keys:Nat->LN) (av:Nat->Addr) (kv vv wv:Nat->V),rd O i=some (.ref h)/\c.hd=none/\aY U (.ref h) n_vars0 (λv=>v = .ref vd)/\U vd=some (.dict es)/\es.length<=100000 /\
   (∀ i,i<es.length->(keys i).length<=sizeLine/\es[i]? = some (Cs (keys i),.ref (av i))/\(∀ T:Tp,di T U (.ref vd) (.str (keys i)) (λv=>v = .ref (av i)))/\aY U (.ref (av i)) n_kind0 (λv=>v=kv i)/\aY U (.ref (av i)) n_value0 (λv=>v=vv i)/\aY U (.ref (av i)) n_writes0 λv=>v=wv i) /\
   ∀ D,bD U D->Q (.ref D) (U.set D (.list ((List.range es.length).map λi=>.tup [.str (keys i),kv i,vv i,wv i])))
 | .emp i j,O,Q,U=>∃(a:Addr) (u v nv:V),rd O i=some (.ref a)/\rd O j=some nv/\c.hd=none/\U a=some (.list [u,v])/\∀ r,bD U r->∀ D,bD (U.set r (.list [])) D->Q (.ref D) ((U.set r (.list [])).set D (.list []))
mutual
noncomputable def wE(T:Tp)(c:Cx):PE->cZ->(V->Ψ)->(Addr->Ψ)->Ψ
 | .loc i,O,Q,X,U=>(match rd O i with | some v=>Q v U | none=>False)
 | .glo j i v,O,Q,X,U=>Q v U
 | .kon v,O,Q,X,U=>Q v U
 | .bin op l r,O,Q,X,U=>wE T c l O (λa xb=>wE T c r O (λb xc=>gJ op a b λv=>Q v xc) X xb) X U
 | .neg x,O,Q,X,U=>wE T c x O (λa xb=>match a with | .int i=>Q (.int (-i)) xb | _=>False) X U
 | .not x,O,Q,X,U=>wE T c x O (λa xb=>fU a xb λb=>Q (.bool !b) xb) X U
 | .ife t b o,O,Q,X,U=>wT T c t O (λq xb=>if q=true then wE T c b O Q X xb else wE T c o O Q X xb) X U
 | .cmp op l r,O,Q,X,U=>wE T c l O (λa xb=>wE T c r O (λb xc=>b8 op a b xc λt=>Q (.bool t) xc) X xb) X U
 | .bo op es,O,Q,X,U=>wB T c op es O Q X U
 | .tup es,O,Q,X,U=>wEs T c es O (λvs xb=>Q (.tup vs) xb) X U
 | .lst es,O,Q,X,U=>wEs T c es O (λvs xb=>∀ a,bD xb a->Q (.ref a) (xb.set a (.list vs))) X U
 | .dct ps,O,Q,X,U=>(match ps with
  | .nil=>∀ d,bD U d->Q (.ref d) (U.set d (.dict []))
  | .cons .. => wKs T c ps O (λx xb=>∃ es,strKeys x=some es/\es.length<=1000/\dw es/\∀ d,bD U d->xb d=none->Q (.ref d) (xb.set d (.dict es))) X U)
 | .att o n,O,Q,X,U=>wE T c o O (λv xb=>aY xb v n λu=>Q u xb) X U
 | .itm o i,O,Q,X,U=>wE T c o O (λov xb=>wE T c i O (λiv xc=>di T xc ov iv λv=>Q v xc) X xb) X U
 | .sli o lo hi,O,Q,X,U=>wE T c o O (λov xb=>wE T c lo O (λlv xc=>wE T c hi O (λhv xf=>lE xf ov lv hv Q) X xc) X xb) X U
 | .sliL o lo,O,Q,X,U=>wE T c o O (λov xb=>wE T c lo O (λlv xc=>lE xc ov lv .none Q) X xb) X U
 | .sliH o hi,O,Q,X,U=>wE T c o O (λov xb=>wE T c hi O (λhv xc=>lE xc ov .none hv Q) X xb) X U
 | .call j i f es,O,Q,X,U=>wEs T c es O (λvs xc=>aj T c f vs Q X xc) X U
 | .calv i es,O,Q,X,U=>(match rd O i with | some f=>uQ f=true/\wEs T c es O (λvs xc=>aj T c f vs Q X xc) X U | none=>False)
 | .mth o n es,O,Q,X,U=>wE T c o O (λov xb=>MethP xb ov n λf fs=>wEs T c es O (λvs xc=>aj T c f (fs++vs) Q X xc) X xb) X U
 | .mtc o n es,O,Q,X,U=>wE T c o O (λov xb=>rG ov n λf=>wEs T c es O (λvs xc=>aj T c f vs Q X xc) X xb) X U
 | .raw r,O,Q,X,U=>wR c r O Q U
 | .bad,O,Q,X,U=>False
noncomputable def wEs(T:Tp)(c:Cx):PEs->cZ->(List V->Ψ)->(Addr->Ψ)->Ψ
 | .nil,O,Q,X,U=>Q [] U
 | .cons e es,O,Q,X,U=>wE T c e O (λv xb=>wEs T c es O (λvs=>Q (v::vs)) X xb) X U
noncomputable def wB(T:Tp)(c:Cx)(op:BoolOp):PEs->cZ->(V->Ψ)->(Addr->Ψ)->Ψ
 | .nil,O,Q,X,U=>False
 | .cons e es,O,Q,X,U=>wE T c e O (λv xb=>match es with
  | .nil=>Q v xb
  | .cons .. => fU v xb λb=>if b=(op == .Or)then Q v xb else wB T c op es O Q X xb) X U
noncomputable def wKs(T:Tp)(c:Cx):PKs->cZ->(List (V×V)->Ψ)->(Addr->Ψ)->Ψ
 | .nil,O,Q,X,U=>Q [] U
 | .cons k v ps,O,Q,X,U=>wE T c k O (λkv xb=>wE T c v O (λvv xc=>wKs T c ps O (λr=>Q ((kv,vv)::r)) X xc) X xb) X U
noncomputable def wT(T:Tp)(c:Cx):PT->cZ->(Bool->Ψ)->(Addr->Ψ)->Ψ
 | .val e,O,Q,X,U=>wE T c e O (λv xb=>fU v xb λb=>Q b xb) X U
 | .not t,O,Q,X,U=>wT T c t O (λb xb=>Q (!b) xb) X U
 | .cmp op l r,O,Q,X,U=>wE T c l O (λa xb=>wE T c r O (λb xc=>b8 op a b xc λt=>Q t xc) X xb) X U
 | .cm2 l o1 r o2 r',O,Q,X,U=>wE T c l O (λa xb=>wE T c r O (λb xc=>b8 o1 a b xc λt=>if t=true then wE T c r' O (λd xf=>b8 o2 b d xf λt=>Q t xf) X xc else Q false xc) X xb) X U
 | .all op ts,O,Q,X,U=>wA T c op ts O Q X U
noncomputable def wA(T:Tp)(c:Cx)(op:BoolOp):PTs->cZ->(Bool->Ψ)->(Addr->Ψ)->Ψ
 | .nil,O,Q,X,U=>Q (op == .And) U
 | .cons t ts,O,Q,X,U=>wT T c t O (λb xb=>if b=(op == .And)then wA T c op ts O Q X xb else Q b xb) X U
end
def ak(o:bj):Prop:=∃ l,o=some l/\∀ q∈l,q.1=q.2
noncomputable abbrev names(F:Fc):xj:=F.sc.names
noncomputable def toLm:xj->cZ->Lm
 | (x,_)::ns,some v::O=>(x,v)::toLm ns O
 | _::ns,none::O=>toLm ns O
 | _,_=>[]
section
variable {T:Tp} {c:Cx} {F:Fc} {m:Lm} {X:Addr->Ψ} {U:Sg} {A:Around} {L:Addr} {l:List Env} {g:G} {s:Shared}
noncomputable def zc(it:Addr)(i:Int)(old:Value):Obj:={ cls:=.type "enumerate",dict:=none,data:=.fields ([.none,.bool false,.ref it,rawInt i,.none,old].toArray),slots := ([].toArray) }
def Il(T:Tp)(c:Cx)(F:Fc)(t:Expr)(a:Addr)(i:Nat)(b:List Stmt)(m:Lm)(P:tK)(U:Sg):Prop :=
 ∀ A L l g s e it g0,Run T c F m U A L l g s->gU L g0 g->g0 e = .free->g0 it = .free->e≠it->(∃ old,g e = .own (zc it i old))->(∃ o,g it = .own o)->s.heap.IsListIter it a i->codeAny T.M A (.forLoop t (.ref e) b [] (F.env L)) (iW T F L g0 P) s
end
noncomputable def PP.up(nm:xj)(P:PP):tK where
 nxt m U:=∃ O,bI (toLm nm O) m/\P.nxt O U
 ret v m U:=∃ O,bI (toLm nm O) m/\P.ret v O U
 brk m U:=∃ O,bI (toLm nm O) m/\P.brk O U
 cnt m U:=∃ O,bI (toLm nm O) m/\P.cnt O U
 exc e m U:=∃ O,bI (toLm nm O) m/\P.exc e O U
structure tK.Le(P P':tK):Prop where
 nxt:∀ m U,P.nxt m U->P'.nxt m U
 ret:∀ v m U,P.ret v m U->P'.ret v m U
 brk:∀ m U,P.brk m U->P'.brk m U
 cnt:∀ m U,P.cnt m U->P'.cnt m U
 exc:∀ e m U,P.exc e m U->P'.exc e m U
def Gm(T:Tp)(F:Fc)(t:PT)(b:PSs)(c:Cx)(O:cZ)(P:PP)(U:Sg):Prop :=
 ∀ t' b',ak (Ks (names F) t t')->ak (dH F.sc b b')->nD T c F t' b' (toLm (names F) O) (P.up (names F)) U
def mD(T:Tp)(F:Fc)(t:TG)(src:Src)(i:Nat)(b:PSs)(c:Cx)(O:cZ)(P:PP)(U:Sg):Prop :=
 ∀ t' b',ak (zf (names F) t t')->ak (dH F.sc b b')->uF T c F t' src i b' (toLm (names F) O) (P.up (names F)) U
def Bx(T:Tp)(F:Fc)(is:LN)(a:Addr)(i:Nat)(b:PSs)(c:Cx)(O:cZ)(P:PP)(U:Sg):Prop :=
 ∀ elts k p b',ak (zf (names F) (.tup is) (.Tuple elts k p))->ak (dH F.sc b b')->Il T c F (.Tuple elts k p) a i b' (toLm (names F) O) (P.up (names F)) U
def nIn(n:Option Nat)(e:Addr)(O:cZ):cZ:=match n with | none=>O | some i=>wr O i (some (.ref e))
def PQ(n:Option Nat)(O:cZ):cZ:=match n with | none=>O | some i=>wr O i none
noncomputable def PP.out(n:Option Nat)(P:PP):PP:=#[λO U=>P.nxt (PQ n O) U,λv O U=>P.ret v (PQ n O) U,λO U=>P.brk (PQ n O) U,λO U=>P.cnt (PQ n O) U,λe O U=>P.exc e (PQ n O) U]
def wG(T:Tp)(c:Cx):TG->V->cZ->(cZ->Ψ)->(Addr->Ψ)->Ψ
 | .loc i,v,O,Q,X,U=>Q (wr O i (some v)) U
 | .tup is,v,O,Q,X,U=>(match v with | .tup vs=>is.length=vs.length/\Q (Y6 O is vs) U | _=>False)
 | .att o n,v,O,Q,X,U=>wE T c o O (λov xb=>fK xb ov n v λxc=>Q O xc) X U
 | .itm o i,v,O,Q,X,U=>wE T c o O (λov xb=>wE T c i O (λiv xc=>yW xc ov iv v λxf=>Q O xf) X xb) X U
mutual
noncomputable def wS(T:Tp)(F:Fc):PS->Cx->cZ->PP->Ψ
 | .asg t e,c,O,P,U=>wE T c e O (λv xb=>wG T c t v O P.nxt (λe U'=>P.exc e O U') xb) (λe U'=>P.exc e O U') U
 | .sw i j e,c,O,P,U=>wE T c e O (λv xb=>match v with | .tup [a,b]=>P.nxt (wr (wr O i (some a)) j (some b)) xb | _=>False) (λe U'=>P.exc e O U') U
 | .aug i op e,c,O,P,U=>(match rd O i with | some a=>wE T c e O (λb xb=>gJ op a b λv=>P.nxt (wr O i (some v)) xb) (λe U'=>P.exc e O U') U | none=>False)
 | .augA o n op e,c,O,P,U=>wE T c o O (λov xb=>aY xb ov n λa=>wE T c e O (λb xc=>gJ op a b λv=>fK xc ov n v λxf=>P.nxt O xf) (λe U'=>P.exc e O U') xb) (λe U'=>P.exc e O U') U
 | .exp e,c,O,P,U=>wE T c e O (λ_ xb=>P.nxt O xb) (λe U'=>P.exc e O U') U
 | .ret e,c,O,P,U=>wE T c e O (λv xb=>P.ret v O xb) (λe U'=>P.exc e O U') U
 | .retN,c,O,P,U=>P.ret .none O U
 | .ife t b o,c,O,P,U=>wT T c t O (λq xb=>if q=true then wSs T F b c O P xb else wSs T F o c O P xb) (λe U'=>P.exc e O U') U
 | .whl t b,c,O,P,U=>Gm T F t b c O P U
 | .for t e b,c,O,P,U=>wE T c e O (λv xb=>∃ src,srcOf xb v=some src/\mD T F t src 0 b c O P xb) (λe U'=>P.exc e O U') U
 | .forE is j i k b,c,O,P,U=>∃ a vs,rd O k=some (.ref a)/\U a=some (.list vs)/\Bx T F is a 0 b c O P U
 | .brk,c,O,P,U=>P.brk O U
 | .cnt,c,O,P,U=>P.cnt O U
 | .pas,c,O,P,U=>P.nxt O U
 | .rai e,c,O,P,U=>wE T c e O (λv xb=>match v with
   | .ref e=>(match xb e with | some (.exc C d)=>cH C/\(∀ h,c.hd=some h->h<=e)/\P.exc e O xb | _=>False)
   | _=>False) (λe U'=>P.exc e O U') U
 | .tryE b j i D n h,c,O,P,U=>wSs T F b c O { P with exc:=λe O1 xb=>match xb e with
   | some (.exc C d)=>cH C/\if C=D then wSs T F h { c with hd:=some e } (nIn n e O1) (P.out n) xb else P.exc e O1 xb
   | _=>False } U
 | .tryF b f,c,O,P,U=>wSs T F b c O #[λO1 xb=>wSs T F f c O1 P xb,λv O1 xb=>wSs T F f c O1 { P with nxt:=P.ret v } xb,λO1 xb=>wSs T F f c O1 { P with nxt:=P.brk } xb,λO1 xb=>wSs T F f c O1 { P with nxt:=P.cnt } xb,λe O1 xb=>wSs T F f { c with hd:=some e } O1 { P with nxt:=P.exc e } xb] U
 | .tryEF b j i D n h f,c,O,P,U =>
  let P':PP:=#[λO1 xb=>wSs T F f c O1 P xb,λv O1 xb=>wSs T F f c O1 { P with nxt:=P.ret v } xb,λO1 xb=>wSs T F f c O1 { P with nxt:=P.brk } xb,λO1 xb=>wSs T F f c O1 { P with nxt:=P.cnt } xb,λe O1 xb=>wSs T F f { c with hd:=some e } O1 { P with nxt:=P.exc e } xb]
  wSs T F b c O { P' with exc:=λe O1 xb=>match xb e with
   | some (.exc C d)=>cH C/\if C=D then wSs T F h { c with hd:=some e } (nIn n e O1) (P'.out n) xb else P'.exc e O1 xb
   | _=>False } U
 | .bad,c,O,P,U=>False
noncomputable def wSs(T:Tp)(F:Fc):PSs->Cx->cZ->PP->Ψ
 | .nil,c,O,P,U=>P.nxt O U
 | .cons s ss,c,O,P,U=>wS T F s c O { P with nxt:=λO1 xb=>wSs T F ss c O1 P xb } U
end
section
variable {T:Tp} {c:Cx} {F:Fc} {U:Sg}
structure FnQ(D:bc)(ps:List Str)(b:PSs):Prop where
 plain:oN D ps
 scope:oH D ps=true
 nodup:ps.Nodup
 nd:(D.scope.names.map (·.1)).Nodup
 nb:∀ p∈D.scope.names,(p.1==("__debug__":Str))=false
 pre:(D.scope.names.map (·.1)).take ps.length=ps
 Dc:ak (dH D.scope b D.body)
noncomputable def PP.fn(Q:V->Ψ)(X:Addr->Ψ):PP:=#[λ_ U' => ∃ U'',aO U'' U'/\Q .none U'',λv _ U' => ∃ U'',aO U'' U'/\Q v U'',λ_ _=>False,λ_ _=>False,λe _ U' => ∃ U'',aO U'' U'/\X e U'']
end
section
open Lean Meta Elab Tactic
structure BX where
 nm:List (String×String)
 gs:List (String×Lean.Expr)
end
noncomputable def n_back:Str:=f!"back"
noncomputable def n_code:Str:=f!"code"
noncomputable def n_commands:Str:=f!"commands"
noncomputable def n_coroutine:Str:=f!"coroutine"
noncomputable def n_depth:Str:=f!"depth"
noncomputable def n_epoch:Str:=f!"epoch"
noncomputable def n_errorcode:Str:=f!"errorcode"
noncomputable def n_extra:Str:=f!"extra"
noncomputable def n_firsts:Str:=f!"firsts"
noncomputable def n_frame:Str:=f!"frame"
noncomputable def n_fuel:Str:=f!"fuel"
noncomputable def n_info:Str:=f!"info"
noncomputable def n_inline:Str:=f!"inline"
noncomputable def n_is_busy:Str:=f!"is_busy"
noncomputable def n_is_element:Str:=f!"is_element"
noncomputable def n_is_noted:Str:=f!"is_noted"
noncomputable def n_is_proc:Str:=f!"is_proc"
noncomputable def n_kind:Str:=f!"kind"
noncomputable def n_label:Str:=f!"label"
noncomputable def n_level:Str:=f!"level"
noncomputable def n_limit:Str:=f!"limit"
noncomputable def n_line:Str:=f!"line"
noncomputable def n_ret:Str:=f!"ret"
noncomputable def n_script:Str:=f!"script"
noncomputable def n_spent:Str:=f!"spent"
noncomputable def n_tools:Str:=f!"tools"
noncomputable def n_traces:Str:=f!"traces"
noncomputable def n_value:Str:=f!"value"
noncomputable def n_vars:Str:=f!"vars"
noncomputable def n_why:Str:=f!"why"
noncomputable def n_writes:Str:=f!"writes"
section
variable {T:Tp} {F:Fc} {c:Cx} {O:cZ} {P:PP} {U:Sg} {X:Addr->Ψ}
noncomputable def PP.seq(T:Tp)(F:Fc)(c:Cx)(ss:PSs)(P:PP):PP:={ P with nxt:=λO1 xb=>wSs T F ss c O1 P xb }
noncomputable def PP.fin(T:Tp)(F:Fc)(f:PSs)(c:Cx)(P:PP):PP:=#[λO1 xb=>wSs T F f c O1 P xb,λv O1 xb=>wSs T F f c O1 { P with nxt:=P.ret v } xb,λO1 xb=>wSs T F f c O1 { P with nxt:=P.brk } xb,λO1 xb=>wSs T F f c O1 { P with nxt:=P.cnt } xb,λe O1 xb=>wSs T F f { c with hd:=some e } O1 { P with nxt:=P.exc e } xb]
end
section
variable {T:Tp} {c:Cx} {X:Addr->Ψ} {U:Sg} {Q:V->Ψ} {n:Nat} {hd:Option Addr}
noncomputable def Rk(c:Nat):Bool:=decide (c∈[32,9,11,12,13])
noncomputable def du(c:Nat):Bool:=decide (c∈[32,9,10,11,12,13])
noncomputable def Dq(n:Nat):Int:=if 48<=n/\n<=57 then n-48 else if 97<=n/\n<=122 then n-87 else if 65<=n/\n<=90 then n-55 else -1
noncomputable def cG:LN->LN
 | []=>[]
 | c::r=>if Rk c=true then cG r else c::r
noncomputable def bL:LN->LN
 | []=>[]
 | c::r=>if c=10 then r else bL r
noncomputable def aA:Nat->LN->LN
 | 0,r=>r
 | n+1,r=>match cG r with
  | []=>[]
  | c::r'=>if c=35 then aA n (bL r')else if c=10∨c=59 then aA n r' else c::r'
def De(c:Nat):Bool:=decide (c=95)||decide (0<=Dq c)
noncomputable def fY:LN->LN
 | []=>[]
 | c::r=>if De c=true then fY r else c::r
noncomputable def bV:Nat->LN->Option LN
 | _,[]=>none
 | d,c::r=>if c=123 then bV (d+1) r else if c=125 then(if d=1 then some r else bV (d-1) r)else bV d r
def nG(r:LN):Option (LN×LN) :=
 if(fY r).length=r.length then none else if(fY r).head? = some 40 then none else some (r.take (r.length-(fY r).length),fY r)
noncomputable def tx:LN:=[116,101,120,116]
inductive Part where
 | text (l:LN)
 | var (l:LN)
 | cmd (l:LN)
noncomputable def flush(run:LN)(acc:List Part):List Part:=if run=[]then acc else acc++[.text run]
noncomputable def stops(nst:Bool):LN:=if nst then [32,9,11,12,13,10,59,93]else [32,9,11,12,13,10,59]
noncomputable def plainT(nst:Bool):LN->LN
 | []=>[]
 | c::r=>if c∈[36,91,92]∨c∈stops nst then c::r else plainT nst r
abbrev Br:=LN->Option (LN×LN)
noncomputable def cU(br:Br)(nst:Bool):Nat->LN->LN->List Part->Option (List Part×LN)
 | 0,_,_,_=>none
 | k+1,r,run,acc =>
  match r with
  | []=>some (flush run acc,[])
  | c::r' =>
   if c∈stops nst then some (flush run acc,c::r')
   else if c=36 then(match nG r' with | some (nm,r2)=>cU br nst k r2 [] (flush run acc++[.var nm]) | none=>none)
   else if c=91 then(match br r' with | some (s,r2)=>cU br nst k r2 [] (flush run acc++[.cmd s]) | none=>none)
   else cU br nst k (plainT nst r') (run++c::r'.take (r'.length-(plainT nst r').length)) acc
def tH(t:LN):Prop:=92∉t/\58∉t/\t.length<=100000
def o9(br:Br)(nst:Bool)(k:Nat)(r:LN):Option (List Part×LN) :=
 if r.take 3=[123,42,125]then none else match r with
 | []=>none
 | c::r'=>if c=123 then(match bV 1 r' with
   | some r2=>some (flush (r'.take (r'.length-(r2.length+1))) [],r2)
   | none=>none)
  else if c=34 then none else cU br nst k (c::r') [] []
structure Ko where
 ws:List (List Part)
 b:LN
 e:LN
 z:LN
noncomputable def dN(br:Br)(nst:Bool)(b:LN):Nat->LN->List (List Part)->Option Ko
 | 0,_,_=>none
 | k+1,r,acc=>match o9 br nst 100001 r with
  | none=>none
  | some (ps,e)=>match cG e with
   | []=>some #[acc++[ps],b,e,[]]
   | c::p=>if c=10∨c=59 then some #[acc++[ps],b,e,p]
    else if nst=true/\c=93 then some #[acc++[ps],b,e,c::p]
    else if p.length+1=e.length then none else dN br nst b k (c::p) (acc++[ps])
def aJ(br:Br)(nst:Bool)(r:LN):Option (Option Ko):=match aA 100001 r with
 | []=>some none
 | c::r'=>if nst=true/\c=93 then some none else(dN br nst (c::r') 100001 (c::r') []).map some
noncomputable def vZ(br:Br)(r0:LN):Nat->LN->Option (LN×LN)
 | 0,_=>none
 | k+1,r=>match r with
  | []=>none
  | c::p=>if c=93 then some (r0.take (r0.length-(p.length+1)),p)
   else match aJ br true (c::p)with
    | some (some q)=>vZ br r0 k (aA 100001 q.z)
    | _=>none
noncomputable def Wt:Nat->Br
 | 0,_=>none
 | d+1,r=>vZ (Wt d) r 100001 (aA 100001 r)
abbrev wN:Br:=Wt 3
noncomputable def qu:LN->LN
 | []=>[]
 | c::r=>if du c=true then qu r else c::r
noncomputable def jO:LN->LN
 | []=>[]
 | c::r=>if du c=true then c::r else jO r
def qL(r:LN):Option (Option (LN×LN)):=match qu r with
 | []=>some none
 | c::p=>if c=123∨c=34 then none else some (some ((c::p).take (p.length+1-(jO (c::p)).length),jO (c::p)))
noncomputable def fQ:Nat->LN->aX->Option aX
 | 0,_,_=>none
 | k+1,r,acc=>match qL r with
  | none=>none
  | some none=>some acc
  | some (some (x,r'))=>fQ k r' (acc++[x])
noncomputable def sV(ls:aX):List V:=ls.map .str
noncomputable def sY:LN:=[98,114,97,99,101]
noncomputable def Av:LN:=[101,115,99,97,112,101]
noncomputable def acp:LN:=[109,97,115,107]
noncomputable def RL:LN:=[110,111,110,101]
noncomputable def lW:LN->Int->Bool->Bool->Bool->Option (Int×Bool×Bool×Bool)
 | [],d,bd,wb,we=>some (d,bd,wb,we)
 | c::r,d,bd,wb,we =>
  if c=123 then lW r (d+1) bd wb we
  else if c=125 then(if d-1<0 then none else lW r (d-1) bd wb we)
  else if c=93∨c=34 then lW r d true wb true
  else if(c=91∨c=36∨c=59∨c=92)∨du c=true then
   (if c=92 then(match r with
    | []=>none
    | c2::r2=>if c2=10 then none else if c2=123∨c2=125∨c2=92 then lW r2 d true true we else lW (c2::r2) d true true we)
   else lW r d true true we)
  else lW r d bd wb we
def Gn(hs:Bool):Option (Int×Bool×Bool×Bool)->LN
 | none=>Av
 | some (d,bd,wb,we)=>if 0<d then Av else if bd=true then(if we=true/\wb=false then acp else sY)else if hs=true then sY else RL
def ji(e:LN)(h:Bool):LN:=match e with
 | []=>sY
 | c::r=>Gn (h&&decide (c=35)) (lW (c::r) 0 (decide (c=123∨c=34)) (decide (c=123∨c=34)||(h&&decide (c=35))) false)
noncomputable def Uq(c:Nat)(deep:Bool):LN :=
 if c=12 then [92,102]else if c=10 then [92,110]else if c=13 then [92,114]else if c=9 then [92,116]else if c=11 then [92,118]
 else if c=93∨c=91∨c=36∨c=59∨c=32∨c=92∨c=34 then [92,c]
 else if deep=true/\(c=123∨c=125)then [92,c]else [c]
def outF(l:LN)(d:Bool):aX:=l.map λc=>Uq c d
def sW(e:LN)(h:Bool):LN :=
 if ji e h=RL then e else if ji e h=sY then 123::e++[125]
 else bJ [] ((if h=true/\e.head? = some 35 then [[92]]else [])++outF e (decide (ji e h=Av)))
noncomputable def quotes:Bool->aX->aX
 | _,[]=>[]
 | b,x::r=>sW x b::quotes false r
def kZ(ls:aX):LN:=bJ [32] (quotes true ls)
inductive Rw:Sg->Option Addr->V->Src->aX->Prop
 | tup {U:Sg} {hd:Option Addr} (ls:aX):Rw U hd (.tup (sV ls)) (.tup (sV ls)) ls
 | lst {U:Sg} {a:Addr} {ls:aX}:U a=some (.list (sV ls))->Rw U none (.ref a) (.lst a) ls
noncomputable def FJ(t:LN)(k:Nat):LN:=if k<t.length then t.take k++[46,46,46]else t
end
structure Vr where
 name:LN
 val:LN
 wr:Nat
structure Row where
 sp:Nat
 rd:Nat
 dp:Nat
 fr:Option LN
 ws:aX
 vs:List Vr
structure cj where
 vars:List Vr
 spent:Nat
 depth:Nat
 frame:Option LN
 rounds:aX
 log:List Row
structure iw where
 code:Nat
 value:LN
 ec:aX
 level:Nat
 ret:Nat
 info:LN
 noted:Bool
 line:Nat
inductive Got where
 | str (l:LN)
 | nest (script:LN) (back:Option LN) (isProc:Bool) (label:LN)
inductive Rs(α:Type) where
 | ok (a:α) (s:cj)
 | dJ (r:iw) (s:cj)
 | out (s:cj)
abbrev Mo(α:Type):=cj->Option (Rs α)
namespace Mo
section
variable {α β:Type}
def ret(a:α):Mo α:=λs=>some (.ok a s)
def bnd(m:Mo α)(f:α->Mo β):Mo β:=λs=>match m s with
 | some (.ok a s')=>f a s'
 | some (.dJ r s')=>some (.dJ r s')
 | some (.out s')=>some (.out s')
 | none=>none
def rai(r:iw):Mo α:=λs=>some (.dJ r s)
def vL:Mo α:=λ_=>none
def eE(b:Prop)[Decidable b]:Mo Unit:=λs=>if b then some (.ok () s)else none
def opt:Option α->Mo α
 | some a=>ret a
 | none=>vL
def jG(m:Mo α)(h:iw->Mo α):Mo α:=λs=>match m s with
 | some (.dJ r s')=>h r s'
 | x=>x
def H3(m:Mo α)(f:cj->cj):Mo α:=λs=>match m s with
 | some (.ok a s')=>some (.ok a (f s'))
 | some (.dJ r s')=>some (.dJ r (f s'))
 | some (.out s')=>some (.out (f s'))
 | none=>none
end
end Mo
section
open Mo
structure Hv where
 fuel:Option Nat
 texts:aX
noncomputable def over:Option Nat->Nat->Bool
 | none,_=>false
 | some f,n=>decide (f<n)
def dM(E:Hv):Mo Unit:=λs=>if over E.fuel (s.spent+1)=true then some (.out { s with spent:=s.spent+1 })else some (.ok () { s with spent:=s.spent+1 })
noncomputable def zZ(x:LN):List Vr->Option Vr
 | []=>none
 | v::r=>if x=v.name then some v else zZ x r
noncomputable def xW(x y:LN):List Vr->List Vr
 | []=>[#[x,y,1]]
 | v::r=>if x=v.name then#[v.name,y,v.wr+1]::r else v::xW x y r
def readM(x:LN):Mo LN:=λs=>match zZ x s.vars with
 | some v=>some (.ok v.val s)
 | none=>none
def cP(x y:LN):Mo Unit:=λs=>if s.vars.length<=900 then some (.ok () { s with vars:=xW x y s.vars })else none
noncomputable def gA(ws:aX)(s:cj):cj:={ s with log:=s.log++[#[s.spent,s.rounds.length,s.depth,s.frame,ws,s.vars]] }
def room(s:cj):Prop:=s.log.length<=900/\s.vars.length<=900/\∀ v∈s.vars,v.name.length<=900
noncomputable instance (s:cj):Decidable (room s):=inferInstanceAs (Decidable (_/\_))
def mq(t:LN):Prop:=t.take 1=[32]
noncomputable instance (t:LN):Decidable (mq t):=inferInstanceAs (Decidable (_=_))
def mz(E:Hv)(ws:aX):Mo Unit:=λs=>if over E.fuel (s.spent+1)=true then some (.out { s with spent:=s.spent+1 })else
 if room s then some (.ok () (gA ws { s with spent:=s.spent+1 }))else none
noncomputable def tot(ls:aX):Nat:=(ls.map List.length).sum
def wM(ls:aX):Prop:=tot ls<=2000000/\ls.length<=1000
noncomputable instance (ls:aX):Decidable (wM ls):=inferInstanceAs (Decidable (_/\_))
def dec(n:Nat):LN:=Qq (Str.ofString (toString (n:Int)))
abbrev bY:=LN->Mo LN
noncomputable def nU(run:bY):List Part->aX->Mo aX
 | [],acc=>ret acc
 | .text l::ps,acc=>nU run ps (acc++[l])
 | .cmd s::ps,acc=>bnd (eE (¬mq s)) λ_=>bnd (run s) λv=>nU run ps (acc++[v])
 | .var x::ps,acc=>bnd (readM x) λv=>nU run ps (acc++[v])
def nY(run:bY)(ps:List Part):Mo LN:=bnd (eE (ps.length<=1000)) λ_=>bnd (nU run ps []) λacc=>bnd (eE (wM acc)) λ_=>ret (bJ [] acc)
noncomputable def kJ(run:bY):List (List Part)->aX->Mo aX
 | [],acc=>ret acc
 | w::ws,acc=>bnd (nY run w) λv=>kJ run ws (acc++[v])
def gw(run:bY)(ws:List (List Part)):Mo aX:=bnd (eE (ws.length<=1000)) λ_=>kJ run ws []
noncomputable def dJ(code:Nat)(value:LN)(ec:aX)(level ret:Nat):iw:=#[code,value,ec,level,ret,[],false,0]
def small(r:iw):Prop:=r.value.length+r.info.length<=1000000/\wM r.ec/\r.line<=900/\r.code<=900/\r.level<=900/\r.ret<=900
noncomputable instance (r:iw):Decidable (small r):=inferInstanceAs (Decidable (_/\_))
def Rr(r:iw)(src:LN):LN :=
 if r.info=[]then r.value++[10,32,32,32,32,119,104,105,108,101,32,101,120,101,99,117,116,105,110,103,10,34]++FJ src 150++[34]
 else if r.noted=true then r.info++[10,32,32,32,32,105,110,118,111,107,101,100,32,102,114,111,109,32,119,105,116,104,105,110,10,34]++FJ src 150++[34]else r.info
def Gq(r:iw)(src:LN):iw:=if r.code≠1 then r else{ r with info:=Rr r src,noted:=true }
noncomputable def ou(r:iw)(t:LN):iw:=if r.code≠1 then r else{ r with info:=(if r.info=[]then r.value else r.info)++[10,32,32,32,32]++t,noted:=true }
def Va(text b:LN):Nat:=(Txt.split (Cs (text.take (text.length-b.length))) (Cs [10])).length
def gV(r:iw)(text b e:LN):iw:=if r.code≠1 then r else
 Gq (if r.line=0 then{ r with line:=Va text (aA 100001 b) }else r) ((aA 100001 b).take ((aA 100001 b).length-e.length))
def m8(label:LN)(r:iw):LN ⊕ iw :=
 if r.code=2 then
  if 1<r.level then .inr { r with level:=r.level-1 }
  else if r.ret=0 then .inl r.value
  else .inr { r with code:=r.ret,level:=if r.ret=2 then 1 else 0,ret:=0,noted:=true }
 else
  let f:iw:=if r.code=3∨r.code=4 then{ dJ 1 ([105,110,118,111,107,101,100,32,34]++(if r.code=3 then [98,114,101,97,107]else [99,111,110,116,105,110,117,101])++[34,32,111,117,116,115,105,100,101,32,111,102,32,97,32,108,111,111,112]) [[84,67,76],[82,69,83,85,76,84],[85,78,69,88,80,69,67,84,69,68]] 0 0 with line:=r.line }else r
  .inr { ou f ([40,112,114,111,99,101,100,117,114,101,32,34]++FJ label 60++[34,32,108,105,110,101,32]++dec f.line++[41])with line:=0 }
noncomputable def s7(r:iw):LN:=if r.info=[]then r.value else r.info
def lJ(r:iw):aX:=if r.code=1 then [[45,101,114,114,111,114,99,111,100,101],kZ r.ec,[45,101,114,114,111,114,105,110,102,111],s7 r]else []
def optItems(r:iw):aX:=[[45,99,111,100,101],dec (if r.code=2 then r.ret else r.code),[45,108,101,118,101,108],dec (if r.code=2 then r.level else 0)]++lJ r
def xF:Option iw->LN
 | none=>[45,99,111,100,101,32,48,32,45,108,101,118,101,108,32,48]
 | some r=>kZ (optItems r)
def eZ(r:iw):Mo Unit:=if r.code=1 then bnd (cP [58,58,101,114,114,111,114,73,110,102,111] (s7 r)) λ_=>cP [58,58,101,114,114,111,114,67,111,100,101] (kZ r.ec)else ret ()
def tried(run:bY)(s:LN):Mo (LN×Option iw) :=
 bnd (eE (¬mq s)) λ_=>jG (bnd (run s) λv=>ret (v,none)) λr=>bnd (eE (small r)) λ_=>bnd (eZ r) λ_=>ret (r.value,some r)
def nW:Option iw->LN
 | none=>[48]
 | some r=>dec r.code
def Gy:Option iw->Prop
 | none=>True
 | some r=>wM (optItems r)/\¬(r.code=2/\r.ret=1)
noncomputable instance:(o:Option iw)->Decidable (Gy o)
 | none=>isTrue trivial
 | some r=>inferInstanceAs (Decidable (_/\_))
def Dn(run:bY):aX->Mo LN
 | [_,s]=>bnd (tried run s) λp=>ret (nW p.2)
 | [_,s,x]=>bnd (tried run s) λp=>bnd (cP x p.1) λ_=>ret (nW p.2)
 | [_,s,x,y]=>bnd (tried run s) λp=>bnd (cP x p.1) λ_=>bnd (eE (Gy p.2)) λ_=>bnd (cP y (xF p.2)) λ_=>ret (nW p.2)
 | _=>vL
noncomputable def yH(run:bY)(b:LN):Mo (Nat×LN) :=
 jG (bnd (run b) λv=>ret (0,v)) λr=>if r.code=3∨r.code=4 then ret (r.code,[])else rai r
noncomputable def iG(values:aX):aX->Nat->Mo Unit
 | [],_=>ret ()
 | x::names,at_=>bnd (cP x (values[at_]?.getD [])) λ_=>iG values names (at_+1)
noncomputable def lR(E:Hv)(run:bY)(names values:aX)(body:LN)(rounds:Nat):Nat->Nat->aX->Mo aX
 | 0,_,_=>vL
 | k+1,turn,kept=>if rounds<=turn then ret kept else
  bnd (dM E) λ_=>bnd (iG values names (turn*names.length)) λ_=>bnd (yH run body) λp =>
   if p.1=3 then ret kept else lR E run names values body rounds k (turn+1) (if p.1=0 then kept++[p.2]else kept)
def zW(t:LN):Prop:=92∉t/\t.length<=100000
noncomputable instance (t:LN):Decidable (zW t):=inferInstanceAs (Decidable (_/\_))
def Cq(E:Hv)(run:bY)(lmap:Bool):aX->Mo LN
 | [_,ns,vs,body]=>bnd (eE (zW ns/\zW vs/\mq body)) λ_=>bnd (opt (fQ 1000 ns [])) λnames=>bnd (opt (fQ 1000 vs [])) λvalues =>
   bnd (eE (0<names.length)) λ_=>bnd (lR E run names values body ((values.length+names.length-1)/names.length) 900 0 []) λkept =>
    if lmap=true then bnd (eE (wM kept)) λ_=>ret (kZ kept)else ret []
 | _=>vL
def testM(x:LN):Mo Bool:=bnd (readM x) λv=>if v=[48]then ret false else bnd (cP x (if v=[50]then [49]else [48])) λ_=>ret true
noncomputable def kE(E:Hv)(run:bY)(x body:LN):Nat->Nat->Mo Unit
 | 0,_=>vL
 | k+1,code=>if code=3 then ret ()else bnd (testM x) λb=>if b=true then bnd (dM E) λ_=>bnd (yH run body) λp=>kE E run x body k p.1 else ret ()
def Dk(E:Hv)(run:bY):aX->Mo LN
 | [_,x,body]=>bnd (eE (mq body)) λ_=>bnd (kE E run x body 900 0) λ_=>ret []
 | _=>vL
def uG(t:LN):Bool:=match t.head?,t[t.length-1]? with
 | some a,some b=>!du a && !du b&&decide (b≠92)
 | _,_=>false
def Cv:aX->Mo Got
 | [_,s]=>ret (.nest s none false [])
 | [_,a,b]=>bnd (eE (uG a=true/\uG b=true/\wM [a,b])) λ_=>ret (.nest (bJ [32] [a,b]) none false [])
 | _=>vL
def mQ(run:bY)(p:Part):Mo (Option LN) :=
 jG (bnd (nY run [p]) λv=>ret (some v)) λr=>if r.code=1 then rai r else if r.code=3 then ret none else if r.code=4 then ret (some [])else ret (some r.value)
def joinM(acc:aX):Mo LN:=bnd (eE (wM acc)) λ_=>ret (bJ [] acc)
noncomputable def dz(run:bY):Nat->LN->aX->Mo LN
 | 0,_,_=>vL
 | k+1,[],acc=>joinM acc
 | k+1,c::r,acc=>if c=92 then vL
  else if c=91 then bnd (opt (wN r)) λp=>bnd (mQ run (.cmd p.1)) λgot=>(match got with | none=>joinM acc | some v=>dz run k p.2 (acc++[v]))
  else if c=36 then bnd (opt (nG r)) λp=>bnd (mQ run (.var p.1)) λgot=>(match got with | none=>joinM acc | some v=>dz run k p.2 (acc++[v]))
  else dz run k r (acc++[[c]])
def EY(run:bY):aX->Mo LN
 | [_,t]=>bnd (eE (92∉t/\58∉t/\t.length<=900)) λ_=>dz run 1000 t []
 | _=>vL
noncomputable def eX:aX:=[[48],[49],[50],[51]]
def Cw(E:Hv):aX->Mo Got
 | [_,i]=>bnd (eE (i∈eX)) λ_=>bnd (opt (E.texts[eX.idxOf i]?)) λt=>λs=>some (.ok (.nest t s.frame true [112]) { s with frame:=some (102::i) })
 | _=>vL
def Zv:aX->Mo LN
 | [_,x,v]=>bnd (cP x v) λ_=>ret v
 | _=>vL
def RD:aX->Mo LN
 | _::ws=>bnd (eE (wM ws)) λ_=>ret ([60]++bJ [44] ws++[62])
 | _=>vL
noncomputable def KN(i:LN):Option (Nat×Nat×Nat):=if i=[48]then some (1,0,0)else if i=[49]then some (2,1,0)else if i=[50]then some (2,2,3)else if i=[51]then some (3,0,0)else if i=[52]then some (4,0,0)else if i=[53]then some (7,0,0)else none
def YB:aX->Mo LN
 | [_,i]=>bnd (opt (KN i)) λp=>rai (dJ p.1 [119] [[65],[98]] p.2.1 p.2.2)
 | _=>vL
def Gj(code:Nat):aX->Mo LN
 | [_]=>rai (dJ code [] [[78,79,78,69]] 0 0)
 | _=>vL
inductive Kd where
 | catch | foreach | lmap | whl | eval | subst | brk | cnt | put | say | dear | bad | proc
noncomputable def cW:List (LN×Kd):=[([99,97,116,99,104],.catch),([102,111,114,101,97,99,104],.foreach),([108,109,97,112],.lmap),([119,104,105,108,101],.whl),([101,118,97,108],.eval),([115,117,98,115,116],.subst),([98,114,101,97,107],.brk),([99,111,110,116,105,110,117,101],.cnt),
 ([112,117,116],.put),([115,97,121],.say),([100,101,97,114],.dear),([98,97,100],.bad),([112],.proc)]
noncomputable def pU(x:LN):List (LN×Kd)->Option Kd
 | []=>none
 | (y,k)::r=>if x=y then some k else pU x r
noncomputable def je(m:Mo LN):Mo Got:=bnd m λv=>ret (.str v)
def lz(E:Hv)(run:bY)(ws:aX):Kd->Mo Got
 | .catch=>je (Dn run ws)
 | .foreach=>je (Cq E run false ws)
 | .lmap=>je (Cq E run true ws)
 | .whl=>je (Dk E run ws)
 | .eval=>Cv ws
 | .subst=>je (EY run ws)
 | .brk=>je (Gj 3 ws)
 | .cnt=>je (Gj 4 ws)
 | .put=>je (Zv ws)
 | .say=>je (RD ws)
 | .dear=>je (bnd (eE (ws.length=1)) λ_=>bnd (dM E) λ_=>ret [100])
 | .bad=>je (YB ws)
 | .proc=>Cw E ws
def yw(E:Hv)(run:bY)(ws:aX):Mo Got:=match ws with
 | []=>vL
 | c::_=>match pU c cW with
  | none=>bnd (eE (c.length<=1000)) λ_=>rai (dJ 1 ([105,110,118,97,108,105,100,32,99,111,109,109,97,110,100,32,110,97,109,101,32,34]++c++[34]) [[84,67,76],[76,79,79,75,85,80],[67,79,77,77,65,78,68],c] 0 0)
  | some kd=>bnd (mz E ws) λ_=>lz E run ws kd
def jW(label:LN)(r:iw):Mo LN:=bnd (eE (small r/\label.length<=1000)) λ_=>match m8 label r with
 | .inl v=>ret v
 | .inr r'=>rai r'
noncomputable def sE(back:Option LN)(s:cj):cj:=match back with
 | none=>s
 | some f=>{ s with frame:=some f }
def bk(run:bY):Got->Mo LN
 | .str v=>ret v
 | .nest sc back ip lb=>bnd (eE (¬mq sc)) λ_=>H3 (jG (run sc) λr=>if ip=true then jW lb r else rai r) (sE back)
def b7(E:Hv)(run:bY)(ws:aX):Mo LN:=bnd (yw E run ws) λg=>bk run g
def uW(E:Hv)(run:bY)(text:LN)(q:Ko):Mo LN :=
 jG (bnd (gw run q.ws) (b7 E run)) λr=>bnd (eE (small r/\text.length<=800)) λ_=>rai (gV r text q.b q.e)
noncomputable def ik(E:Hv)(run:bY)(text:LN):Nat->LN->LN->Mo LN
 | 0,_,_=>vL
 | k+1,r,res=>bnd (opt (aJ wN false r)) λo=>match o with
  | none=>ret res
  | some q=>bnd (uW E run text q) λv=>ik E run text k q.z v
noncomputable instance (t:LN):Decidable (tH t):=inferInstanceAs (Decidable (_/\_))
def qy(E:Hv)(run:bY)(text:LN):Mo LN:=bnd (eE (tH text)) λ_=>ik E run text 900 text []
def d8(E:Hv)(run:bY)(text:LN):Mo LN:=λs=>qy E run text (if text.take 1=[32]then{ s with rounds:=s.rounds++[text] }else s)
noncomputable def zE{α:Type}(m:Mo α):Mo α:=λs=>match m s with
 | some (.ok a s')=>if 0<s'.depth then some (.ok a { s' with depth:=s'.depth-1 })else none
 | some (.dJ r s')=>if 0<s'.depth then some (.dJ r { s' with depth:=s'.depth-1 })else none
 | some (.out s')=>if 0<s'.depth then some (.out { s' with depth:=s'.depth-1 })else none
 | none=>none
noncomputable def runM(E:Hv):Nat->bY
 | 0,_=>vL
 | g+1,text=>bnd (λs=>if s.depth<40/\s.rounds.length<=900 then some (.ok () { s with depth:=s.depth+1 })else none) λ_=>zE (d8 E (runM E g) text)
structure HC where
 h:Addr
 d:Addr
 tools:Addr
 rounds:Addr
 inl:Addr
 vars:Addr
 cmds:Addr
 firsts:Addr
 log:Addr
 texts:Addr
structure Wo where
 va:List (Addr×Addr×Addr)
 rows:List Addr
noncomputable def oR:Option LN->V
 | none=>.none
 | some l=>.str l
noncomputable def lO:Option Nat->V
 | none=>.none
 | some f=>.int f
def d9(E:Hv)(H:HC)(s:cj):List (Str×V):=[(n_tools,.ref H.tools),(n_inline,.ref H.inl),(n_limit,.int 40),(n_fuel,lO E.fuel),(n_depth,.int s.depth),(n_spent,.int s.spent),(n_epoch,.int 0),(n_frame,oR s.frame),(n_coroutine,.none),(n_vars,.ref H.vars),(n_commands,.ref H.cmds),(n_firsts,.ref H.firsts)]
def iY(H:HC):List (Str×V):=[(Cs [114,117,110],.ref 986),(Cs [101,120,112,114],.ref 979),(Cs [114,111,117,110,100,115],.ref H.rounds)]
noncomputable def scalar:LN:=[115,99,97,108,97,114]
def Gu(v:Vr)(t:Addr):List (Str×V):=[(n_kind,.str scalar),(n_value,.str v.val),(n_traces,.ref t),(n_is_busy,.bool false),(n_is_element,.bool false),(n_writes,.int v.wr)]
noncomputable def cB:List Vr->List (Addr×Addr×Addr)->List (Str×V)
 | v::r,p::q=>(Cs v.name,.ref p.1)::cB r q
 | _,_=>[]
def bZ(l:List Vr):List V:=l.map λv=>.tup [.str v.name,.str scalar,.str v.val,.int v.wr]
def qI(r:Row)(a:Addr):V:=.tup [.int r.sp,.int r.rd,.int r.dp,oR r.fr,.tup (sV r.ws),.ref a]
noncomputable def jf:List Row->List Addr->List V
 | r::l,a::q=>qI r a::jf l q
 | _,_=>[]
def uK(H:HC):List (Str×V):=[
 (Cs [99,97,116,99,104],.tup [.ref 937,.tup [.ref H.log,.ref 800,.none]]),(Cs [102,111,114,101,97,99,104],.tup [.ref 937,.tup [.ref H.log,.ref 842,.str [102,111,114,101,97,99,104]]]),(Cs [108,109,97,112],.tup [.ref 937,.tup [.ref H.log,.ref 842,.str [108,109,97,112]]]),
 (Cs [119,104,105,108,101],.tup [.ref 937,.tup [.ref H.log,.ref 821,.none]]),(Cs [101,118,97,108],.tup [.ref 937,.tup [.ref H.log,.ref 863,.none]]),(Cs [115,117,98,115,116],.tup [.ref 937,.tup [.ref H.log,.ref 897,.none]]),
 (Cs [98,114,101,97,107],.tup [.ref 937,.tup [.ref H.log,.ref 849,.none]]),(Cs [99,111,110,116,105,110,117,101],.tup [.ref 937,.tup [.ref H.log,.ref 856,.none]]),(Cs [112,117,116],.tup [.ref 937,.tup [.ref H.log,.ref 944,.none]]),
 (Cs [115,97,121],.tup [.ref 937,.tup [.ref H.log,.ref 951,.none]]),(Cs [100,101,97,114],.tup [.ref 937,.tup [.ref H.log,.ref 958,.none]]),(Cs [98,97,100],.tup [.ref 937,.tup [.ref H.log,.ref 965,.none]]),
 (Cs [112],.tup [.ref 937,.tup [.ref H.log,.ref 972,.ref H.texts]])]
noncomputable def dI:List Vr->List (Addr×Addr×Addr)->List (Addr×Cell)
 | v::r,p::q=>(p.1,.inst 473 p.2.1)::(p.2.1,.dict (Gu v p.2.2))::dI r q
 | _,_=>[]
noncomputable def gm:List Row->List Addr->List (Addr×Cell)
 | r::l,a::q=>(a,.list (bZ r.vs))::gm l q
 | _,_=>[]
def facts(E:Hv)(H:HC)(w:Wo)(s:cj):List (Addr×Cell) :=
 (H.d,.dict (d9 E H s))::(H.rounds,.list (sV s.rounds))::(H.vars,.dict (cB s.vars w.va))::(H.log,.list (jf s.log w.rows)) ::
  (H.h,.inst 749 H.d)::(H.tools,.dict (iY H))::(H.inl,.dict [])::(H.cmds,.dict (uK H))::(H.firsts,.dict [])::(dI s.vars w.va++gm s.log w.rows)
noncomputable def Hr:List (Addr×Addr×Addr)->List Addr
 | []=>[]
 | p::q=>p.1::p.2.1::Hr q
def addrs(H:HC)(w:Wo):List Addr:=H.d::H.rounds::H.vars::H.log::H.h::H.tools::H.inl::H.cmds::H.firsts::(Hr w.va++w.rows)
def Facts(U:Sg)(l:List (Addr×Cell)):Prop:=∀ p∈l,U p.1=some p.2
structure Inv(E:Hv)(H:HC)(w:Wo)(s:cj)(U:Sg):Prop where
 fs:Facts U (facts E H w s)
 nd:(addrs H w).Nodup
 lv:w.va.length=s.vars.length
 lr:w.rows.length=s.log.length
 nm:(s.vars.map Vr.name).Nodup
 tx:U H.texts=some (.list (sV E.texts))
 tn:H.texts∉addrs H w
end
section
open Mo
variable {E:Hv} {H:HC} {w w' w'':Wo} {s s':cj} {U U' U'':Sg}
structure az(H:HC)(w:Wo)(U:Sg)(w':Wo)(U':Sg):Prop where
 own:∀ a,a∈addrs H w->a∈addrs H w'
 rest:∀ a c,U a=some c->a∉addrs H w->U' a=some c/\a∉addrs H w'
end
section
open Mo
def vY(r:iw)(x:Addr):List (Str×V):=[(n_code,.int r.code),(n_value,.str r.value),(n_errorcode,.tup (sV r.ec)),(n_level,.int r.level),(n_ret,.int r.ret),(n_info,.str r.info),(n_is_noted,.bool r.noted),(n_line,.int r.line),(n_extra,.ref x)]
structure iT(U:Sg)(e d x:Addr)(r:iw):Prop where
 he:U e=some (.exc 84 (some d))
 hd:U d=some (.dict (vY r x))
 hx:U x=some (.list [])
structure Tt(U U':Sg)(e:Addr)(r:iw):Prop where
 sub:aO U U'
 fr:bD U e
 at_:∃ d x,U d=none/\U x=none/\iT U' e d x r
end
section
open Mo
variable {T:Tp} {c:Cx} {X:Addr->Ψ} {U U':Sg} {Q:V->Ψ} {n:Nat} {hd:Option Addr} {O:cZ} {e d x:Addr} {r:iw}
structure R0(U:Sg)(e d x:Addr)(X:Addr->Ψ)(r:iw):Prop where
 out:∀ e' d' x' U',iT U' e' d' x' r->(∀ u cc,u≠d->U u=some cc->U' u=some cc)->(e'=e/\d'=d/\x'=x∨U e'=none/\U d'=none/\U x'=none)->X e' U'
def nestD(script:LN)(back:Option LN)(ip:Bool)(label:LN):List (Str×V):=[(n_script,.str script),(n_back,oR back),(n_is_proc,.bool ip),(n_label,.str label)]
structure jd(U:Sg)(a d:Addr)(script:LN)(back:Option LN)(ip:Bool)(label:LN):Prop where
 ha:U a=some (.inst 105 d)
 hd:U d=some (.dict (nestD script back ip label))
end
section
open Mo
noncomputable def zF:LN:=[116,104,101,32,115,99,114,105,112,116,32,115,112,101,110,116,32,97,108,108,32,105,116,115,32,102,117,101,108]
structure DG(H:HC)(w':Wo)(U U':Sg)(e d x:Addr)(r:iw):Prop where
 a:iT U' e d x r
 nd:U d=none
 oe:e∉addrs H w'
 od:d∉addrs H w'
 ox:x∉addrs H w'
structure Ro(H:HC)(w':Wo)(U':Sg)(e d:Addr):Prop where
 he:U' e=some (.exc 63 (some d))
 hd:U' d=some (.dict [(n_why,.str zF)])
 oe:e∉addrs H w'
 od:d∉addrs H w'
end
section
open Mo
variable {T:Tp} {c:Cx} {X X0:Addr->Ψ} {U U' U1 U2:Sg} {Q Q0:V->Ψ} {n N:Nat} {hd:Option Addr} {O:cZ} {E:Hv} {H:HC} {w w' w1 w2:Wo} {s s' s1 s2:cj} {run:bY}
structure Own(H:HC)(w:Wo)(U:Sg)(w1:Wo)(U1:Sg)(a:Addr)(c:Cell):Prop where
 no:U a=none
 at1:U1 a=some c
 off:a∉addrs H w1
 tx:a≠H.texts
end
section
open Mo
structure Ec(H:HC)(w:Wo)(U:Sg)(a:Addr)(ws:aX):Prop where
 at_:U a=some (.list (sV ws))
 off:a∉addrs H w
end
section
open Mo
variable {T:Tp} {c:Cx} {X X0:Addr->Ψ} {U U' U1 U2:Sg} {Q Q0:V->Ψ} {n N:Nat} {hd:Option Addr} {O:cZ} {E:Hv} {H:HC} {w w' w1 w2:Wo} {s s' s1 s2:cj} {run:bY} {a:Addr} {ws:aX}
structure Xr(H:HC)(w:Wo)(U:Sg)(g a b:Addr)(names values:aX):Prop where
 hg:U g=some (.list [.tup [.ref a,.ref b]])
 ha:U a=some (.list (sV names))
 hb:U b=some (.list (sV values))
 og:g∉addrs H w
 oa:a∉addrs H w
 ob:b∉addrs H w
end
section
open Mo
structure Vi(T:Tp):Prop where
 vars:∀{n:Nat} {E:Hv} {H:HC} {w:Wo} {s:cj} {U:Sg} {Q:V->Ψ} {X:Addr->Ψ},Inv E H w s U->s.vars.length<=900->(∀ v∈s.vars,v.name.length<=900)->(∀ a,bD U a->Q (.ref a) (U.set a (.list (bZ s.vars))))->aj T #[n+1,none] (.ref 930) [.ref H.h] Q X U
 subst:∀{n:Nat} {U:Sg} {Q:V->Ψ} {X:Addr->Ψ} {h a:Addr} {w0 t:LN},U a=some (.list (sV [w0,t]))->(∀ U',aO U U'->aj T #[n,none] (.ref 892) [.ref h,.str t,.bool true,.bool true,.bool true] Q X U')->aj T #[n+1,none] (.ref 897) [.ref h,.ref a] Q X U
end
section
open Mo
noncomputable def qg(r:Row):Bool:=decide (r.ws=[[100,101,97,114]])
def Gb(l:List Row):Nat:=(l.filter qg).length
def ZX:List Row->Prop:=λl=>∀ i r,l[i]? = some r->r.sp=i+1+r.rd+Gb (l.take i)
structure vC(E:Hv)(d:Nat)(s:cj):Prop where
 ov:over E.fuel s.spent=false
 eq:s.spent+1=s.log.length+s.rounds.length+Gb s.log+d
 cnt:ZX s.log
 sp:∀ r∈s.log,r.sp<=s.spent
 fm:s.frame.isSome=true
structure Fr(s s':cj):Prop where
 log:∃ new,s'.log=s.log++new/\∀ r∈new,s.spent<r.sp/\r.sp<=s'.spent
 le:s.spent<=s'.spent
 depth:s'.depth=s.depth
 frame:s'.frame=s.frame
noncomputable def stOf{α:Type}:Rs α->cj
 | .ok _ s=>s
 | .dJ _ s=>s
 | .out s=>s
def s8{α:Type}(E:Hv)(d:Nat)(s:cj):Rs α->Prop
 | .ok _ s'=>vC E d s'/\Fr s s'
 | .dJ _ s'=>vC E 1 s'/\Fr s s'
 | .out s'=>Fr s s'/\(∃ F,E.fuel=some F/\s'.spent=F+1)/\ZX s'.log
def Ay{α:Type}(f:Nat)(s:cj)(r1 r2:Rs α):Prop:=((stOf r1).spent<=f/\r2=r1)∨(f<(stOf r1).spent/\∃ s2,r2 = .out s2/\s2.spent=f+1/\s2.log=(stOf r1).log.filter (λr=>decide (r.sp<=f))/\(∀ r∈(stOf r1).log,r.sp=f+1->s2.vars=r.vs)/\s2.depth=s.depth/\s2.frame=s.frame)
end
section
open Mo
variable {α β:Type} {F f:Nat} {tx:aX}
structure Cut(F f:Nat)(tx:aX)(d0 d1:Nat)(m1 m2:Mo α):Prop where
 fin:∀ s r,vC #[some F,tx] d0 s->m1 s=some r->s8 #[some F,tx] d1 s r
 cut:∀ s r1 r2,vC #[some f,tx] d0 s->m1 s=some r1->m2 s=some r2->Ay f s r1 r2
end
section
open Mo
variable {x:LN}
inductive Chain:LN->List (List (List Part))->Prop where
 | done {r:LN}:aJ wN false r=some none->Chain r []
 | step {r:LN} {q:Ko} {wss:List (List (List Part))}:aJ wN false r=some (some q)->Chain q.z wss->Chain r (q.ws::wss)
end
section
open Mo
structure JE where
 F:Nat
 tx:aX
noncomputable abbrev JE.E(J:JE):Hv:=#[some J.F,J.tx]
def val(vs:List Vr)(x:LN):Option LN:=(zZ x vs).map Vr.val
noncomputable def NMw:aX:=[[97],[98],[110],[118],[114],[111],[119],[58,58,101,114,114,111,114,73,110,102,111],[58,58,101,114,114,111,114,67,111,100,101]]
def NM:aX:=NMw++[[115,49],[116,49],[115,50],[116,50],[115,51],[116,51]]
noncomputable def kh:aX:=[[48],[49],[50]]
structure VB(tx:aX)(c:Nat)(vs:List Vr):Prop where
 nd:(vs.map Vr.name).Nodup
 nm:∀ x∈vs.map Vr.name,x∈NM
 st:∀ i,i<4->0<i->val vs [115,48+i]=some (tx[i]?.getD [])/\val vs [116,48+i]=some (32::tx[i]?.getD [])
 sm:∀ x,x∈[[97],[98],[118]]->∃ l,val vs x=some l/\l.length<=c
 n:∃ l,val vs [110]=some l/\l∈kh
structure okW(c:Nat)(x y:LN):Prop where
 m:x∈NMw
 n:x=[110]->y∈kh
 s:x∈[[97],[98],[118]]->y.length<=c
structure bF(J:JE)(n0 g d:Nat)(s:cj):Prop where
 j:vC J.E d s
 F:J.F<=30
 dp:s.depth+g=14
 n0:n0<=s.spent
 vb:VB J.tx (3*s.spent+10) s.vars
structure OS(J:JE)(g:Nat)(s:cj):Prop where
 dp:s.depth+g=14
 lg:s.log.length<=31
 rd:s.rounds.length<=31
 vb:VB J.tx 200 s.vars
structure Bd(m:Nat)(e:iw):Prop where
 v:e.value.length<=100
 i:e.info.length<=m
 ec:tot e.ec<=100/\e.ec.length<=10
 l:e.line<=900
 c:e.code<=7
 lv:e.level<=2
 r:e.ret=0∨e.ret=3
end
section
open Mo
variable {J:JE} {n0 g d m:Nat} {s:cj} {α β:Type} {A:cj->Prop} {Q R:α->cj->Prop}
def free(x:LN):Prop:=x∈NMw/\x∉[[110],[97],[98],[118]]
noncomputable instance (x:LN):Decidable (free x):=inferInstanceAs (Decidable (_/\_))
end
section
open Mo
variable {J:JE} {n0 g d m K:Nat} {s:cj} {run:bY} {α β:Type} {A:cj->Prop} {Q R:α->cj->Prop}
inductive WP(vs:List Vr):List Part->LN->Prop where
 | text (l:LN):l.length<=1000000->WP vs [.text l] l
 | var {x l:LN}:val vs x=some l->l.length<=1000000->WP vs [.var x] l
 | both {t x l:LN}:val vs x=some l->t.length+l.length<=1000000->WP vs [.text t,.var x] (t++l)
inductive WV(vs:List Vr):List (List Part)->aX->Prop where
 | nil:WV vs [] []
 | cons {ps:List Part} {l:LN} {ws:List (List Part)} {ls:aX}:WP vs ps l->WV vs ws ls->WV vs (ps::ws) (l::ls)
end
section
open Mo
variable {J:JE} {n0 g d m K:Nat} {s:cj} {run:bY} {α β:Type} {A:cj->Prop} {Q R:α->cj->Prop}
abbrev LV(K:Nat):LN->Prop:=λv=>v.length<=K
end
section
open Mo
variable {J:JE} {n0 g d m K:Nat} {s:cj} {run:bY} {α β:Type} {A:cj->Prop} {Q R:α->cj->Prop}
noncomputable abbrev tw(l:LN):List Part:=[.text l]
noncomputable def wd(n:Nat):LN:=[48+n]
end
section
open Mo
def cmP:Nat->Nat->Nat->List (LN×List (List Part))
 | 0,_,_=>[([112,117,116,32,97,32,120,36,98],[tw [112,117,116],tw [97],[.text [120],.var [98]]])]
 | 1,j,_=>[([99,97,116,99,104,32,36,115]++wd j++[32,114,32,111],[tw [99,97,116,99,104],[.var (115::wd j)],tw [114],tw [111]])]
 | 2,j,_=>[([102,111,114,101,97,99,104,32,118,32,123,49,32,50,32,51,125,32,36,116]++wd j,[tw [102,111,114,101,97,99,104],tw [118],tw [49,32,50,32,51],[.var (116::wd j)]])]
 | 3,j,_=>[([119,104,105,108,101,32,110,32,36,116]++wd j,[tw [119,104,105,108,101],tw [110],[.var (116::wd j)]])]
 | 4,j,_=>[([101,118,97,108,32,36,115]++wd j,[tw [101,118,97,108],[.var (115::wd j)]])]
 | 5,j,_=>[([115,97,121,32,91,101,118,97,108,32,36,115]++wd j++[93,32,91,115,97,121,32,36,97,93],[tw [115,97,121],[.cmd ([101,118,97,108,32,36,115]++wd j)],[.cmd [115,97,121,32,36,97]]])]
 | 6,b,_=>[([115,117,98,115,116,32,123,36,97,91,98,97,100,32]++wd b++[93,32,91,100,101,97,114,93,36,98,125],[tw [115,117,98,115,116],tw ([36,97,91,98,97,100,32]++wd b++[93,32,91,100,101,97,114,93,36,98])])]
 | 7,j,_=>[([112,32]++wd j,[tw [112],tw (wd j)])]
 | 8,b,_=>[([98,97,100,32]++wd b,[tw [98,97,100],tw (wd b)])]
 | 9,_,_=>[([100,101,97,114],[tw [100,101,97,114]])]
 | 10,j,_=>[([108,109,97,112,32,123,118,32,119,125,32,123,49,32,50,32,51,125,32,36,116]++wd j,[tw [108,109,97,112],tw [118,32,119],tw [49,32,50,32,51],[.var (116::wd j)]])]
 | 11,j,_=>[([101,118,97,108,32,123,115,97,121,32,113,59,125,32,36,115]++wd j,[tw [101,118,97,108],tw [115,97,121,32,113,59],[.var (115::wd j)]])]
 | 12,_,_=>[([122,122,32,113],[tw [122,122],tw [113]])]
 | 13,_,_=>[([112,117,116,32,110,32,50,59],[tw [112,117,116],tw [110],tw [50]]),([115,97,121,32,36,110],[tw [115,97,121],[.var [110]]])]
 | 14,_,_=>[([99,111,110,116,105,110,117,101],[tw [99,111,110,116,105,110,117,101]])]
 | 15,j,o=>[([99,97,116,99,104,32,123,101,118,97,108,32,36,115]++wd j++[59,112,32]++wd o++[125],[tw [99,97,116,99,104],tw ([101,118,97,108,32,36,115]++wd j++[59,112,32]++wd o)])]
 | 16,_,_=>[([115,97,121,32,36,118],[tw [115,97,121],[.var [118]]])]
 | 17,_,_=>[([112,117,116,32,98,32,36,98,91,115,97,121,32,107,93],[tw [112,117,116],tw [98],[.var [98],.cmd [115,97,121,32,107]]])]
 | 18,_,_=>[([98,114,101,97,107],[tw [98,114,101,97,107]])]
 | _,_,_=>[([112,117,116,32,110,32,50],[tw [112,117,116],tw [110],tw [50]])]
abbrev Cm:=Nat×Nat×Nat
def cmQ(c:Cm):List (LN×List (List Part)):=cmP c.1 c.2.1 c.2.2
def gQ(c:Cm):LN:=((cmQ c).map (·.1)).flatten
noncomputable def jsL(k:Nat):LN:=(List.range (3-k)).map (k+1 + ·)
def jX(k:Nat):List Cm :=
 if k<3 then [0,9,12,13,14].map (λi=>(i,0,0))++([1,2,3,4,5,7,10,11].map λi=>(jsL k).map λj=>(i,j,0)).flatten++([6,8].map λi=>(List.range 6).map λb=>(i,b,0)).flatten++((jsL k).map λj=>(jsL k).map λo=>(15,j,o)).flatten
 else [0,9,12,16,17,18,19].map (λi=>(i,0,0))++(List.range 6).map λb=>(8,b,0)
noncomputable def Part.code:Part->Nat×LN
 | .text l=>(0,l)
 | .var l=>(1,l)
 | .cmd l=>(2,l)
theorem Part.code_inj{a b:Part}(h:a.code=b.code):a=b:=by
 cases a <;> cases b <;> first | (cases h; rfl) | cases h
noncomputable instance:DecidableEq Part:=λa b=>decidable_of_iff (a.code=b.code) #[Part.code_inj,λh=>h▸rfl]
noncomputable def qd(k:Nat):LN:=[[59],[10],[32,59]][k%3]?.getD []
noncomputable def pW(k:Nat):LN:=[[],[],[35,32,99,10]][k%3]?.getD []
def mG(k:Nat)(a b c:Cm):LN:=gQ a++(qd k++pW k)++gQ b++(qd k++pW k)++gQ c
end
section
open Mo
variable {J:JE} {n0 g d m k:Nat} {s:cj} {run:bY}
structure TxF(t:LN):Prop where
 ok:tH (32::t)
 nb:¬mq t
 len:t.length<=300
 tr:uG t=true
end
section
open Mo
structure X4(tx:aX):Prop where
 all:∀ k,k<4->∃ a b c,a∈jX k/\b∈jX k/\c∈jX k/\tx[k]? = some (mG k a b c)
noncomputable def Ov(x y:LN):Vr:=#[x,y,1]
def st0(tx:aX)(first:LN):cj :=
 #[[Ov [97] [36,97],Ov [98] [91,113],Ov [110] first,Ov [118] [],Ov [115,49] (tx[1]?.getD []),Ov [116,49] (32::tx[1]?.getD []),Ov [115,50] (tx[2]?.getD []),Ov [116,50] (32::tx[2]?.getD []),Ov [115,51] (tx[3]?.getD []),Ov [116,51] (32::tx[3]?.getD [])],0,0,some [116,111,112],[],[]]
noncomputable def qH(D:bc)(ps:List Str):Bool:=D.scope.kind == .function && !D.scope.isCoroutine && !D.scope.isGenerator&&ps.all (λx=>D.scope.names.lookup x==some .local||D.scope.names.lookup x==some .cell)
end
section
open Mo
variable {T:Tp} {c:Cx} {X:Addr->Ψ} {U:Sg} {Q:V->Ψ}
structure Ra(D:bc)(ps:List Str)(b:PSs):Prop where
 plain:oN D ps
 scope:qH D ps=true
 nodup:ps.Nodup
 nd:(D.scope.names.map (·.1)).Nodup
 nb:∀ p∈D.scope.names,(p.1==("__debug__":Str))=false
 pre:(D.scope.names.map (·.1)).take ps.length=ps
 Dc:ak (dH D.scope b D.body)
end
section
open Mo
variable {T:Tp} {c:Cx} {X:Addr->Ψ} {U:Sg} {Q:V->Ψ} {n:Nat} {hd:Option Addr}
noncomputable abbrev iV(is:List Int):List V:=is.map .int
end
section
open Mo
structure ni(U0 U:Sg)(l:List (Addr×Cell)):Prop where
 fs:Facts U l
 nd:(l.map (·.1)).Nodup
 sub:aO U0 U
 no:∀ p∈l,U0 p.1=none
noncomputable def uN{α:Type}:Rs α->Bool
 | .out _=>true
 | _=>false
end
section
open Mo
variable {T:Tp} {c:Cx} {X:Addr->Ψ} {U:Sg} {Q:V->Ψ} {n N:Nat} {E:Hv} {H:HC} {w:Wo} {s:cj} {run:bY}
structure aby(f:Nat)(tx:aX)(first:LN)(r1 r2:Rs LN):Prop where
 run2:runM #[some f,tx] 14 (tx[0]?.getD []) (st0 tx first)=some r2
 log:(stOf r2).log=(stOf r1).log.filter λr=>decide (r.sp<=f)
 dep:(stOf r2).depth=0
 frm:(stOf r2).frame=some [116,111,112]
 sm:∀ e s',r2 = .dJ e s'->small e
 vb1:VB tx 200 (stOf r1).vars
 vb2:VB tx 200 (stOf r2).vars
 lg1:(stOf r1).log.length<=31
 lg2:(stOf r2).log.length<=31
 alt:(stOf r1).spent<=f/\r2=r1∨f<(stOf r1).spent/\uN r2=true/\(stOf r2).spent=f+1/\(∀ r∈(stOf r1).log,r.sp=f+1->(stOf r2).vars=r.vs)/\(stOf r2).rounds.length<=900
end
section
open Mo
noncomputable def fnL(K:Frag)(p:Addr×Str×bc×Option Addr):FuncData×Bool:=match K.lookup p.1 with
 | some #[_,_,.func fd,_]=>(fd,codeIn K fd.code p.2.1)
 | _=>(default,false)
noncomputable def fnR(K:Frag)(p:Addr×Str×bc×Option Addr):FuncData×Bool:=match K.lookup p.1 with
 | some #[_,_,.func fd,_]=>(fnOf p.2.2.1.name p.2.1 p.2.2.1.params p.2.2.1.body p.2.2.1.scope (match p.2.2.2 with | some t=>.ref t | none=>.none) fd.kwdefaults fd.doc fd.pyModule fd.annotations fd.code fd.closureTuple,true)
 | _=>(default,true)
noncomputable def glV:V->Value->Bool
 | .ref a,.ref b=>a==b
 | .typ n,.type m=>n==m
 | .bi n,.builtin m=>n==m
 | _,_=>false
def glL(K:Frag)(p:Str×V):Bool:=match nsIn K mainGlobals p.1 with
 | some (some y)=>glV p.2 y
 | some none=>(match bootBuiltins p.1 with | some y=>glV p.2 y | none=>false)&&p.1 != "__name__"
 | none=>false
noncomputable def NP(o:Obj):Option (List Value×Nat):=match o with
 | #[c,none,.seq xs n,#[[]]]=>if c == .type "tuple" then some (xs.toList,n)else none
 | _=>none
mutual
noncomputable def xO(K:Frag):V->Value->Bool
 | .none,.none=>true
 | .bool b,.bool d=>b==d
 | .int i,.int j _=>i==j
 | .str l,.str s _=>s==#[l.toArray]&&decide (l.length<=100)
 | .tup vs,.ref a=>(match K.lookup a with
  | some o=>(match NP o with | some (xs,_)=>xU K vs xs&&decide (vs.length<=100) | none=>false)
  | none=>false)
 | _,_=>false
noncomputable def xU(K:Frag):List V->List Value->Bool
 | [],[]=>true
 | v::vs,x::xs=>xO K v x&&xU K vs xs
 | _,_=>false
end
def Y9(K:Frag)(p:Addr×List V):Bool:=match K.lookup p.1 with
 | some o=>(match NP o with | some (xs,_)=>xU K p.2 xs | none=>false)
 | none=>false
def ZC(K:Frag)(p:Addr×Addr):Obj×Bool:=match K.lookup p.1 with
 | some #[c,dd,.cls cd,sl]=>(#[c,dd,.cls cd,sl],aM cd.mro.tail)
 | _=>(default,false)
noncomputable def aay(K:Frag)(p:Addr×Addr):Obj×Bool:=match K.lookup p.1 with
 | some #[_,dd,.cls cd,sl]=>(excClassObj cd.name cd.qualname p.1 cd.ns cd.bases cd.mro.tail cd.hasDict cd.slotNames cd.subclasses cd.abstract cd.collection dd (sl.toList[0]?.join) (sl.toList[1]?.join) (sl.toList[2]?.join) (sl.toList[3]?.join) (sl.toList[5]?.join) "Exception.__new__",true)
 | _=>(default,true)
noncomputable def TQ:List Addr:=[105,126]
structure Chk(K:Frag):Prop where
 fn:gh.map (fnL K)=gh.map (fnR K)
 gl:tE.all (glL K)=true
 df:qi.all (Y9 K)=true
 at_:vB.map (λp=>(plainGet K p.1 p.2,hasDictIn K p.1,findIn K (.ref p.1) p.2,takerIn K p.1 p.2,plainOver K p.1,findIn K (.ref p.1) "__setattr__"))=vB.map λ_=>(true,true,some none,some none,true,some (some (.builtin "object.__setattr__")))
 ex:Ed.map (λp=>(findIn K (.ref p.1) "__getattribute__",findIn K (.ref p.1) "__getattr__",mroIn K p.1 (.type "BaseException"),findIn K (.ref p.1) p.2,hasDictIn K p.1,takerIn K p.1 p.2,(clsIn K p.1).any (λcd=>aM cd.mro),findIn K (.ref p.1) "__setattr__")) =
  Ed.map λ_=>(some (some (.builtin "BaseException.__getattribute__")),some none,some true,some none,true,some none,true,some (some (.builtin "object.__setattr__")))
 me:Kv.map (λp=>(plainGet K p.1 p.2.1,findIn K (.ref p.1) p.2.1,isFn K (.ref p.2.2)))=Kv.map λp=>(true,some (some (.ref p.2.2)),true)
 ke:Em.map (λC=>keepIn K (.ref C))=Em.map λ_=>true
 is_:TQ.map (λC=>((clsIn K C).isSome,typeIn K (.ref C),subIn K (.type "str") (.ref C)))=TQ.map λ_=>(true,some (.type "type"),some false)
 mk_:xJ.map (λp=>(makesIn K p.1,findIn K (.ref p.1) "__init__",typeIn K (.ref p.2)))=xJ.map λp=>(true,some (some (.ref p.2)),some (.type "function"))
 xo:fO.map (ZC K)=fO.map (aay K)
 xn:fO.map (λp=>(findIn K (.ref p.1) "__init__",typeIn K (.ref p.2),specialIn K (.ref p.1) "__call__",instIn K (.ref p.1) (.type "type"),instIn K (.ref p.1) (.type "tuple"),mroIn K p.1 (.type "BaseException"),typeIn K (.ref p.1))) =
  fO.map λp=>(some (some (.ref p.2)),some (.type "function"),some (some (.builtin "type.__call__")),some true,some false,some true,some (.type "type"))
 xm:fO.map (λp=>fO.map λq=>exmOne K (.ref p.1) (.ref q.1))=fO.map λp=>fO.map λq=>some (p.1==q.1)
 ho:(readsIn K 593 (.type "type"),specialIn K (.ref 593) "__getattribute__",findCls K (.ref 593) (.type "type") "__init__")=(true,some (some (.builtin "type.__getattribute__")),some (.val (.ref 527)))
 la:nsIn K mainGlobals "law"=some (some (.ref 1019))
end
section
open Mo Lean Meta Elab Tactic
abbrev XE:=Lean.Expr
structure S1 where
 memo:Std.HashMap XE XE:={}
 ar:Std.HashMap Name Nat:={}
abbrev M1:=StateT S1 CoreM
structure ZSt where
 fresh:Nat:=0
 lvl:Array Nat:=([].toArray)
 lctx:LocalContext:={}
 memoMax:Std.HashMap XE (Option Nat):={}
 seen:Std.HashSet (XE×Nat):={}
 deps:Std.HashMap XE (Array Nat):={}
 flags:Std.HashMap Name (Array Bool):={}
 fflags:Std.HashMap FVarId (Array Bool):={}
 cand:Std.HashMap XE Bool:={}
 lets:Std.HashMap Nat (Array (XE×XE×Nat)):={}
 ids:Std.HashMap XE Nat:={}
 sub:Std.HashMap XE XE:={}
 hts:Std.HashMap XE Nat:={}
 ar:Nat:=0
abbrev ZM:=StateT ZSt MetaM
inductive ZT where
 | a (i:Nat)
 | c (k:Int)
 | add (x y:ZT)
 | sub (x y:ZT)
 | mul (k:Int) (x:ZT)
 | mulR (x:ZT) (k:Int)
 | neg (x:ZT)
noncomputable def at_:List Int->Nat->Int
 | [],_=>0
 | x::_,0=>x
 | _::r,i+1=>at_ r i
noncomputable def ZT.den(O:List Int):ZT->Int
 | .a i=>at_ O i
 | .c k=>k
 | .add x y=>x.den O+y.den O
 | .sub x y=>x.den O-y.den O
 | .mul k x=>k*x.den O
 | .mulR x k=>x.den O*k
 | .neg x => -x.den O
inductive All(O:List Int):List (Nat×ZT)->Prop where
 | nil:All O []
 | mk (m:Nat) (t:ZT) (fs:List (Nat×ZT)):0<=t.den O->All O fs->All O ((m,t)::fs)
structure Xq where
 co:Array Int
 k:Int
 mu:Array Nat
structure Om where
 atoms:Array XE:=([].toArray)
 facts:Array (XE×XE×Array Int×Int):=([].toArray)
 forks:Array (XE×XE):=([].toArray)
abbrev OM:=StateT Om MetaM
end
end
local macro_rules |`(tactic|show $n:num)=>stw `pS ([n.raw].toArray)
local macro_rules |`(tactic|exists $es,*)=>stw `pE es.elemsAndSeps
local macro_rules |`(tactic|have $d:letDecl)=>let p:=d.raw[0];if p[0].isOfKind `«term#[_,]» then stw `pW0 ([p[0],p[4]].toArray) else Lean.Macro.throwUnsupported
local macro_rules |`(tactic|change $e)=>stw `pW1 ([e.raw].toArray)
set_option maxHeartbeats 0
theorem ac10{K:Params->Frag}{e:∀ P,as=(K P).map (·.1)}(C:∀ P,Chk (K P)){d:DefRec}(hq:importsNone q=true)(hd:d.name="law"):WalkO q loose XP (kHook K as e).says PySem.Challenge.rw_oj0091_01.row.toRowW d [] λf vs=>call f vs:=by
 as_aux_lemma=>
run_tac(open Lean Elab Tactic Command Parser.Command in do
 let nd(k:SyntaxNodeKind)(as:List Syntax):Syntax:=.node .none k as.toArray
 let nul:=nd `null []
 let asCmd(m:Nat)(d:Syntax):Syntax:=
  let d:=d[0]
  let suf:=nd ``Parser.Termination.suffix [nul,nul]
  let val:=if d.isOfKind ``Parser.Term.letEqnsDecl then nd ``declValEqns [nd ``Parser.Term.matchAltsWhereDecls [d[3],suf,nul]] else nd ``declValSimple [mkAtom ":=",d[4],suf,nul]
  let did:=nd ``declId [d[0][0],nul]
  let body:=if m==0 then nd ``«theorem» [mkAtom "theorem",did,nd ``declSig [d[1],d[2][0]],val] else nd ``definition [mkAtom "def",did,nd ``optDeclSig [d[1],d[2]],val,nul]
  nd ``declaration [nd ``declModifiers [nul,nul,nul,nul,if m==1 then nd `null [nd ``«noncomputable» [mkAtom "noncomputable"]] else nul,nul,nul],body]
 let row(sc:List Command.Scope)(t:Syntax):CommandElabM Unit:=do
  let k:=t.getKind
  if k==``Parser.Tactic.tacticLet__ then elabCommand (asCmd 0 t[2])
  else if k==``Parser.Tactic.tacticHave__ then elabCommand (asCmd 1 t[2])
  else if k==``Parser.Tactic.tacticLetI__ then elabCommand (asCmd 2 t[2])
  else if k==``Parser.Tactic.letrec then
   let a:=t[2][0][0][1]
   let m:=if a.isNone then 0 else if a[0][1][0][1][0].getId==`inline then 2 else 1
   let cs:=(t[2][0].getArgs.toList.filter (!·.isAtom)).map λd=>asCmd m d[2]
   elabCommand (if cs.length==1 then cs[0]! else nd ``«mutual» [mkAtom "mutual",nd `null cs,mkAtom "end"])
  else if k==``Parser.Tactic.show then
   modify λs=>{ s with scopes:=sc }
   let e:=t[1]
   if e.isOfKind ``Parser.Term.forall then
    elabCommand (nd ``«variable» [mkAtom "variable",e[1]])
    unless e[4].isOfKind ``Parser.Term.hole do elabCommand (nd ``«include» [mkAtom "include",nd `null (if e[4].isIdent then [e[4]] else e[4][0]::e[4][1].getArgs.toList)])
 let ts:=((← getRef)[1][0][0][1][0][0][0].getSepArgs).toList.tail
 let g ← getMainGoal
 let e0 ← getEnv
 let cx ← readThe Core.Context
 liftCommandElabM do
  modify λs=>{ s with infoState.enabled:=false,scopes:=s.scopes.map λc=>{ c with currNamespace:=cx.currNamespace,openDecls:=cx.openDecls } }
  let sc:=(← get).scopes
  for t in ts.dropLast do
   row sc t
   if t.isOfKind ``Parser.Tactic.open then
    for u in t[3][0][0].getSepArgs do row sc u
    elabCommand (nd ``«open» [mkAtom "open",t[1]])
 let e1 ← getEnv
 let gs ← (e1.constants.foldStage2 (λs n c=>if e0.contains n || !c.hasValue (allowOpaque:=true) then s else n::s) []).mapM λn=>return(← Meta.mkFreshExprMVar (mkConst ``True) .syntheticOpaque n).mvarId!
 setGoals (g::gs)
 evalTactic ts.getLast!
 let mut e ← instantiateMVars (.mvar g)
 setEnv e0
 let some r ← Term.getDeclName? | return
 while e.isLet do
  if let .letE (.num m i) t v b _:=e then
   match e1.find? m with
   |some (.thmInfo x)=>addDecl (.thmDecl { x with name:=r.str s!"proof_{i}",type:=t,value:=v })
   |some (.defnInfo x)=>addDecl (.defnDecl { x with name:=r.str s!"aux_{i}",type:=t,value:=v })
   |_=>pure ()
   e:=b
  else break
 g.assign e
 setGoals [])
have aaw:=@wpAny_bind
have aax:=@wpAny_pure
have aaz:=@wpAny_mono
have aaA:=@decide_eq_false
have aaB:=@decide_eq_true
have aaC:=@Nat.le_trans
have aaD:=@of_decide_eq_true
have aaE:=@List.length_cons
have aaG:=@List.length_append
have aaQ:=@List.mem_of_getElem?
have aaX:=@Heap.get?_push_size
have aa1:=@List.getElem?_eq_getElem
have abt:=@Heap.get?_push_of_some
have abW:=@Nat.le_refl
have acM:=@sizeLine_eq
have acQ:=@List.suffix_refl
have acR:=@List.mem_cons
have acS:=@List.map_cons
have acT:=@List.length_nil
have acU:=@List.suffix_cons
have acV:=@Bool.and_eq_true
have acW:=@wpAny_holding
have acX:=@List.not_mem_nil
have acY:=@List.lookup_cons
have acZ:=@List.getElem?_map
have ac0:=@List.length_map
have ac4:=@List.all_eq_true
have adk:=@List.mem_singleton
have adl:=@Nat.ne_of_lt
have adm:=@List.nodup_cons
have ado:=@List.mem_append
have adp:=@Nat.le_succ
have adt:=@Nat.le_add_right
have adw:=@List.mem_map
have adB:=@Heap.lt_size
have adC:=@Bool.false_eq_true
have adD:=@Nat.zero_le
have adF:=@wpAny_standAt
have adG:=@List.zip_cons_cons
have adH:=@List.map_append
have adJ:=@List.cons_append
have adL:=@List.append_nil
have adM:=@List.getElem?_eq_none
have adR:=@Option.map_eq_some_iff
have adU:=@List.getElem?_eq_some_iff
have adW:=@List.mem_append_right
have adX:=@Nat.lt_succ_of_lt
have adY:=@Heap.get?_update_other
have adZ:=@beq_self_eq_true
have ad0:=@wpAny_field
have ad1:=@Heap.get?_update_self
have ad2:=@List.sum_cons
have ad3:=@List.mem_range
have ad4:=@List.mem_append_left
have ad5:=@List.append_assoc
have ad6:=@Nat.lt_succ_self
have ad7:=@Heap.size_push
let ad8{c:Prop}{h:Decidable c}(n:¬c){α:Sort u}{t e:α}:ite c t e=e:=if_neg n
let ad9{c:Prop}{h:Decidable c}(n:c){α:Sort u}{t e:α}:ite c t e=t:=if_pos n
open Lean Meta Elab Tactic in show _
letI pRc:Nat->Term->TacticM (TSyntax `rcasesPat)
 |0,_=>throwError ""
 |n+1,t=>match t with
  |`(#[$xs,*])=>do let ys<-xs.getElems.mapM (pRc n);`(rcasesPat|⟨$[$ys],*⟩)
  |`($i:ident)=>`(rcasesPat|$i:ident)
  |_=>`(rcasesPat|_)
letI Ξ:Name->Ident:=Lean.mkIdent
letI sArgs:TacticM Syntax:=return(← getRef)[1][0][0][1]
letI pE:TacticM Unit:=do
 let a:=(← sArgs).getSepArgs
 if a.size==1 then
  let e:Term:=⟨a[0]!⟩
  match e with
   |`($f $as*)=>evalTactic (← `(tactic|(refine $f $as* ?_)))
   |_=>evalTactic (← `(tactic|(refine $e ?_)))
 else
  let b:Ident:=⟨a.back!⟩
  let i:Term:=⟨a.pop.back!⟩
  let h:=if a.size==3 then Ξ `cu else Ξ `aG
  let as:TSyntaxArray `term:=a.pop.pop.map (⟨·⟩)
  evalTactic (← `(tactic|(refine ($h $as* ($(Ξ `fm) $i) rfl λ$(Ξ `F) $(Ξ `nd) $(Ξ `nb)=>?_).call;unfold $b:ident;show 7)))
letI pS:TacticM Unit:=do
 match (← sArgs)[0].isNatLit?.getD 0 with
 |0=>evalTactic (← `(tactic|dsimp only[List.map,List.replicate,List.append,HAppend.hAppend,Append.append]))
 |1=>evalTactic (← `(tactic|dsimp only))
 |2=>evalTactic (← `(tactic|split at $(Ξ `h):ident))
 |3=>evalTactic (← `(tactic|run_tac $(Ξ `bdM):term))
 |4=>evalTactic (← `(tactic|exact $(Ξ `h.elim)))
 |5=>evalTactic (← `(tactic|intro $(Ξ `r):ident $(Ξ `Q):ident $(Ξ `X):ident $(Ξ `hm):ident $(Ξ `he):ident))
 |6=>evalTactic (← `(tactic|run_tac $(Ξ `Yi):ident true))
 |7=>evalTactic (← `(tactic|((run_tac $(Ξ `Yi):ident); (repeat((first | with_reducible refine $(Ξ `len_str) ?_ | with_reducible refine $(Ξ `MK) ?_ | with_reducible refine $(Ξ `z9) ?_ | with_reducible refine $(Ξ `yd) ?_ | with_reducible refine $(Ξ `it0) ?_ | with_reducible refine $(Ξ `it1) ?_ | with_reducible refine $(Ξ `it2) ?_ | with_reducible refine $(Ξ `it3) ?_); (run_tac $(Ξ `Yi):ident))))))
 |8=>evalTactic (← `(tactic|run_tac $(Ξ `Yi):ident false true))
 |9=>evalTactic (← `(tactic|((run_tac $(Ξ `Yi):ident false false true); (repeat((first | with_reducible refine $(Ξ `len_str) ?_ | with_reducible refine $(Ξ `MK) ?_ | with_reducible refine $(Ξ `z9) ?_ | with_reducible refine $(Ξ `yd) ?_ | with_reducible refine $(Ξ `it0) ?_ | with_reducible refine $(Ξ `it1) ?_ | with_reducible refine $(Ξ `it2) ?_ | with_reducible refine $(Ξ `it3) ?_); (run_tac $(Ξ `Yi):ident false false true))))))
 |10=>evalTactic (← `(tactic|run_tac $(Ξ `Yi):ident false true true))
 |_=>evalTactic (← `(tactic|run_tac $(Ξ `Yi):ident))
letI pW0:TacticM Unit:=do
 let a ← sArgs
 let p ← pRc 9 ⟨a[0]⟩
 let e:Term:=⟨a[1]⟩
 evalTactic (← `(tactic|obtain $p:rcasesPat:=$e))
letI pW1:TacticM Unit:=do
 let e:Term:=⟨(← sArgs)[0]⟩
 match e with
  |`($f $as*)=>evalTactic (← `(tactic|(refine $f $as* ?_;show 7)))
  |_=>evalTactic (← `(tactic|(refine $e ?_;show 7)))
show _
let cC{a b:Nat}(h:Nat.ble a b=true:=by exact rfl):a<=b:=Nat.le_of_ble_eq_true h
let Le.refl(g):Le g g:=#[λ_ _ h=>h,λ_ _ h=>h,λ_ _ h=>h,λ_ _ d h=>#[d,h],λ_ _ h=>h]
let Le.trans(x:Le g g')(y:Le g' g''):Le g g'' :=
 #[λa o h=>y.imm a o (x.imm a o h),λa m h=>y.frame a m (x.frame a m h),λa e h=>y.tb a e (x.tb a e h),λa C d h=>let#[d',h']:=x.exc a C d h; y.exc a C d' h',λa o h=>y.own a o (x.own a o h)]
let Le.toL(L)(x:Le g g'):gU L g g':=#[x.imm,λa m _ h=>x.frame a m h,x.tb,x.exc,x.own]
let gU.trans(x:gU L g g')(y:gU L g' g''):gU L g g'' :=
 #[λa o h=>y.imm a o (x.imm a o h),λa m n h=>y.frame a m n (x.frame a m n h),λa e h=>y.tb a e (x.tb a e h),λa C d h=>let#[d',h']:=x.exc a C d h; y.exc a C d' h',λa o h=>y.own a o (x.own a o h)]
show ∀{g:G}{y:Value}{v:V}{vs:List V}{l:List Value},_
let Rep.uD(h:Rep g .none y):y = .none:=by cases h; rfl
let Rep.Cp(h:Rep g (.bool b) y):y = .bool b:=by cases h; rfl
let Rep.sr(h:Rep g (.int i) y):∃ t,y = .int i t:=by cases h; exact#[_,rfl]
let Rep.jw(h:Rep g (.str i) y):∃ t,y = .str #[i.toArray] t/\i.length<=sizeLine:=by cases h with | str _ t z=>exact#[_,rfl,z]
let Rep.zB(h:Rep g (.tup vs) y):∃ xs a n,y = .ref a/\g a = .imm (iK xs n)/\aV g vs xs/\vs.length<=sizeLine:=by cases h with | tup a b c=>exact#[_,_,_,rfl,a,b,c]
let Rep.Fo(h:Rep g (.ref a) y):y = .ref a:=by cases h; rfl
let Rep.aaN(h:Rep g (.typ n) y):y = .type n:=by cases h; rfl
let Rep.iBi(h:Rep g (.bi n) y):y = .builtin n:=by cases h; rfl
let Rep.acr(h:Rep g (.rng a b c) y):∃ r t u v,y = .ref r/\g r = .imm (WD a b c t u v):=by cases h with | rng k=>exact#[_,_,_,_,rfl,k]
let aV.Bh(h:aV g [] l):l=[]:=by cases h; rfl
let aV.pB(h:aV g (v::vs) l):∃ x xs,l=x::xs/\Rep g v x/\aV g vs xs:=by cases h with | cons a b=>exact#[_,_,rfl,a,b]
show _
let Rep.mono(k:∀ a o,g a = .imm o->g' a = .imm o)(h:Rep g v x):Rep g' v x :=
 Rep.rec .none .bool .int .str (λh _ z r=>.tup (k _ _ h) r z) .ref .typ .bi (λh=>.rng (k _ _ h)) .nil (λ_ _ a b=>.cons a b) h
let aV.mono(k:∀ a o,g a = .imm o->g' a = .imm o)(h:aV g vs xs):aV g' vs xs:=by
 induction vs generalizing xs with
 | nil=>rw[h.Bh]; exact .nil
 | cons v vs ih=>have#[_,_,rfl,a,b]:=h.pB; exact .cons (a.mono k) (ih b)
show ∀{g:G}{vs ws:List V}{xs ys:List Value},_
let aV.length(h:aV g vs xs):xs.length=vs.length:=by
 induction vs generalizing xs with
 | nil=>rw[h.Bh]; rfl
 | cons v vs ih=>have#[_,_,rfl,_,b]:=h.pB; exact congrArg (· + 1) (ih b)
let aV.append(h:aV g vs xs)(r:aV g ws ys):aV g (vs++ws) (xs++ys):=by
 induction vs generalizing xs with
 | nil=>rw[h.Bh]; exact r
 | cons v vs ih=>have#[_,_,rfl,a,b]:=h.pB; exact .cons a (ih b)
let aV.get(h:aV g vs xs){i:Nat}(e:vs[i]? = some v):∃ x,xs[i]? = some x/\Rep g v x:=by
 induction vs generalizing xs i with
 | nil=>cases e
 | cons u vs ih =>
  have#[x,_,rfl,a,b]:=h.pB
  cases i with
  | zero=>cases e; exact#[x,rfl,a]
  | succ i=>exact ih b e
let aV.drop(n)(h:aV g vs xs):aV g (vs.drop n) (xs.drop n):=by
 induction n generalizing vs xs with
 | zero=>exact h
 | succ n ih =>
  cases vs with
  | nil=>rw[h.Bh]; exact .nil
  | cons v vs=>have#[_,_,rfl,_,b]:=h.pB; exact ih b
let aV.take(n)(h:aV g vs xs):aV g (vs.take n) (xs.take n):=by
 induction n generalizing vs xs with
 | zero=>exact .nil
 | succ n ih =>
  cases vs with
  | nil=>rw[h.Bh]; exact .nil
  | cons v vs=>have#[_,_,rfl,a,b]:=h.pB; exact .cons a (ih b)
show _
let dR.mono(k:∀ a o,g a = .imm o->g' a = .imm o)(h:dR P g es ds):dR P g' es ds:=by
 induction h with
 | nil=>exact .nil
 | cons h _ ih=>exact .cons (h.mono k) ih
let iU.keep(L)(k:gU L g g')(ht:Tr g' a->Tr g a)(e:∀ o,h.get? a=some o->h'.get? a=some o)(x:iU P g h a c):iU P g' h' a c:=by
 cases c with
 | list vs=>have#[xs,n,h1,h2,h3]:=x; exact#[xs,n,e _ h1,h2.mono k.imm,h3]
 | dict es=>have#[ds,n,h1,h2,h3]:=x; exact#[ds,n,e _ h1,h2.mono k.imm,h3]
 | inst C d=>exact e _ x
 | exc C d =>
  have#[a0,tb,ctx,ca,su,me,h1,h2,h3]:=x
  refine#[a0,tb,ctx,ca,su,me,e _ h1,?_,?_]
  .rcases h2 with h2 | ⟨T,h2,h4⟩
   .exact .inl #[h2.1,λq=>h2.2 (ht q)]
   .exact .inr #[T,h2,k.tb _ _ h4]
  .rcases h3 with h3 | ⟨c,C',d',h3,h4,h5⟩
   .exact .inl h3
   .have#[d'',h6]:=k.exc _ _ _ h5; exact .inr #[c,C',d'',h3,h4,h6]
let cz.keep(L)(k:gU L g g')(ht:Tr g' a->Tr g a)(e:∀ o,h.get? a=some o->h'.get? a=some o)(x:cz P g h a s):cz P g' h' a s:=by
 cases s with
 | free=>trivial
 | imm o=>exact e _ x
 | cell c=>exact iU.keep L k ht e x
 | frame m=>have#[o,es,ep,ho,r]:=x; exact#[o,es,ep,e _ ho,r]
 | tb e'=>have#[#[o,ts,ho,r],q]:=x; exact#[#[o,ts,e _ ho,r],q]
 | own o=>exact e _ x
let cz.lt(x:cz P g h a s)(n:s ≠ .free):a<h.objs.size:=by
 cases s with
 | free=>exact absurd rfl n
 | imm o=>exact adB x
 | cell c=>cases c with
  | list vs=>have#[xs,n,h1,_]:=x; exact adB h1
  | dict es=>have#[xs,n,h1,_]:=x; exact adB h1
  | inst C d=>exact adB x
  | exc C d=>have#[a0,tb,ctx,ca,su,me,h1,_]:=x; exact adB h1
 | frame m=>have#[o,es,ep,ho,r]:=x; exact adB ho
 | tb e'=>have#[#[o,ts,ho,r],_]:=x; exact adB ho
 | own o=>exact adB x
let G.set_same(g:G)(a)(s):g.set a s a=s:=ad9 rfl
let G.aa(g:G)(s)(n:b≠a):g.set a s b=g b:=ad8 n
let Tr.set(n:∀ e,s ≠ .tb e)(h:Tr (g.set a s) b):Tr g b:=by
 have#[T,h]:=h
 by_cases e:T=a
 .subst e; rw[G.set_same]at h; exact absurd h (n b)
 .rw[G.aa _ _ e]at h; exact#[T,h]
let gf.fresh(x:gf P g h):g h.objs.size = .free:=by
 cases e:g h.objs.size with
 | free=>rfl
 | _=>have:=cz.lt (x h.objs.size) (by rw[e]; intro q; cases q); exact absurd this (Nat.lt_irrefl _)
let gf.Ke(x:gf P g h){a:Addr}(n:h.objs.size<=a):g a = .free:=by
 cases e:g a with
 | free=>rfl
 | _=>have:=cz.lt (x a) (by rw[e]; intro q; cases q); exact absurd this (Nat.not_lt.mpr n)
let Le.fill(e:g a = .free):Le g (g.set a s):=by
 have ne:∀ b,g b ≠ .free->b≠a:=λb n q=>n (q▸e)
 refine#[λb o q=>?_,λb o q=>?_,λb e' q=>?_,λb C d q=>#[d,?_],λb o q=>?_] <;> rw[G.aa _ _ (ne b (by rw[q]; intro z; cases z))] <;> exact q
let gf.adN(x:gf P g h){a:Addr}(n:h.objs.size<=a):¬ Tr g a:=λ#[T,q]=>by
 have q1:=x T
 rw[q]at q1
 have:=cz.lt q1 (by intro z; cases z)
 have:=q1.2
 exact absurd (Nat.lt_trans q1.2 (cz.lt q1 (by intro z; cases z))) (Nat.not_lt.mpr n)
let gf.push{h:Heap}(x:gf P g h)(q:cz P (g.set h.objs.size s) (h.push o) h.objs.size s)(n:∀ e,s ≠ .tb e:=by intro _ z; cases z):gf P (g.set h.objs.size s) (h.push o):=by
 intro b
 by_cases e:b=h.objs.size
 .subst e; rw[G.set_same]; exact q
 .rw[G.aa _ _ e]
  exact(x b).keep 0 ((Le.fill x.fresh).toL 0) (Tr.set n) λo' z=>abt o z
let gf.UW(x:gf P g h)(o:Obj):gf P g (h.push o):=λb =>
 (x b).keep 0 ((Le.refl g).toL 0) id λ_ z=>abt o z
let View.fill(v:View U g)(e:g a = .free):View U (g.set a s):=λb c q=>by
 have:=v b c q
 rw[G.aa _ _ (λz=>by rw[z,e]at this; cases this)]; exact this
let nF{α β:Type}{f g:α->Option β}:∀{l:List α},(∀ x∈l,f x=g x)->l.filterMap f=l.filterMap g
 | [],_=>rfl
 | a::l,h=>by rw[List.filterMap_cons,List.filterMap_cons,h a (.head _),nF λx hx=>h x (.tail _ hx)]
let lZ{α:Type}:∀(ps:List Str) (vs:List α),ps.length=vs.length->∀ n∈ps,((ps.zip vs).lookup n).isSome=true
 | p::ps,v::vs,hl,n,hn=>by
  simp only[adG,acY]
  cases h:n==p with
  | true=>rfl
  | false =>
   exists lZ ps vs (by simpa using hl) n
   rcases acR.mp hn with rfl | hn
   .simp at h
   .exact hn
let nJ{α:Type}:∀(ps:List Str) (vs:List α),ps.Nodup->ps.length=vs.length->ps.filterMap (λn=>((ps.zip vs).lookup n).map (n,·))=ps.zip vs
 | [],vs,_,_=>rfl
 | p::ps,v::vs,hn,hl=>by
   have hp:=(adm.mp hn).1
   simp only[adG]
   rw[List.filterMap_cons]
   simp only[acY,adZ,Option.map_some]
   congr 1
   refine Eq.trans (nF λn hnm=>?_) (nJ ps vs (adm.mp hn).2 (by simpa using hl))
   have:(n==p)=false:=by
    simp only[beq_eq_false_iff_ne,ne_eq]
    rintro rfl; exact hp hnm
   simp only[this]
let zP(h1:fd.params.posonlyargs=[])(h2:fd.params.vararg=none)(h3:fd.params.kwonlyargs=[])(h4:fd.params.kwarg=none)(h5:fd.params.args.map (·.arg)=ps)(hn:ps.Nodup)(hl:ps.length=vs.length)(hd:fd.defaults = .none):bindArgs fd #[vs,[]]=pure (ps.zip vs):=by
 have#[nm,qn,#[po,ar,va,ko,kd,ka,dl],bd,sc,gl,cl,df,kdf,dc,pm,an,cd,ct,bu]:=fd
 obtain rfl:po=[]:=h1
 obtain rfl:va=none:=h2
 obtain rfl:ko=[]:=h3
 obtain rfl:ka=none:=h4
 obtain rfl:df = .none:=hd
 obtain rfl:ar.map (·.arg)=ps:=h5
 have c1:¬ (decide (vs.length > (ar.map (·.arg)).length)&&(none:Option Arg).isNone)=true:=by rw[hl]; simp
 have c2:∀ k,¬ (!(List.filter (λn=>(List.lookup n ((ar.map (·.arg)).zip vs)).isNone) (List.take k (ar.map (·.arg)))).isEmpty)=true:=by
  intro k
  rw[show List.filter (λn=>(List.lookup n ((ar.map (·.arg)).zip vs)).isNone) (List.take k (ar.map (·.arg)))=[]from ?_]
  .exact Bool.false_ne_true
  rw[List.filter_eq_nil_iff]
  intro n hm
  rw[Option.isNone_iff_eq_none]
  intro z
  have:=lZ _ vs hl n (List.mem_of_mem_take hm)
  rw[z]at this
  cases this
 unfold bindArgs
 dsimp only[List.map_nil,List.nil_append,List.forIn_nil]
 refine(ad8 c1).trans ((ad8 (c2 _)).trans ?_)
 dsimp only[Option.getD]
 rw[List.drop_nil,List.zip_nil_right]
 show(pure (List.filterMap (λn=>(List.lookup n ((ar.map (·.arg)).zip vs)).map (n,·)) (ar.map (·.arg)++[])):Sem _)=_
 rw[adL,nJ _ _ hn hl]
have Vw:List Value:=[.type "Exception",.type "BaseException",.type "object"]
show ∀{prog:Program}{w:World}{A:Around}{E:Value->Shared->Prop}{R:Result->Shared->Prop}{h:Heap}{g:Array GenState}{d:Drawn}{t:Nat}{os:OsState}{nm q:Str}{C N:Addr}{bs bm:List Value}{hdct:Bool}{sn:List Str}{sub:List Value}{ab:Bool}{col:Option Bool}{dd:Option Addr}{k0 k1 k2 k3 k5:Option Value},_
let Bk(T:∀ X,bm.contains (.type X)=Vw.contains (.type X))(hC:h.get? C=some (excClassObj nm q C N bs bm hdct sn sub ab col dd k0 k1 k2 k3 k5 "Exception.__new__"))(hq:Q () #[h,g,d,t,os]):wpAny M A (checkBuiltinCall "Exception.__new__" #[.ref C::rest,[]]) Q E #[h,g,d,t,os]:=by
 have Fn:=PySem.F.excBase_Exception
 have hcont:(Value.ref C::bm).contains (.type "Exception")=true:=by rw[List.contains_cons,T,Bool.or_eq_true]; exact .inr rfl
 have hstar:=Fn.noStar
 simp only[checkBuiltinCall,Fn.newKind,Fn.newSplit,Fn.newRow]
 repeat(first | refine wpAny_loadPart_at hC ?_ | (refine wpAny_isSubtype_exc hC ?_; rw[hcont]) | refine wpAny_staticBase_exc hC ?_ | refine wpAny_madeBy_exc hC ?_ | simp only[bne_self_eq_false,adC,if_false] | wp_step)
 exact hq
let V8(T:∀ X,bm.contains (.type X)=Vw.contains (.type X))(hC:h.get? C=some (excClassObj nm q C N bs bm hdct sn sub ab col dd k0 k1 k2 k3 k5 "Exception.__new__"))(hq:R (.ok (.ret (.ref (h.objs.size+1)))) #[(h.push { cls:=.type "tuple",data:=.seq rest.toArray }).push
   { cls:=.ref C,data:=.fields ([.ref h.objs.size,.none,.none,.none,.bool false,.none].toArray) },g,d,t,os])(hrest:rest.length<=sizeLine:=by size_fits) :
  codeAny (model prog w) A (.builtin "Exception.__new__" #[.ref C::rest,[]]) R #[h,g,d,t,os]:=by
 have Fn:=PySem.F.excBase_Exception
 have hends:=Fn.ends
 have hcB:(Value.ref C::bm).contains (.type "Exception")=true:=by rw[List.contains_cons,T,Bool.or_eq_true]; exact .inr rfl
 have hcA:(Value.ref C::bm).contains (.type "AttributeError")=false:=by rw[List.contains_cons,T]; rfl
 have hcN:(Value.ref C::bm).contains (.type "NameError")=false:=by rw[List.contains_cons,T]; rfl
 exists codeAny_builtinAt Fn.entry
 unfold Builtin.«BaseException.__new__»
 exists PySem.wpAt_bind
 refine PySem.wpAt_bind (PySem.wpAt_stack λp below=>PySem.wpAt_of_wpAny ?_)
 wp_walk
 exists PySem.wpAt_of_wpAny
 rw[Fn.owner]
 repeat(first | with_reducible refine wpAny_madeHere_exc Fn.canon hC ?_ | with_reducible refine wpAny_loadPart_at hC ?_ | (with_reducible refine wpAny_isSubtype_exc hC ?_; first | rw[hcB] | rw[hcA] | rw[hcN]) | wp_step)
 rw[ad7]
 exact hq
let Bm(T:∀ X,bm.contains (.type X)=Vw.contains (.type X))(hC:h.get? C=some (excClassObj nm q C N bs bm hdct sn sub ab col dd k0 k1 k2 k3 k5 "Exception.__new__"))(hi:Looks (model prog w) h (typeLookup (.ref C) "__init__") (some init))(hb:∀ self,Looks (model prog w) h (bindSpecial init self) (init,[self]))(hq:wpAny (model prog w) A (call init (.ref (h.objs.size+1)::rest)) (λr s'=>r = .none/\Q (.done (.ret (.ref (h.objs.size+1)))) s') E
   #[(h.push { cls:=.type "tuple",data:=.seq rest.toArray }).push { cls:=.ref C,data:=.fields ([.ref h.objs.size,.none,.none,.none,.bool false,.none].toArray) },g,d,t,os])(hrest:rest.length<=sizeLine:=by size_fits) :
  wpAny (model prog w) A (Builtin.«type.__call__» #[.ref C::rest,[]]) Q E #[h,g,d,t,os]:=by
 have Fn:=PySem.F.excBase_Exception
 repeat(first | with_reducible refine wpAny_loadPart_at hC ?_ | with_reducible refine wpAny_madeBy_exc hC ?_ | wp_step)
 refine codeAny_call_builtin_code (Code.quiet_builtin _ Fn.quiet) (Bk T hC ?_)
 refine V8 T hC ?_ hrest
 have hC1:=abt { cls:=.ref C,data:=.fields ([.ref h.objs.size,.none,.none,.none,.bool false,.none].toArray) }
  (abt { cls:=.type "tuple",data:=.seq rest.toArray } hC)
 have hget:((h.push { cls:=.type "tuple",data:=.seq rest.toArray }).push
   { cls:=.ref C,data:=.fields ([.ref h.objs.size,.none,.none,.none,.bool false,.none].toArray) }).get? (h.objs.size+1)=some
   { cls:=.ref C,data:=.fields ([.ref h.objs.size,.none,.none,.none,.bool false,.none].toArray) }:=by heap_get
 have hcC:(Value.ref C::bm).contains (.ref C)=true:=by simp
 have k:∀ b o,h.get? b=some o->((h.push { cls:=.type "tuple",data:=.seq rest.toArray }).push { cls:=.ref C,data:=.fields ([.ref h.objs.size,.none,.none,.none,.bool false,.none].toArray) }).get? b=some o :=
  λb o e=>abt _ (abt _ e)
 unfold isInstance
 repeat(first | with_reducible refine wpAny_loadPart_at hget ?_ | (with_reducible refine wpAny_isSubtype_exc hC1 ?_; rw[hcC]) | wp_step)
 refine(hi.keeps k).here ?_
 refine acW (aaw ((hb _).keeps k |>.here ?_))
 refine aaw (aaz hq (λr s' hr=>?_) λ_ _ x=>x)
 have#[rfl,hQ]:=hr
 wp_walk
 exact hQ
let Rb(T:∀ X,bm.contains (.type X)=Vw.contains (.type X))(hC:h.get? C=some (excClassObj nm q C N bs bm hdct sn sub ab col dd k0 k1 k2 k3 k5 "Exception.__new__"))(hi:Looks (model prog w) h (typeLookup (.ref C) "__init__") (some init))(hb:∀ self,Looks (model prog w) h (bindSpecial init self) (init,[self]))(hq:wpAny (model prog w) (A.under (.builtin "type.__call__" #[.ref C::rest,[]])) (call init (.ref (h.objs.size+1)::rest)) (λr s'=>r = .none/\Q (.ref (h.objs.size+1)) s') E
   #[(h.push { cls:=.type "tuple",data:=.seq rest.toArray }).push { cls:=.ref C,data:=.fields ([.ref h.objs.size,.none,.none,.none,.bool false,.none].toArray) },g,d,t,os])(hrest:rest.length<=sizeLine:=by size_fits) :
  wpAny (model prog w) A (call (.ref C) rest) Q E #[h,g,d,t,os]:=by
 have f1:=tc_lookup
 have f2:=tc_bind (.ref C)
 have hT:(#[h,g,d,t,os]:Shared).TypeIs (.ref C) "type":=#[_,hC,rfl]
 refine wpAny_call (codeAny_of_tree ?_)
 repeat(any_goals (first | assumption | with_reducible refine wpAny_loadPart_at hC ?_ | wp_step))
 refine#[rfl,?_]
 refine codeAny_call_builtin_at (Code.quiet_builtin _ ⋯) entry_typeCall (wpAny_check_type_call_sub hC (Bm T hC hi hb ?_))
 exact hq
show _
let gf.sameBut(x:gf P g h)(hs:Heap.SameBut a h h')(L)(k:gU L g (g.set a s'))(q:cz P (g.set a s') h' a s')(n:∀ e,s' ≠ .tb e:=by intro _ z; cases z):gf P (g.set a s') h':=by
 intro b
 by_cases e:b=a
 .subst e; rw[G.set_same]; exact q
 .rw[G.aa _ _ e]
  exact(x b).keep L k (Tr.set n) λo z=>(hs.2 b e).trans z
let gf.yE(x:gf P g h)(hs:Heap.SameBut a h h')(q:cz P g h' a (g a)):gf P g h':=by
 intro b
 by_cases e:b=a
 .subst e; exact q
 .exact(x b).keep 0 ((Le.refl g).toL 0) id λo z=>(hs.2 b e).trans z
let gf.Ph(x:gf P g h)(hs:Heap.SlotsOnly S h h')(hf:∀ a∈S,∃ m,g a = .frame m):gf P g h':=by
 intro b
 by_cases e:b∈S
 .have#[m,hm]:=hf b e
  have:=x b
  rw[hm]at this ⊢
  have#[o,es,ep,ho,hd,r]:=this
  have#[sl,h2]:=hs.2.2 b o ho
  exact#[_,es,ep,h2,hd,r]
 .exact(x b).keep 0 ((Le.refl g).toL 0) id λo z=>(hs.2.1 b e).trans z
let gU.turn(L)(e:g a = .cell c)(hx:∀ C d,c = .exc C d->∃ d',c' = .exc C d'):gU L g (g.set a (.cell c')):=by
 have ne:∀ b,(∀ c,g b ≠ .cell c)->b≠a:=λb n q=>n c (q▸e)
 refine#[λb o q=>?_,λb o _ q=>?_,λb e' q=>?_,λb C d q=>?_,λb o q=>?_]
 .rw[G.aa _ _ (ne b (by rw[q]; intro z y; cases y))]; exact q
 .rw[G.aa _ _ (ne b (by rw[q]; intro z y; cases y))]; exact q
 .rw[G.aa _ _ (ne b (by rw[q]; intro z y; cases y))]; exact q
 .by_cases z:b=a
  .subst z
   rw[e]at q
   injection q with q
   have#[d',h]:=hx C d q
   exact#[d',by rw[G.set_same,h]]
  .exact#[d,by rw[G.aa _ _ z]; exact q]
 .rw[G.aa _ _ (ne b (by rw[q]; intro z y; cases y))]; exact q
let gU.toLe(k:gU L g g')(h:∀ m,g L ≠ .frame m):Le g g' :=
 #[k.imm,λa m q=>k.frame a m (λz=>h m (z▸q)) q,k.tb,k.exc,k.own]
let Le.turn(e:g a = .cell c)(hx:∀ C d,c = .exc C d->∃ d',c' = .exc C d'):Le g (g.set a (.cell c')) :=
 (gU.turn a e hx).toLe λm q=>by rw[e]at q; cases q
show ∀{prog:Program}{w:World}{s0:Shared},_
let Si.at(x:Si w s0 g s)(k' : ∀ a o,g a = .imm o->g' a = .imm o)(y:gf w.params g' h'):Si w s0 g' { s with heap:=h',toks:=k } :=
 #[y,λa o e=>k' a o (x.base a o e),x.gens,x.os]
let Si.tok(x:Si w s0 g s):Si w s0 g { s with toks:=k }:=#[x.ok,x.base,x.gens,x.os]
let Si.base'(x:Si w s0 g s)(a)(o)(e:s0.heap.get? a=some o):s.heap.get? a=some o:=by
 have:=x.ok a
 rw[x.base a o e]at this
 exact this
let Si.K{K:Frag}(x:Si w s0 g s)(X:K.In s0.heap):K.In s.heap:=X.keeps x.base'
show _
let DW.le(x:DW g l)(k:gU L g g')(hL:∀ m,g L = .frame m->∃ m',g' L = .frame m'):DW g' l:=λenv he=>by
 have#[h1,L',m,h2,h3]:=x env he
 refine#[h1,L',?_]
 by_cases q:L'=L
 .subst q; have#[m',h4]:=hL m h3; exact#[m',h2,h4]
 .exact#[m,h2,k.frame _ _ q h3]
let qM.leL(x:qM A c g l)(k:gU L g g')(hL:∀ m,g L = .frame m->∃ m',g' L = .frame m'):qM A c g' l :=
 #[x.depth,x.units,x.hand,λe h=>let#[C,d,q]:=x.hexc e h; let#[d',q']:=k.exc _ _ _ q; #[C,d',q'],x.frames,x.fr.le k hL]
let qM.le(x:qM A c g l)(k:Le g g'):qM A c g' l :=
 x.leL (k.toL 0) λm q=>#[m,k.frame _ _ q]
let DW.fun:∀{l:List Env},DW g l->gf P g h->h.FunFrames {} l
 | [],_,_=>trivial
 | env::l,x,y=>by
  have#[h1,L,m,h2,h3]:=x env (.head _)
  have q:=y L
  rw[h3]at q
  have#[o,es,ep,ho,hd,_]:=q
  exact#[h1,#[L,o,h2,by simp[Heap.get?],ho,λvs z=>by rw[hd]at z; cases z],DW.fun (λe he=>x e (.tail _ he)) y]
let DW.addrs(x:DW g l):∀ a∈l.filterMap (·.frame),∃ m,g a = .frame m:=λa ha=>by
 have#[env,he,hf]:=List.mem_filterMap.mp ha
 have#[_,L,m,h2,h3]:=x env he
 rw[h2]at hf; cases hf; exact#[m,h3]
let bG.refl(g):bG g g:=#[Le.refl g,λ_ _ h=>h]
let bG.trans(x:bG g g')(y:bG g' g''):bG g g'':=#[x.toLe.trans y.toLe,λa c h=>y.cell a c (x.cell a c h)]
let bG.view(x:bG g g')(v:View U g):View U g':=λa c h=>x.cell a c (v a c h)
let bG.fill(e:g a = .free):bG g (g.set a s):=#[Le.fill e,λb c q=>by rw[G.aa _ _ (λz=>by rw[z,e]at q; cases q)]; exact q]
have Trc(h:Heap)(e:Addr):Prop:=∃ o vs T,h.get? e=some o/\o.data = .fields vs/\vs[1]? = some (.ref T)
show ∀{prog:Program}{w:World}{s0:Shared}{A:Around}{E:Value->Shared->Prop}{s:Shared}{g:G}{c:Cx}{l:List Env}{env:Env}{L e:Addr}{C:Addr}{d:Option Addr},_
let gf.Ym(x:gf P g h)(hT:g T = .tb e)(ho:h.get? T=some o)(hd:o.data = .fields ts)(f:Array Value->Array Value)(hf:(f ts).size=ts.size) :
  gf P g (h.update T (Obj.mapFields f)):=by
 exists x.yE (Heap.SameBut.update ..)
 have q:=x T
 rw[hT]at q ⊢
 have#[#[o',ts',ho',hd',hz],hlt]:=q
 rw[ho]at ho'; cases ho'
 rw[hd]at hd'; cases hd'
 have e1:=PySem.Obj.data_mapFields hd f
 exact#[#[_,_,ad1 _ ho (PySem.Obj.isFreed_of_fields e1),e1,by rw[hf]; exact hz],hlt]
let rI(hs:Si w s0 g s)(hA:qM A c g (env::l))(hf:env.frame=some L)(he:g e = .cell (.exc C d))(h:∀ g' s',bG g g'->Si w s0 g' s'->Tr g' e->Q () s'):wpAny (model prog w) A (noteFrame (.ref e) env) Q E s:=by
 have hce:=hs.ok e
 rw[he]at hce
 have#[a0,tb,ctx,ca,su,me,ho,htb,hctx]:=hce
 have fin:∀(wy:Shared) (head:Value) (b:Bool) (a0 tb ctx ca su me:Value),Si w s0 g wy->wy.heap.get? e=some (Gg C d a0 tb ctx ca su me)->(ctx = .none∨∃ c C' d',ctx = .ref c/\c<e/\g c = .cell (.exc C' d')) ->
   wpAny (model prog w) A (do let a ← frameOf env; let pl ← entryPlaceOf L b; let t ← EntryCells.newEntry head a .none (rawInt L) .none pl; setField (.ref e) 1 t) Q E wy:=by
  intro wy head b a0 tb ctx ca su me vi ve hctx1
  refine aaw (wpAny_frameOf_fun hA.frames (hA.fr.fun vi.ok) hf λvm hso=>?_)
  have ok1:=vi.ok.Ph hso hA.fr.addrs
  have vg:=(hso.2.1 e λq=>by
   have#[m,hm]:=hA.fr.addrs e q
   rw[he]at hm; cases hm).trans ve
  refine aaw (wpAny_entryPlaceOf λpl hpl=>?_)
  unfold EntryCells.newEntry newFields
  refine aaw (wpAny_newObj_type ?_ (hpl.sizeOk5 _ _ _ _ _))
  have fr:=ok1.fresh
  let tob:Obj:={ cls:=.type "traceback",data:=.fields ([head,.ref L,.none,rawInt L,.none]++(if pl.isEmpty then List.replicate 6 Value.none else pl)).toArray }
  have vh:=abt tob vg
  exists wpAny_setField vh rfl (by simp)
  have hlt:=adB vg
  have sm:bG g (g.set vm.objs.size (.tb e)):=bG.fill fr
  refine h (g.set vm.objs.size (.tb e)) _ sm (show Si w s0 (g.set vm.objs.size (.tb e)) { wy with heap:=_,toks:=wy.toks }from Si.at vi sm.imm ?_) #[_,G.set_same ..]
  intro b
  by_cases eb:b=vm.objs.size
  .subst eb
   rw[G.set_same]
   exact#[#[_,_,(adY _ _ (adl hlt)).trans (aaX _ rfl),rfl,by simp],hlt]
  .by_cases eq:b=e
   .subst eq
    rw[sm.cell _ _ he]
    refine#[a0,.ref vm.objs.size,ctx,ca,su,me,ad1 _ vh rfl,.inr #[_,rfl,G.set_same ..],?_]
    rcases hctx1 with q | ⟨c',C',d',q1,q2,q3⟩
    .exact .inl q
    .exact .inr #[c',C',d',q1,q2,sm.cell _ _ q3]
   .rw[G.aa _ _ eb]
    refine(ok1 b).keep 0 (sm.toLe.toL 0) (λ#[T,q]=>?_) λo z=>(adY _ _ (Ne.symm eq)).trans (abt _ z)
    by_cases eT:T=vm.objs.size
    .subst eT; rw[G.set_same]at q; cases q; exact absurd rfl eq
    .rw[G.aa _ _ eT]at q; exact#[T,q]
 unfold noteFrame
 simp only[hf]
 refine aaw (ad0 ho rfl (x:=tb) rfl ?_)
 rcases htb with⟨rfl,_⟩ | ⟨T,rfl,hT⟩
 .rw[ad8 ⋯]
  exact fin s .none false _ _ _ _ _ _ hs ho hctx
 .rw[ad9 (show(Value.ref T != Value.none)=true from by simp)]
  have hTok:=hs.ok T
  rw[hT]at hTok
  have#[#[oT,ts,hoT,hdT,hz],hlt]:=hTok
  obtain⟨x3,hx3⟩:∃ x,ts[3]? = some x:=#[ts[3],Array.getElem?_eq_getElem ∎]
  refine aaw (ad0 hoT hdT hx3 ?_)
  by_cases q:(x3==rawInt L)=true
  .rw[ad9 q]
   exact aax (h g s (bG.refl g) hs #[T,hT])
  .rw[ad8 q]
   refine aaw (wpAny_setField hoT hdT ∎ ?_)
   have hne:e≠T:=λz=>by rw[z,hT]at he; cases he
   exact fin _ (.ref T) true _ _ _ _ _ _ (Si.at hs (λ_ _ x=>x) (hs.ok.Ym hT hoT hdT _ (by simp))) ((adY _ _ (Ne.symm hne)).trans ho) hctx
let bH(hs:Si w s0 g s)(he:g e = .cell (.exc C d))(h:∀ s',Si w s0 g s'->Q () s'):wpAny (model prog w) A (setFlight (.ref e) f) Q E s:=by
 have hce:=hs.ok e
 rw[he]at hce
 have#[a0,tb,ctx,ca,su,me,ho,htb,hctx]:=hce
 unfold setFlight
 refine aaw (ad0 ho rfl (x:=tb) rfl ?_)
 rcases htb with⟨rfl,_⟩ | ⟨T,rfl,hT⟩
 .rw[ad8 ⋯]
  exact aax (h s hs)
 .rw[ad9 (show(Value.ref T != Value.none)=true from by simp)]
  have hTok:=hs.ok T
  rw[hT]at hTok
  have#[#[oT,ts,hoT,hdT,hz],hlt]:=hTok
  exists wpAny_setField hoT hdT ∎
  have hne:e≠T:=λz=>by rw[z,hT]at he; cases he
  exact h _ (Si.at hs (λ_ _ x=>x) (hs.ok.Ym hT hoT hdT _ (by simp)))
let pL(hs:Si w s0 g s)(hA:qM A c g (env::l))(hf:env.frame=some L)(he:g e = .cell (.exc C d))(h:∀ g' s',bG g g'->Si w s0 g' s'->Q () s'):wpAny (model prog w) A (leaving env (.ref e)) Q E s:=by
 unfold leaving
 refine aaw (rI hs hA hf he λg' s' sm hs' _=>bH hs' (sm.cell _ _ he) λs'' hs''=>h g' s'' sm hs'')
let gf.trc(x:gf P g h)(he:g e = .cell (.exc C d))(ht:Tr g e):Trc h e:=by
 have q:=x e
 rw[he]at q
 have#[a0,tb,ctx,ca,su,me,ho,htb,hctx]:=q
 rcases htb with⟨_,n⟩ | ⟨T,rfl,hT⟩
 .exact absurd ht n
 .exact#[_,_,T,ho,rfl,rfl]
let rT{Q:α->Shared->Prop}(hs:Si w s0 g s)(he:g e = .cell (.exc C d))(ht:Tr g e)(h:∀ s',Si w s0 g s'->E (.ref e) s'):wpAny (model prog w) A (PySem.passOn what (.ref e) env:Sem α) Q E s:=by
 unfold PySem.passOn
 have#[o,vs,T,h1,h2,h3]:=hs.ok.trc he ht
 refine aaw (ad0 h1 h2 h3 ?_)
 rw[ad8 (by simp)]
 exact aaw (bH hs he λs' hs'=>wpAny_throw (h s' hs'))
show _
let dq(x):∀ l:List (Str×α),l.lookup x=lk x l
 | []=>rfl
 | (y,v)::r=>by
  rw[acY,lk,dq x r]
  by_cases h:x=y
  .subst h; simp
  .have:(x==y)=false:=by simpa using h
   rw[this,ad8 h]
let jb(x)(v:α):∀ l:List (Str×α),lk x (up x v l)=some v
 | []=>by simp[up,lk]
 | (y,u)::r=>by
  by_cases h:x=y
  .subst h; simp[up,lk]
  .simp[up,lk,h,jb x v r]
let qJ(v:α)(n:x≠y):∀ l:List (Str×α),lk x (up y v l)=lk x l
 | []=>by simp[up,lk,n]
 | (z,u)::r=>by
  by_cases h:y=z
  .subst h; simp[up,lk,n]
  .by_cases q:x=z
   .subst q; simp[up,lk,h]
   .simp[up,lk,h,q,qJ v n r]
let tM.mono(k:∀ a o,g a = .imm o->g' a = .imm o)(x:tM g m mc):tM g' m mc:=λy v h=>let#[z,h1,h2]:=x y v h; #[z,h1,h2.mono k]
let tM.imp(x:tM g m f)(h:∀ x y,f x=some y->f' x=some y):tM g m f':=λy v e=>let#[z,h1,h2]:=x y v e; #[z,h _ _ h1,h2]
let tM.set(h:tM g m mc)(r:Rep g v y):tM g (up x v m) (λz=>if z=x then some y else mc z):=λz u e=>by
 by_cases q:z=x
 .subst q; rw[jb]at e; cases e; exact#[y,ad9 rfl,r]
 .rw[qJ _ q]at e
  have#[y',h1,h2]:=h z u e
  exact#[y',(ad8 q).trans h1,h2]
let Fc.iM(F:Fc)(k:∀ a o,g a = .imm o->g' a = .imm o)(x)(y)(h:F.see g mc x=some y):F.see g' mc x=some y:=by
 unfold Fc.see at *
 show 2
 .show 2
  .rename_i c _
   unfold CK at *
   show 2
   .rename_i o ho
    rw[k _ _ ho]; exact h
   .cases h
  .cases h
 .exact h
let Fc.Uj(F:Fc)(h:mc x=mc' x):F.see g mc x=F.see g mc' x:=by
 unfold Fc.see
 split
 .rfl
 .exact h
let Fc.DP(F:Fc)(h:lk x F.sc.names=some .local):F.see g mc x=mc x:=by
 unfold Fc.see
 rw[h]
let Fc.Ue(F:Fc)(h:∀ x∈F.sc.names,x.2 ≠ .cell):F.see g mc=mc:=by
 funext x
 unfold Fc.see
 split
 .rename_i e
  exfalso
  revert e h
  generalize F.sc.names=l
  intro h e
  induction l with
  | nil=>cases e
  | cons p l ih =>
   have#[y,k]:=p
   unfold lk at e
   split at e
   .cases e; exact h _ (.head _) rfl
   .exact ih (λx hx=>h x (.tail _ hx)) e
 .rfl
have PVs(T:Tp)(g:G)(Q:List V->Ψ)(v:List Value)(s':Shared):Prop:=∃ g' x U',Le g g'/\T.Si g' s'/\View U' g'/\aV g' x v/\Q x U'
have PB(T:Tp)(g:G)(Q:Bool->Ψ)(b:Bool)(s':Shared):Prop:=∃ g' U',Le g g'/\T.Si g' s'/\View U' g'/\Q b U'
let PV.le(k:Le g g'):PV T g' Q v s'->PV T g Q v s':=λ#[g2,x,U',h,r]=>#[g2,x,U',k.trans h,r]
let PVs.le(k:Le g g'):PVs T g' Q v s'->PVs T g Q v s':=λ#[g2,x,U',h,r]=>#[g2,x,U',k.trans h,r]
let PB.le(k:Le g g'):PB T g' Q v s'->PB T g Q v s':=λ#[g2,U',h,r]=>#[g2,U',k.trans h,r]
let PX.le(k:Le g g'):PX T g' X v s'->PX T g X v s':=λ#[g2,e,U',q,h,r]=>#[g2,e,U',q,k.trans h,r]
let Run.le{c:Cx}(R:Run T c F m U A L l g s)(k:Le g g')(si:T.Si g' s')(v:View U' g'):Run T c F m U' A L l g' s' :=
 #[v,si,R.aok.le k,let#[mc,h1,h2]:=R.fr; #[mc,k.frame _ _ h1,(h2.mono k.imm).imp (F.iM k.imm)],R.kind]
have aP(T:Tp)(c:Cx)(F:Fc)(m:Lm)(e:Expr)(Q:V->Ψ)(X:Addr->Ψ)(U:Sg):Prop :=
 ∀ A L l g s,Run T c F m U A L l g s->wpAny T.M A (eval e (F.env L)) (PV T g Q) (PX T g X) s
have ie(T:Tp)(c:Cx)(F:Fc)(m:Lm)(es:List Expr)(Q:List V->Ψ)(X:Addr->Ψ)(U:Sg):Prop :=
 ∀ pos A L l g s,Run T c F m U A L l g s->wpAny T.M A (spliced (backTo pos (starEach es (F.env L)))) (PVs T g Q) (PX T g X) s
have j4(T:Tp)(c:Cx)(F:Fc)(m:Lm)(e:Expr)(Q:Bool->Ψ)(X:Addr->Ψ)(U:Sg):Prop :=
 ∀ A L l g s,Run T c F m U A L l g s->wpAny T.M A (isTrue e (F.env L) (eval e (F.env L))) (PB T g Q) (PX T g X) s
let PV.here(si:T.Si g s)(vw:View U g)(r:Rep g x v)(q:Q x U):PV T g Q v s:=#[g,x,U,Le.refl g,si,vw,r,q]
let aP.bind(h:aP T c F m e Q X U)(R:Run T c F m U A L l g s)(k:∀ v s' g' x U',Le g g'->Run T c F m U' A L l g' s'->Rep g' x v->Q x U'->P v s') :
  wpAny T.M A (eval e (F.env L)) P (PX T g X) s :=
 aaz (h A L l g s R) (λv s' #[g',x,U',kk,si,vw,r,q]=>k v s' g' x U' kk (R.le kk si vw) r q) λ_ _ x=>x
let ie.bind(h:ie T c F m es Q X U)(R:Run T c F m U A L l g s)(k:∀ v s' g' x U',Le g g'->Run T c F m U' A L l g' s'->aV g' x v->Q x U'->P v s') :
  wpAny T.M A (spliced (backTo pos (starEach es (F.env L)))) P (PX T g X) s :=
 aaz (h pos A L l g s R) (λv s' #[g',x,U',kk,si,vw,r,q]=>k v s' g' x U' kk (R.le kk si vw) r q) λ_ _ x=>x
let Uw{P:α->Shared->Prop}(k:Le g g')(h:wpAny T.M A t P (PX T g' X) s):wpAny T.M A t P (PX T g X) s :=
 aaz h (λ_ _ x=>x) λ_ _ x=>x.le k
let XJ(k:Le g g')(h:wpAny T.M A t (PV T g' Q) (PX T g' X) s):wpAny T.M A t (PV T g Q) (PX T g X) s :=
 aaz h (λ_ _ x=>x.le k) λ_ _ x=>x.le k
show ∀{T:Tp}{c:Cx}{F:Fc}{m:Lm}{X:Addr->Ψ}{U:Sg},_
have eQ(T:Tp)(F:Fc)(m:Lm)(x:Str)(Q:V->Prop):Prop:=match lk x F.sc.names with
 | some .local=>(match lk x m with | some v=>Q v | none=>False)
 | some .cell=>(match lk x m with | some v=>Q v | none=>False)
 | some .globalImplicit=>(match gl x with | some v=>Q v | none=>False)
 | _=>False
let mW(h:eQ T F m x Q)(R:Run T c F m U A L l g s)(k:∀ v y,Rep g v y->Q v->P y s):wpAny T.M A (loadName (F.env L) x) P E s:=by
 unfold eQ at h
 have hlk:=dq x F.sc.names
 have#[mc,hL,hm]:=R.fr
 have hLs:=R.si.ok L
 rw[hL]at hLs
 show 2
 .rename_i hk
  show 2
  .rename_i v hv
   have#[y,h1,h2]:=hm _ _ hv
   rw[F.DP hk]at h1
   exact wpAny_loadName_local R.kind (hlk.trans hk) hLs h1 (k v y h2 h)
  .show 4
 .rename_i hk
  show 2
  .rename_i v hv
   have#[y,h1,h2]:=hm _ _ hv
   unfold Fc.see at h1
   rw[hk]at h1
   dsimp only at h1
   split at h1
   .rename_i cc hcc
    unfold CK at h1
    split at h1
    .rename_i o ho
     split at h1
     .rename_i vv hvv
      subst h1
      have:=R.si.ok cc
      rw[ho]at this
      exact wpAny_loadName_cell R.kind (hlk.trans hk) hcc #[o,this,hvv] (k v y h2 h)
     .cases h1
    .cases h1
   .cases h1
  .show 4
 .rename_i hk
  show 2
  .rename_i v hv
   have#[y,h1,h2]:=T.glok _ _ hv
   have gg:=T.g.keeps R.si.base'
   have gb:=T.b.keeps R.si.base'
   have:∀ Q',wpAny T.M A (loadGlobal (F.env L) x) Q' E s->wpAny T.M A (loadName (F.env L) x) Q' E s:=by
    intro Q' hq
    unfold loadName
    have e1:(F.env L).blockKind = .function:=by unfold Env.blockKind; rw[show(F.env L).scope.kind = .function from R.kind]; rfl
    have e2:(F.env L).kindOf x=some .globalImplicit:=hlk.trans hk
    rw[show(F.env L).scope.kind = .function from R.kind]
    simp only[ScopeKind.isAnnotationScope,Bool.false_and,adC,if_false,e1,e2]
    exact hq
   exists this _
   rcases h1 with h1 | ⟨h1,h3⟩
   .exact loadGlobal_global gg h1 (k v y (h2 g) h)
   .exact loadGlobal_builtin gg h1 gb h3 (k v y (h2 g) h)
  .show 4
 .show 4
let iu(hd:(x==("__debug__":Str))=false)(h:eQ T F m x (λv=>Q v U)):aP T c F m (.Name x pos) Q X U:=λA L l g s R =>
 wpAny_Name (mW h R λv y r q=>PV.here R.si R.view r q) hd
let Xh{k:Option Str}(h:Q .none U):aP T c F m (.Constant .none n pos) Q X U:=λA L l g s R =>
 wpAny_Constant_none (PV.here R.si R.view .none h)
let Wb(h:Q (.bool b) U):aP T c F m (.Constant (.bool b) n pos) Q X U:=λA L l g s R =>
 wpAny_Constant_bool (PV.here R.si R.view (.bool b) h)
let Yr(h:Q (.int i) U):aP T c F m (.Constant (.int i) n pos) Q X U:=λA L l g s R =>
 wpAny_Constant_int (PV.here R.si.tok R.view (.int i _) h)
let Z8(hz:x.length<=sizeLine)(h:Q (.str (Qq x)) U):aP T c F m (.Constant (.str x) n pos) Q X U:=λA L l g s R =>
 wpAny_Constant_str (PV.here R.si.tok R.view (.str (Qq x) _ hz) h)
show _
let mk_inj{a b:LN}(e:(#[a.toArray]:Str)=#[b.toArray]):a=b:=by
 injection e with e
 have:=congrArg Array.toList e
 simpa using this
let Mh(a b:LN):((#[a.toArray]:Str)==#[b.toArray])=decide (a=b):=by
 by_cases h:a=b
 .subst h; simp
 .rw[aaA h]
  exact beq_eq_false_iff_ne.mpr λe=>h (mk_inj e)
let f9(a:LN):Str.length #[a.toArray]=a.length:=by simp[Str.length]
let Ky(a b:LN):((#[a.toArray]:Str)++(#[b.toArray]:Str))=#[(a++b).toArray]:=by
 show Str.append _ _=_
 simp[Str.append]
let noPylong(h:0<j)(h2:j<2 ^ 60):Builtin.divisionGoesByPylong i j=false:=by
 have hj:(j.natAbs:Nat)<2 ^ 60:=∎
 have hl:=(Nat.log2_lt ∎).mpr hj
 have:¬ (300<(if(j==0)=true then 0 else j.natAbs.log2/30+1)):=by split <;> omega
 show(decide (300<(if(j==0)=true then 0 else j.natAbs.log2/30+1))&&_)=false
 rw[aaA this,Bool.false_and]
show ∀{T:Tp}{A:Around}{s:Shared}{g:G},_
let V7(ra:Rep g a av)(rb:Rep g b bv)(h:gJ op a b Q)(k:∀ v x (n:Nat),Rep g v x->Q v->P x { s with toks:=n }):wpAny T.M A (binaryOp op av bv) P E s:=by
 unfold gJ at h
 show 2
 .cases ra; cases rb; exact add_int (k _ _ _ (.int _ _) h)
 .cases ra; cases rb; exact sub_int (k _ _ _ (.int _ _) h)
 .cases ra; cases rb
  rename_i i j t u
  exists PyProof.Rows.mul_int (k _ _ _ (.int _ _) h.2)
  have hb:=intBits_le_64 (k:=i) (by have:=h.1; omega) (by have:=h.1; omega)
  unfold IntMulOk
  have:decide (Builtin.Int.intBits i > shortFactorBits)=false:=aaA (by unfold shortFactorBits; omega)
  rw[this]; simp
 .cases ra; cases rb
  rename_i i j t u
  refine floordiv_int ∎ ?_ (.inl (noPylong h.1.1 h.1.2))
  have:Int.fdiv i j=i/j:=Int.fdiv_eq_ediv_of_nonneg i ∎
  rw[this]; exact k _ _ _ (.int _ _) h.2
 .cases ra; cases rb
  rename_i i j t u
  exists mod_int' ∎
  have:Int.fmod i j=i%j:=Int.fmod_eq_emod_of_nonneg i ∎
  rw[this]; exact k _ _ _ (.int _ _) h.2
 .cases ra; cases rb
  rename_i a b t _ u _
  refine add_str (λt' n=>?_) (by rw[f9,f9]; exact h.1)
  rw[Ky]
  exact k _ _ _ (.str _ _ (by simpa using h.1)) h.2
 .show 4
let Im(hop:op = .Add∨op = .Sub)(ra:Rep g a av)(rb:Rep g b bv)(h:gJ op a b Q)(k:∀ v x (n:Nat),Rep g v x->Q v->P x { s with toks:=n }):wpAny T.M A (inplaceOp op av bv) P E s:=by
 unfold gJ at h
 show 2
 .cases ra; cases rb; exact iadd_int (k _ _ _ (.int _ _) h)
 .cases ra; cases rb; exact isub_int (k _ _ _ (.int _ _) h)
 .rcases hop with e | e <;> cases e
 .rcases hop with e | e <;> cases e
 .rcases hop with e | e <;> cases e
 .cases ra; cases rb
  rename_i a b t _ u _
  refine iadd_str (λt' n=>?_) (by rw[f9,f9]; exact h.1)
  rw[Ky]
  exact k _ _ _ (.str _ _ (by simpa using h.1)) h.2
 .show 4
let bQ(si:T.Si g s)(vw:View U g)(h:U a=some (.list vs)):∃ xs,s.heap.IsList a xs.toArray/\aV g vs xs/\vs.length<=sizeLine:=by
 have q:=si.ok a
 rw[vw a _ h]at q
 have#[xs,n,h1,h2,h3]:=q
 exact#[xs,#[_,h1,rfl,n,rfl],h2,h3]
let CG(si:T.Si g s)(h:Bf T a vs):∃ xs,s.heap.IsList a xs.toArray/\aV g vs xs/\vs.length<=sizeLine :=
 let#[xs,#[o,h1,h2,n,h3],h4,h5]:=h; #[xs,#[o,si.base' a o h1,h2,n,h3],h4 g,h5]
let bz(si:T.Si g s)(h:g a = .imm (iK xs n)):IsTup s.heap a xs.toArray:=by
 have q:=si.ok a
 rw[h]at q
 exact#[_,q,rfl,n,rfl]
let gG(h:n<=sizeLine):(n:Int)<2 ^ 63:=by
 rw[acM]at h; omega
let FT(si:T.Si g s)(vw:View U g)(r:Rep g v x)(h:fU v U Q)(k:∀ b (n:Nat),Q b->P b { s with toks:=n }):wpAny T.M A (truthy x) P E s:=by
 unfold fU at h
 show 2
 .cases r; exact truthy_none (k _ s.toks h)
 .cases r; exact wpAny_truthy_bool (k _ s.toks h)
 .cases r
  rename_i i t
  refine PySem.P.truthy_int (k _ s.toks ?_)
  have:(i != 0)=decide (i≠0):=by by_cases q:i=0 <;> simp[q]
  rw[this]; exact h
 .cases r
  rename_i l t z
  exists PySem.P.truthy_str (by rw[f9]; have:=gG z; omega)
  have:(((Str.length #[l.toArray]:Nat):Int) != 0)=decide (l≠[]):=by
   rw[f9]; cases l <;> simp
   omega
  rw[this]; exact k _ _ h
 .cases r
  rename_i vs xs a n h1 h2 h3
  exists truthy_tuple (bz si h1) (by have:=gG h3; have:=h2.length; simp; omega)
  have:(!(xs.toArray).isEmpty)=decide (vs≠[]):=by cases h2 <;> simp
  rw[this]; exact k _ _ h
 .show 2
  .rename_i vs hv
   cases r
   have#[xs,h1,h2,h3]:=bQ si vw hv
   exists wpAny_truthy_list h1 (by have:=gG h3; have:=h2.length; simp; omega)
   have:(!(xs.toArray).isEmpty)=decide (vs≠[]):=by cases h2 <;> simp
   rw[this]; exact k _ _ h
  .show 4
 .show 4
show ∀{T:Tp}{c:Cx}{F:Fc}{m:Lm}{X:Addr->Ψ}{U:Sg},_
let UG(h:aP T c F m l (λa xb=>aP T c F m r (λb xc=>gJ op a b (λv=>Q v xc)) X xb) X U):aP T c F m (.BinOp l op r pos) Q X U:=λA L l' g s R=>by
 refine wpAny_BinOp (h.bind R λa wy ut av xb vy ua wn vm=>Uw vy (vm.bind ua λb wz uu bv xc vz ub wp vn=>?_))
 exact V7 (wn.mono vz.imm) wp vn λv x n rr q=>#[uu,v,xc,vy.trans vz,ub.si.tok,ub.view,rr,q]
let Th(h:aP T c F m x (λa xb=>match a with | .int i=>Q (.int (-i)) xb | _=>False) X U):aP T c F m (.UnaryOp .USub x pos) Q X U:=λA L l' g s R=>by
 refine wpAny_UnaryOp (h.bind R λa wy ut av xb vy ua wn vm=>?_)
 cases wn <;> first | exact vm.elim | skip
 exact neg_int #[ut,_,xb,vy,ua.si.tok,ua.view,.int _ _,vm]
let Zq(h:aP T c F m x (λa xb=>fU a xb λb=>Q (.bool !b) xb) X U):aP T c F m (.UnaryOp .Not x pos) Q X U:=λA L l' g s R=>by
 refine wpAny_UnaryOp (h.bind R λa wy ut av xb vy ua wn vm=>not_value ?_)
 exact FT ua.si ua.view wn vm λb n q=>#[ut,_,xb,vy,ua.si.tok,ua.view,.bool _,q]
let j4.bind(h:j4 T c F m e Q X U)(R:Run T c F m U A L l g s)(k:∀ b s' g' U',Le g g'->Run T c F m U' A L l g' s'->Q b U'->P b s') :
  wpAny T.M A (isTrue e (F.env L) (eval e (F.env L))) P (PX T g X) s :=
 aaz (h A L l g s R) (λv s' #[g',U',kk,si,vw,q]=>k v s' g' U' kk (R.le kk si vw) q) λ_ _ x=>x
let Rp{Q:V->Ψ}(h:j4 T c F m t (λq xb=>if q=true then aP T c F m b Q X xb else aP T c F m o Q X xb) X U):aP T c F m (.IfExp t b o pos) Q X U:=λA L l' g s R=>by
 refine wpAny_IfExp (h.bind R λq wy ut xb vy ua vm=>?_)
 cases q
 .exact XJ vy (vm A L l' ut wy ua)
 .exact XJ vy (vm A L l' ut wy ua)
let S7(hp:Bu e=true)(h:aP T c F m e (λv xb=>fU v xb λb=>Q b xb) X U):j4 T c F m e Q X U:=λA L l' g s R=>by
 exists wpAny_isTrue_value (h.bind R λa wy ut av xb vy ua wn vm=>?_)
 .exact FT ua.si ua.view wn vm λb n q=>#[ut,xb,vy,ua.si.tok,ua.view,q]
 .cases e <;> first | rfl | (cases hp) | (rename_i op _ _; cases op <;> first | rfl | cases hp)
let aac{Q:Bool->Ψ}(h:j4 T c F m x (λb xb=>Q (!b) xb) X U):j4 T c F m (.UnaryOp .Not x pos) Q X U:=λA L l' g s R =>
 wpAny_isTrue_Not (h.bind R λb wy ut xb vy ua vm=>#[ut,xb,vy,ua.si,ua.view,vm])
have m9(T:Tp)(c:Cx)(F:Fc)(m:Lm)(op:BoolOp)(es:List Expr)(Q:Bool->Ψ)(X:Addr->Ψ)(U:Sg):Prop :=
 ∀ A L l g s,Run T c F m U A L l g s->wpAny T.M A (allTrue op es (F.env L)) (PB T g Q) (PX T g X) s
let all_nil(h:Q (op == .And) U):m9 T c F m op [] Q X U:=λA L l' g s R =>
 show wpAny T.M A (pure (op == .And)) _ _ s from aax #[g,U,Le.refl g,R.si,R.view,h]
let VH{Q:Bool->Ψ}(h:j4 T c F m e (λb xb=>if b=true then m9 T c F m .And es Q X xb else Q false xb) X U):m9 T c F m .And (e::es) Q X U:=λA L l' g s R=>by
 refine wpAny_allTrue_And_cons (h.bind R λb wy ut xb vy ua vm=>?_)
 cases b
 .exact#[ut,xb,vy,ua.si,ua.view,vm]
 .exact aaz (vm A L l' ut wy ua) (λ_ _ x=>x.le vy) λ_ _ x=>x.le vy
let Zo{Q:Bool->Ψ}(h:j4 T c F m e (λb xb=>if b=true then Q true xb else m9 T c F m .Or es Q X xb) X U):m9 T c F m .Or (e::es) Q X U:=λA L l' g s R=>by
 refine wpAny_allTrue_Or_cons (h.bind R λb wy ut xb vy ua vm=>?_)
 cases b
 .exact aaz (vm A L l' ut wy ua) (λ_ _ x=>x.le vy) λ_ _ x=>x.le vy
 .exact#[ut,xb,vy,ua.si,ua.view,vm]
let PL(h:m9 T c F m op es Q X U):j4 T c F m (.BoolOp op es pos) Q X U:=λA L l' g s R =>
 wpAny_isTrue_BoolOp (h A L l' g s R)
have zJ(T:Tp)(c:Cx)(F:Fc)(m:Lm)(op:BoolOp)(es:List Expr)(Q:V->Ψ)(X:Addr->Ψ)(U:Sg):Prop :=
 ∀ pos A L l g s,Run T c F m U A L l g s->wpAny T.M A (boolOp pos op (evalEach es (F.env L))) (PV T g Q) (PX T g X) s
let aaf(h:aP T c F m e Q X U):zJ T c F m op [e] Q X U:=λpos A L l' g s R =>
 show wpAny T.M A (eval e (F.env L)) _ _ s from h A L l' g s R
let Wq{Q:V->Ψ}(h:aP T c F m e (λv xb=>fU v xb λb=>if b=(op == .Or)then Q v xb else zJ T c F m op (e'::es) Q X xb) X U):zJ T c F m op (e::e'::es) Q X U:=λpos A L l' g s R=>by
 show wpAny T.M A (do
  let v ← eval e (F.env L)
  standAt pos
  let t ← holding [v] (truthy v)
  match op,t with
  | .And,false | .Or,true=>pure v
  | _,_=>boolOp pos op (evalEach (e'::es) (F.env L))) _ _ s
 refine aaw (h.bind R λa wy ut av xb vy ua wn vm=>aaw (adF (aaw (acW ?_))))
 refine FT ua.si ua.view wn vm λb n q=>?_
 cases op <;> cases b <;> simp at q
 .exact aax #[ut,_,xb,vy,ua.si.tok,ua.view,wn,q]
 .exact XJ vy (q pos A L l' ut _ #[ua.view,ua.si.tok,ua.aok,ua.fr,ua.kind])
 .exact XJ vy (q pos A L l' ut _ #[ua.view,ua.si.tok,ua.aok,ua.fr,ua.kind])
 .exact aax #[ut,_,xb,vy,ua.si.tok,ua.view,wn,q]
let OJ(h:zJ T c F m op es Q X U):aP T c F m (.BoolOp op es pos) Q X U:=λA L l' g s R=>h pos A L l' g s R
let Ls(h:Q [] U):ie T c F m [] Q X U:=λpos A L l' g s R=>wpAny_items_nil #[g,[],U,Le.refl g,R.si,R.view,.nil,h]
let zy(hs:noStar e=true)(h:aP T c F m e (λv xb=>ie T c F m es (λvs=>Q (v::vs)) X xb) X U):ie T c F m (e::es) Q X U:=λpos A L l' g s R=>by
 refine wpAny_items_cons (h.bind R λa wy ut av xb vy ua wn vm=>?_) (by cases e <;> first | rfl | cases hs)
 exact Uw vy (vm.bind ua λvs wz uu ws xc vz ub wp vn=>#[uu,_,xc,vy.trans vz,ub.si,ub.view,.cons (wn.mono vz.imm) wp,vn])
let Uv(h:ie T c F m es (λvs xb=>vs.length<=sizeLine/\Q (.tup vs) xb) X U):aP T c F m (.Tuple es n pos) Q X U:=λA L l' g s R=>by
 refine wpAny_Tuple (h.bind R λxs wy ut vs xb vy ua wn vm=>#[by rw[wn.length]; exact vm.1,?_])
 have fr:=ua.si.ok.fresh
 have sm:bG ut (ut.set wy.heap.objs.size (.imm (iK xs 0))):=bG.fill fr
 exact#[_,.tup vs,xb,vy.trans sm.toLe,Si.at ua.si sm.imm (ua.si.ok.push (aaX _ rfl)),sm.view ua.view,.tup (G.set_same ..) (wn.mono sm.imm) vm.1,vm.2]
let Sg.set_same(U:Sg)(a)(c):U.set a c a=some c:=ad9 rfl
let aq{U:Sg}{a:Addr}{c:Cell}:(U.set a c) a=some c:=Sg.set_same ..
let Sg.aa(U:Sg)(c)(n:b≠a):U.set a c b=U b:=ad8 n
let bD.ne{c:Cell}(f:bD U a)(h:U b=some c):b≠a:=adl (f b c h)
let bD.keep{a b:Addr}{c:Cell}(f:bD U a)(c':Cell)(h:U b=some c):(U.set a c') b=some c:=(Sg.aa U c' (f.ne h)).trans h
let View.QV(v:View U g)(x:gf P g h)(hn:h.objs.size<=n):bD U n:=λb c q=>by
 have:=cz.lt (x b) (by rw[v b c q]; intro z; cases z)
 exact Nat.lt_of_lt_of_le this hn
let View.set{c:Cell}(v:View U g):View (U.set a c) (g.set a (.cell c)):=λb c' q=>by
 by_cases e:b=a
 .subst e; rw[Sg.set_same]at q; cases q; exact G.set_same ..
 .rw[Sg.aa _ _ e]at q; rw[G.aa _ _ e]; exact v b c' q
let VV{pos:Pos}(h:ie T c F m es (λvs xb=>vs.length<=sizeLine/\∀ a,bD xb a->Q (.ref a) (xb.set a (.list vs))) X U):aP T c F m (.List es pos) Q X U:=λA L l' g s R=>by
 refine wpAny_List (h.bind R λxs wy ut vs xb vy ua wn vm=>#[by rw[wn.length]; exact vm.1,?_])
 have fr:=ua.si.ok.fresh
 have sm:bG ut (ut.set wy.heap.objs.size (.cell (.list vs))):=bG.fill fr
 exact#[_,.ref _,_,vy.trans sm.toLe,Si.at ua.si sm.imm (ua.si.ok.push #[xs,0,aaX _ rfl,wn.mono sm.imm,vm.1]),ua.view.set,.ref _,vm.2 _ (ua.view.QV ua.si.ok (abW _))]
show _
have vQ(T:Tp)(c:Cx)(F:Fc)(st:Stmt)(m:Lm)(P:tK)(U:Sg):Prop :=
 ∀ A L l g s,Run T c F m U A L l g s->wpAny T.M A (exec st (F.env L)) (PF T F L g P) (PY T F L g P.exc) s
show ∀{T:Tp}{c:Cx}{F:Fc}{m:Lm}{U:Sg}{A:Around}{L:Addr}{l:List Env}{g g':G}{s s':Shared},_
let wK.gY(k:gU L g g')(a:wK T F L g' g'' m' U' s'):wK T F L g g'' m' U' s':=#[k.trans a.le,a.si,a.view,a.fr]
let PF.le(k:gU L g g'):PF T F L g' P f s'->PF T F L g P f s':=λ#[g2,m',U',a,r]=>#[g2,m',U',a.gY k,r]
let PY.le(k:gU L g g'):PY T F L g' Y v s'->PY T F L g Y v s':=λ#[g2,m',U',e,h,a,r]=>#[g2,m',U',e,h,a.gY k,r]
let Run.Dy(R:Run T c F m U A L l g s)(a:wK T F L g g' m' U' s'):Run T c F m' U' A L l g' s' :=
 #[a.view,a.si,R.aok.leL a.le λ_ _=>let#[mc,h,_]:=a.fr; #[mc,h],a.fr,R.kind]
let Run.here(R:Run T c F m U A L l g s):wK T F L g g m U s:=#[(Le.refl g).toL L,R.si,R.view,R.fr]
let PX.toY(R:Run T c F m U A L l g s)(h:PX T g X v s')(k:∀ e U',X e U'->Y e m U'):PY T F L g Y v s':=by
 have#[g',e,U',rfl,le,si,vw,ex,x]:=h
 have R':=R.le le si vw
 exact#[g',m,U',e,rfl,#[le.toL L,si,vw,R'.fr],ex,k e U' x]
let Z6{P:tK}(h:P.nxt m U):dU T c F [] m P U:=λA L l g s R=>wpAny_execs_nil #[g,m,U,R.here,h]
let Np{st:Stmt}{P:tK}(h:vQ T c F st m { P with nxt:=λm' U'=>dU T c F ss m' P U' } U):dU T c F (st::ss) m P U:=λA L l g s R=>by
 refine wpAny_execs_cons (aaz (h A L l g s R) (λf wy hf=>?_) λ_ _ x=>x)
 have#[ut,wg,xb,a,r]:=hf
 cases f with
 | next=>exact aaz (r A L l ut wy (R.Dy a)) (λ_ _ x=>x.le a.le) λ_ _ x=>x.le a.le
 | brk=>exact#[ut,wg,xb,a,r]
 | cont=>exact#[ut,wg,xb,a,r]
 | ret v=>exact#[ut,wg,xb,a,r]
let Xd(hm:bI m' m)(hs:aO U' U)(h:dU T c F ss m' P U'):dU T c F ss m P U:=λA L l g s R =>
 h A L l g s #[λa c q=>R.view a c (hs a c q),R.si,R.aok,let#[mc,h1,h2]:=R.fr; #[mc,h1,λx v q=>h2 x v (hm x v q)],R.kind]
let yq:∀{ps:List Str} {vs:List V} {xs:List Value},ps.Nodup->ps.length=vs.length->aV g vs xs->tM g (ps.zip vs) (λy=>(ps.zip xs).reverse.lookup y):=by
 intro ps vs xs hn hl r x v h
 have key:∀{ps:List Str} {vs:List V} {xs:List Value},ps.Nodup->ps.length=vs.length->aV g vs xs->lk x (ps.zip vs)=some v->∃ y,(x,y)∈ps.zip xs/\Rep g v y:=by
  intro ps
  induction ps with
  | nil=>intro vs xs _ _ _ h; simp[lk]at h
  | cons p ps ih =>
   intro vs xs hn hl r h
   cases r with
   | nil=>simp at hl
   | cons r1 r2 =>
    rw[adG,lk]at h
    by_cases q:x=p
    .subst q
     rw[ad9 rfl]at h
     cases h
     exact#[_,.head _,r1]
    .rw[ad8 q]at h
     have#[y,h1,h2]:=ih (adm.mp hn).2 (by simpa using hl) r2 h
     exact#[y,.tail _ h1,h2]
 have#[y,h1,h2]:=key hn hl r h
 refine#[y,?_,h2]
 have nd:((ps.zip xs).reverse.map (·.1)).Nodup:=by
  have e1:(ps.zip xs).map (·.1)=ps:=by rw[List.map_fst_zip (by rw[r.length,← hl]; exact abW _)]
  rw[List.map_reverse,e1]
  exact List.pairwise_reverse.mpr (hn.imp λh=>h.symm)
 have mem:=List.mem_reverse.mpr h1
 clear key h1 h hl hn r h2
 generalize (ps.zip xs).reverse=z at nd mem
 show z.lookup x=some y
 induction z with
 | nil=>cases mem
 | cons a z ih =>
  have#[k,u]:=a
  rw[acY]
  rcases acR.mp mem with e | e
  .cases e; simp
  .have ne:¬ x=k:=by
    rintro rfl
    exact(adm.mp nd).1 (List.mem_map_of_mem (f:=(·.1)) e)
   have:(x==k)=false:=by simpa using ne
   rw[this]
   exact ih (adm.mp nd).2 e
have qR(D:bc)(q:Str)(f:Addr)(cd:Value):Fc:=#[q,D.scope,f,cd,[]]
have gR(T:Tp)(c:Cx)(f:V)(vs:List V)(Q:V->Ψ)(X:Addr->Ψ)(U:Sg):Prop :=
 ∀ g s A l fv args,View U g->T.Si g s->qM A c g l->Rep g f fv->aV g vs args ->
  codeAny T.M A (.call fv #[args,[]]) (λr s'=>match r with | .ok (.ret v)=>PV T g Q v s' | .ok _=>False | .error e=>PX T g X e s') s
let gR.call(h:gR T c f vs Q X U):aj T c f vs Q X U:=λg s A l fv args a b d e r=>wpAny_call (h g s A l fv args a b d e r)
let code_def(hf:(f,q,D,none)∈gh)(hp:oN D ps)(hsc:oH D ps=true)(hn:ps.Nodup)(hl:ps.length=vs.length)(h:∀ cd,dU T #[n,hd] (qR D q f cd) D.body (ps.zip vs) #[λ_ U' => ∃ U'',aO U'' U'/\Q .none U'',λv _ U' => ∃ U'',aO U'' U'/\Q v U'',λ_ _=>False,λ_ _=>False,λe _ U' => ∃ U'',aO U'' U'/\X e U''] U) :
  gR T #[n+1,hd] (.ref f) vs Q X U:=by
 intro g s A l fv args vw si aok rf ra
 cases rf
 have#[oc,od,pm,an,cdv,ct,kV,doc,osl,hK,hcd]:=T.fn_ok f q D none hf
 simp only[oH,acV,beq_iff_eq,Bool.not_eq_true',ac4,bne_iff_ne,ne_eq]at hsc
 have#[#[#[#[hk,hco],hge],hcell],hloc]:=hsc
 have#[p1,p2,p3,p4,p5]:=hp
 have hKs:=si.K T.inK
 refine(codeAny_call_def (by have:=aok.depth; dsimp only at this; omega) (hKs _ _ hK) rfl (T.nolimit.keeps si.base') (codeRec_of hKs hcd) rfl
  (.of_eq (zP p1 p2 p3 p4 p5 hn (by rw[ra.length]; exact hl) rfl)) (λx hx=>hcell x hx) (λx hx=>hloc _ (List.of_mem_zip hx).1) (λvk hns hkp=>?_) hco hge hk)
 have hsz:∀ o,s.heap.get? s.heap.objs.size≠some o:=λo e=>absurd (adB e) (Nat.lt_irrefl _)
 let L:=s.heap.objs.size
 have fr:=si.ok.fresh
 let ut:=g.set L (.frame λy=>(ps.zip args).reverse.lookup y)
 have sm:bG g ut:=bG.fill fr
 have ok1:gf T.w.params ut vk:=by
  intro b
  by_cases e:b=L
  .subst e
   have e1:ut L = .frame λy=>(ps.zip args).reverse.lookup y:=G.set_same ..
   rw[e1]; exact hns
  .have e1:ut b=g b:=G.aa _ _ e
   rw[e1]
   exact(si.ok b).keep 0 (sm.toLe.toL 0) (Tr.set (by intro _ z; cases z)) λo z=>hkp b o z
 have R:Run T #[n,hd] (qR D q f cdv) (ps.zip vs) U (A.deeper ((qR D q f cdv).env L)) L l ut { s with heap:=vk,toks:=s.toks+(ps.zip args).length }:=by
  refine#[sm.view vw,Si.at si sm.imm ok1,?_,#[_,G.set_same ..,by rw[Fc.Ue _ (λx hx=>hcell x hx)]; exact yq hn hl (ra.mono sm.imm)],hk]
  have a':=aok.le sm.toLe
  refine#[by have:=aok.depth; show A.depth+1+n<_; dsimp only at this; omega,by have:=aok.units; show A.units+3+10*n+70<_; dsimp only at this; omega,aok.hand,a'.hexc,by show A.frames.map _=_; rw[aok.frames]; rfl,?_]
  intro env he
  rcases acR.mp he with rfl | he
  .exact#[by show D.scope.kind ≠ .module; rw[hk]; decide,L,_,rfl,G.set_same ..]
  .exact a'.fr env he
 have back:∀{g':G},gU L ut g'->Le g g':=λ{g'} k=>#[λa o e=>k.imm a o (sm.imm a o e),λa mm e=>k.frame a mm (λz=>by rw[z,fr]at e; cases e) (sm.frame a mm e),λa e' e=>k.tb a e' (sm.tb a e' e),λa C d e=>k.exc a C d (sm.cell _ _ e),λa o e=>k.own a o (sm.own a o e)]
 refine aaz (h cdv _ L l ut _ R) (λfl s' hf' => ?_) (λv s' hx=>?_)
 .have#[g',m',U',a,r]:=hf'
  cases fl with
  | next=>have#[U'',h1,h2]:=r; exact#[g',.none,U'',back a.le,a.si,λx c e=>a.view x c (h1 x c e),.none,h2]
  | brk=>exact r.elim
  | cont=>exact r.elim
  | ret v=>have#[x,h0,U'',h1,h2]:=r; exact#[g',x,U'',back a.le,a.si,λx c e=>a.view x c (h1 x c e),h0,h2]
 .have#[g',m',U',e,rfl,a,#[C,d,he],U'',h1,h2]:=hx
  have R':=R.Dy a
  refine pL a.si R'.aok rfl he λg'' s'' sm' si' => ?_
  exact#[g'',e,U'',rfl,(back a.le).trans sm'.toLe,si',λx c q=>sm'.cell _ _ (a.view x c (h1 x c q)),#[C,d,sm'.cell _ _ he],h2]
show _
let all_true(n):(List.range n).all (λ_=>true)=true:=by simp
let GX{T:Tp}(si:T.Si g s)(vw:View U g)(h:U a=some (.list vs)):∃ xs,s.heap.IsList a xs.toArray/\aV g vs xs:=by
 have#[xs,h1,h2,_]:=bQ si vw h
 exact#[xs,h1,h2]
show ∀{T:Tp}{U:Sg}{g:G}{s:Shared}{n:Nat}{A:Around},_
let Nb.eqs(P:∀{a b:V} {x y:Value},Sm U n a b->Rep g a x->Rep g b y->SeqAt.EqAt A s x y true):∀{vs ws:List V} {xs ys:List Value},Nb U n vs ws->aV g vs xs->aV g ws ys->xs.length=ys.length/\∀ j (h1:j<xs.length) (h2:j<ys.length),SeqAt.EqAt A s xs[j] ys[j] true:=by
 intro vs
 induction vs with
 | nil =>
  intro ws xs ys h r k
  cases h
  obtain rfl:=r.Bh
  obtain rfl:=k.Bh
  exact#[rfl,λj h=>absurd h (Nat.not_lt_zero _)]
 | cons v vs ih =>
  intro ws xs ys h r k
  cases h with | cons h t =>
  have#[_,_,rfl,r,rs]:=r.pB
  have#[_,_,rfl,k,ks]:=k.pB
  have#[hl,he]:=ih t rs ks
  refine#[by rw[aaE,aaE,hl],λj h1 h2=>?_]
  cases j with
  | zero=>exact P h r k
  | succ j=>exact he j (Nat.lt_of_succ_lt_succ h1) (Nat.lt_of_succ_lt_succ h2)
let rcT(si:T.Si g s)(h1:g l = .imm (iK xs m))(k1:g l' = .imm (iK ys k))(hu:A.units<cLine)(q:xs.length=ys.length/\∀ j (h1:j<xs.length) (h2:j<ys.length),SeqAt.EqAt A.in1 s xs[j] ys[j] true):SeqAt.RcAt A s (.ref l) (.ref l') true/\SeqAt.RcNeAt A s (.ref l) (.ref l') false:=by
 have q1:=SeqAt.RcAt.tuples (bz si h1) (bz si k1) hu (λj j1 j2=>q.2 j j1 j2)
 have q2:=SeqAt.RcNeAt.tuples (bz si h1) (bz si k1) hu (λj j1 j2=>q.2 j j1 j2)
 have e:(xs.toArray.size==ys.toArray.size)=true:=beq_iff_eq.mpr q.1
 rw[all_true,e]at q1 q2
 exact#[q1,q2]
let rcL{xs ys:List Value}(h1:s.heap.IsList l xs.toArray)(k1:s.heap.IsList l' ys.toArray)(hu:A.units<cLine)(q:xs.length=ys.length/\∀ j (h1:j<xs.length) (h2:j<ys.length),SeqAt.EqAt A.in1 s xs[j] ys[j] true):SeqAt.RcAt A s (.ref l) (.ref l') true/\SeqAt.RcNeAt A s (.ref l) (.ref l') false:=by
 have q1:=SeqAt.RcAt.lists h1 k1 q.1 hu (λj j1 j2=>q.2 j j1 j2)
 have q2:=SeqAt.RcNeAt.lists h1 k1 q.1 hu (λj j1 j2=>q.2 j j1 j2)
 rw[all_true]at q1 q2
 exact#[q1,q2]
let Mw(R:SeqAt.RcAt A s (.ref l) (.ref l') true):SeqAt.EqAt A s (.ref l) (.ref l') true:=by
 by_cases e:l=l'
 .subst e; exact SeqAt.EqAt.same _
 .exact SeqAt.EqAt.of_refs e R
let uB{P:Bool->Prop}(e:b=true)(h:P b):P true:=e▸h
let Sm.rc1{a b:V}{x y:Value}(IH:∀ m,n=m+1->∀{a b:V} {x y:Value},Sm U m a b->Rep g a x->Rep g b y->SeqAt.EqAt A.in1 s x y true)(si:T.Si g s)(vw:View U g)(h:Sm U n a b)(hu:A.units+n<cLine)(ra:Rep g a x)(rb:Rep g b y):SeqAt.RcAt A s x y true/\SeqAt.RcNeAt A s x y false:=by
 replace hu:A.units<cLine:=Nat.lt_of_le_of_lt (adt _ _) hu
 cases h with
 | none =>
  obtain rfl:=ra.uD; obtain rfl:=rb.uD
  exact#[SeqAt.RcAt.none_none,SeqAt.RcNeAt.none_none]
 | bool _ b =>
  obtain rfl:=ra.Cp; obtain rfl:=rb.Cp
  exact#[uB (adZ b) (SeqAt.RcAt.bool_bool b b),uB (P:=λz=>SeqAt.RcNeAt A s _ _ (!z)) (adZ b) (SeqAt.RcNeAt.bool_bool b b)]
 | int _ i =>
  have#[t,rfl]:=ra.sr; have#[u,rfl]:=rb.sr
  exact#[uB (adZ i) (SeqAt.RcAt.int_int i t i u),uB (P:=λz=>SeqAt.RcNeAt A s _ _ (!z)) (adZ i) (SeqAt.RcNeAt.int_int i t i u)]
 | str _ l =>
  have#[t,rfl,_]:=ra.jw; have#[u,rfl,_]:=rb.jw
  exact#[uB (adZ _) (SeqAt.RcAt.str_str #[l.toArray] t #[l.toArray] u),uB (P:=λz=>SeqAt.RcNeAt A s _ _ (!z)) (adZ _) (SeqAt.RcNeAt.str_str #[l.toArray] t #[l.toArray] u)]
 | tup h =>
  have#[_,_,_,rfl,h1,h2,_]:=ra.zB; have#[_,_,_,rfl,k1,k2,_]:=rb.zB
  exact rcT si h1 k1 hu (Nb.eqs (IH _ rfl) h h2 k2)
 | list g1 g2 h =>
  obtain rfl:=ra.Fo; obtain rfl:=rb.Fo
  have#[xs,h1,h2]:=GX si vw g1
  have#[ys,k1,k2]:=GX si vw g2
  exact rcL h1 k1 hu (Nb.eqs (IH _ rfl) h h2 k2)
let Sm.eq1(R:SeqAt.RcAt A s x y true)(h:Sm U n a b)(ra:Rep g a x)(rb:Rep g b y):SeqAt.EqAt A s x y true:=by
 cases h with
 | none=>rw[ra.uD,rb.uD]; exact SeqAt.EqAt.same _
 | bool=>rw[ra.Cp,rb.Cp]; exact SeqAt.EqAt.same _
 | int _ i =>
  have#[t,rfl]:=ra.sr; have#[u,rfl]:=rb.sr
  exact uB (adZ i) (SeqAt.EqAt.int_int i t i u)
 | str _ l =>
  have#[t,rfl,_]:=ra.jw; have#[u,rfl,_]:=rb.jw
  exact uB (adZ _) (SeqAt.EqAt.str_str #[l.toArray] t #[l.toArray] u)
 | tup h =>
  have#[_,_,_,rfl,_]:=ra.zB; have#[_,_,_,rfl,_]:=rb.zB
  exact Mw R
 | list g1 g2 h =>
  obtain rfl:=ra.Fo; obtain rfl:=rb.Fo
  exact Mw R
show _
let Sm.ac3{T:Tp}{U:Sg}{g:G}(si:T.Si g s)(vw:View U g)(n:Nat):∀{a b:V} {A:Around} {x y:Value},Sm U n a b->A.units+n<cLine->Rep g a x->Rep g b y->SeqAt.EqAt A s x y true:=by
 induction n with
 | zero=>exact λh hu ra rb=>Sm.eq1 (Sm.rc1 (λm e=>absurd e.symm (Nat.succ_ne_zero m)) si vw h hu ra rb).1 h ra rb
 | succ n ih =>
  intro a b A x y h hu ra rb
  refine Sm.eq1 (Sm.rc1 (λm e=>?_) si vw h hu ra rb).1 h ra rb
  cases e
  exact λh' ra' rb'=>ih h' (by show A.units+1+n<cLine; omega) ra' rb'
let Sm.rc{T:Tp}(si:T.Si g s)(vw:View U g)(h:Sm U n a b)(hu:A.units+n<cLine)(ra:Rep g a x)(rb:Rep g b y):SeqAt.RcAt A s x y true/\SeqAt.RcNeAt A s x y false :=
 Sm.rc1 (λm e {_ _ _ _} h' ra' rb'=>Sm.ac3 si vw m h' (by show A.units+1+m<cLine; omega) ra' rb') si vw h hu ra rb
let Eh:∀{x:aX} {xs:List Value},aV g (x.map .str) xs->∀ j (h:j<xs.length),∃ t,xs[j] = .str #[(x[j]?.getD []).toArray] t
 | [],_,.nil,j,h=>absurd h (Nat.not_lt_zero _)
 | a::x,_,.cons r rs,0,h=>by
  cases r with | str _ t _=>exact#[t,rfl]
 | a::x,_,.cons r rs,j+1,h=>Eh rs j (Nat.lt_of_succ_lt_succ h)
let Kw{T:Tp}(si:T.Si g s){x y:aX}(hu:A.units<cLine)(ra:Rep g (.tup (x.map .str)) u)(rb:Rep g (.tup (y.map .str)) v):SeqAt.RcAt A s u v (decide (x=y)):=by
 cases ra with | @tup _ xs l n h1 h2 _=>cases rb with | @tup _ ys l' n' k1 k2 _ =>
 have lx:=h2.length
 have ly:=k2.length
 rw[ac0]at lx ly
 have q1:=SeqAt.RcAt.tuples (bz si h1) (bz si k1) hu (λj j1 j2=>by
  have#[t,e1]:=Eh h2 j (by simpa using j1)
  have#[t',e2]:=Eh k2 j (by simpa using j2)
  have:=SeqAt.EqAt.str_str (A:=A.in1) (s:=s) #[(x[j]?.getD []).toArray] t #[(y[j]?.getD []).toArray] t'
  rw[Mh]at this
  simpa [e1,e2]using this)
 have e:((List.range (min xs.toArray.size ys.toArray.size)).all (λj=>decide (x[j]?.getD []=y[j]?.getD []))&&xs.toArray.size==ys.toArray.size)=decide (x=y):=by
  rw[List.size_toArray,List.size_toArray,lx,ly]
  by_cases e:x=y
  .subst e; simp
  .rw[aaA e]
   refine Bool.eq_false_iff.mpr λz=>e ?_
   simp only[acV,ac4,decide_eq_true_eq,beq_iff_eq,ad3]at z
   refine List.ext_getElem z.2 λj h1 h2=>?_
   have:=z.1 j ∎
   rw[aa1 h1,aa1 h2]at this
   exact this
 rw[e]at q1
 exact q1
let dR.find{es:List (Str×V)}{ds:List DictEntry}(k:Str)(h:dR P g es ds):match lk k es with
  | some v=>∃ x,findBy Value.isStrOf ds.toArray k=some x/\Rep g v x
  | none=>findBy Value.isStrOf ds.toArray k=none:=by
 induction h with
 | nil=>simp[lk,findBy]
 | @cons k' v es tt x ds r d ih =>
  unfold lk
  by_cases h:k=k'
  .subst h
   rw[ad9 rfl]
   exact#[x,by simp[findBy,Value.isStrOf],r]
  .rw[ad8 h]
   have e:findBy Value.isStrOf ((#[PyData.keyHash P k',.str k' tt,x]:DictEntry)::ds).toArray k=findBy Value.isStrOf ds.toArray k:=by
    have:(k'==k)=false:=beq_false_of_ne λq=>h q.symm
    simp[findBy,Value.isStrOf,List.find?_cons,this]
   rw[e]; exact ih
let dR.keys(d:dR P g es ds):∀ e∈ds,∃ x t,e.key = .str x t/\e.hash=PyData.keyHash P x:=by
 induction d with
 | nil=>exact λ_ h=>absurd h acX
 | cons r _ ih =>
  intro e h
  rcases acR.mp h with rfl | h
  .exact#[_,_,rfl,rfl]
  .exact ih e h
show ∀{T:Tp}{A:Around}{s:Shared}{g:G}{U:Sg},_
let mapOf(si:T.Si g s)(vw:View U g)(h:U a=some (.dict es)):∃ ds:List DictEntry,dR T.w.params g es ds/\s.heap.MapOf (strKind T.prog T.w) a (λk=>findBy Value.isStrOf ds.toArray k):=by
 have q:=si.ok a
 rw[vw a _ h]at q
 have#[ds,n,h1,h2,_]:=q
 refine#[ds,h2,_,_,n,h1,#[rfl,rfl,rfl],rfl,λe he=>?_,λk=>rfl]
 have#[x,t,e1,e2]:=h2.keys e (by simpa using he)
 exact#[x,by rw[e1]; exact strKind_is T.prog T.w x t,e2]
let wW(si:T.Si g s)(vw:View U g)(h:U a=some c):(a==sysModules)=false:=by
 refine beq_eq_false_iff_ne.mpr λe=>?_
 have#[o,ho]:=T.sysm
 have:=si.base _ _ ho
 rw[← e,vw a _ h]at this; cases this
let Io(r:aV g vs xs)(h:strsOf vs=some ls) :
  (∀ y∈xs.toArray,SeqAt.EqAt A s y (.str #[x.toArray] t) (match y with | .str z _=>z==#[x.toArray] | _=>false))/\xs.toArray.any (λy=>match y with | .str z _=>z==#[x.toArray] | _=>false)=decide (x∈ls):=by
 induction vs generalizing xs ls with
 | nil=>cases r; cases h; exact#[λy hy=>by simp at hy,by simp]
 | cons v vs ih =>
  cases v <;> try cases h
  rename_i l
  have#[l',h1,rfl]:=adR.mp h
  cases r with
  | cons r1 r2 =>
   cases r1
   have#[i1,i2]:=ih r2 h1
   refine#[λy hy=>?_,?_]
   .rcases acR.mp (List.mem_toArray.mp hy)with rfl | hy
    .exact SeqAt.EqAt.str_str _ _ _ _
    .exact i1 y (List.mem_toArray.mpr hy)
   .have i2':=i2
    rw[← Array.any_toList]at i2' ⊢
    simp only[List.any_cons]
    rw[i2',Mh]
    by_cases q:l=x
    .subst q; simp
    .have q' : ¬ x=l:=λe=>q e.symm
     simp[q,q']
let Rt(r:aV g vs xs)(h:intsOf vs=some ls) :
  (∀ y∈xs.toArray,SeqAt.EqAt A s y (.int x t) (match y with | .int z _=>z==x | _=>false))/\xs.toArray.any (λy=>match y with | .int z _=>z==x | _=>false)=decide (x∈ls):=by
 induction vs generalizing xs ls with
 | nil=>cases r; cases h; exact#[λy hy=>by simp at hy,by simp]
 | cons v vs ih =>
  cases v <;> try cases h
  rename_i l
  have#[l',h1,rfl]:=adR.mp h
  cases r with
  | cons r1 r2 =>
   cases r1
   have#[i1,i2]:=ih r2 h1
   refine#[λy hy=>?_,?_]
   .rcases acR.mp (List.mem_toArray.mp hy)with rfl | hy
    .exact SeqAt.EqAt.int_int _ _ _ _
    .exact i1 y (List.mem_toArray.mpr hy)
   .have i2':=i2
    rw[← Array.any_toList]at i2' ⊢
    simp only[List.any_cons]
    rw[i2']
    by_cases q:l=x
    .subst q; simp
    .have q' : ¬ x=l:=λe=>q e.symm
     simp[q,q']
show ∀{T:Tp}{A:Around}{s:Shared}{g:G}{U:Sg}{α:Type}{op:CmpOp}{a b:V}{av bv:Value}{Q:Bool->Prop}{P:Value->Shared->Prop}{E:Value->Shared->Prop},_
let Ih.inv{P:α->Prop}(h:Ih o P):∃ x,o=some x/\P x:=by
 cases o with
 | none=>show 4
 | some x=>exact#[x,rfl,h]
let xP.inv{P:Nat->Prop}(h:xP x P):∃ y,x=[y]/\P y:=by
 rcases x with _ | ⟨x,_ | _⟩
 .show 4
 .exact#[x,rfl,h]
 .show 4
let dctP.inv{P:List (Str×V)->Prop}(h:dctP c P):∃ es,c=some (.dict es)/\P es:=by
 rcases c with _ | _ | es | _ | _ <;> first | exact h.elim | exact#[es,rfl,h]
let Ae.inv{P:List (Str×V)->Prop}(h:Ae c P N):(∃ es,c=some (.dict es)/\P es)∨(c=some (.list [])/\N):=by
 rcases c with _ | (_ | _) | es | _ | _ <;> first | exact h.elim | exact .inl #[es,rfl,h] | exact .inr #[rfl,h]
let FQ.inv(h:FQ R a b Q):∃ i j,a = .int i/\b = .int j/\Q (R i j):=by
 cases a <;> first | exact h.elim | skip
 cases b <;> first | exact h.elim | exact#[_,_,rfl,rfl,h]
let XX.inv(h:XX b R):b = .none/\R:=by
 cases b <;> first | exact h.elim | exact#[rfl,h]
let EqP.inv(h:EqP a b U Q):(∃ x y,a = .str x/\b = .str y/\Q (decide (x=y)))∨(∃ i j,a = .int i/\b = .int j/\Q (decide (i=j)))∨Um a b U Q:=by
 cases a <;> first | exact .inr (.inr h) | (cases b <;> first | exact .inr (.inr h) | exact .inl #[_,_,rfl,rfl,h] | exact .inr (.inl #[_,_,rfl,rfl,h]))
let NeP.inv(h:NeP a b U Q):(∃ x y,a = .str x/\b = .str y/\Q (decide (x≠y)))∨(∃ i j,a = .int i/\b = .int j/\Q (decide (i≠j)))∨RJ a b U Q:=by
 cases a <;> first | exact .inr (.inr h) | (cases b <;> first | exact .inr (.inr h) | exact .inl #[_,_,rfl,rfl,h] | exact .inr (.inl #[_,_,rfl,rfl,h]))
let InP.inv(h:InP a b U Q):(∃ x vs ls,a = .str x/\b = .tup vs/\strsOf vs=some ls/\Q (decide (x∈ls)))∨(∃ x vs ls,a = .int x/\b = .tup vs/\intsOf vs=some ls/\Q (decide (x∈ls))) ∨
  (∃ x l,a = .str [x]/\b = .str l/\Q (decide (x∈l)))∨∃ x r es,a = .str x/\b = .ref r/\U r=some (.dict es)/\Q (lk #[x.toArray] es).isSome:=by
 cases b <;> first | exact h.elim | skip
 .cases a <;> first | exact h.elim | skip
  have#[x,rfl,h]:=xP.inv h
  exact .inr (.inr (.inl #[_,_,rfl,rfl,h]))
 .cases a <;> first | exact h.elim | skip
  .have#[ls,e,h]:=Ih.inv h
   exact .inr (.inl #[_,_,_,rfl,rfl,e,h])
  .have#[ls,e,h]:=Ih.inv h
   exact .inl #[_,_,_,rfl,rfl,e,h]
 .cases a <;> first | exact h.elim | skip
  have#[es,e,h]:=dctP.inv h
  exact .inr (.inr (.inr #[_,_,_,rfl,rfl,e,h]))
let Vq.inv(h:Vq a b U Q):(∃ x vs ls,a = .str x/\b = .tup vs/\strsOf vs=some ls/\Q (decide (x∉ls))) ∨
  (∃ x l,a = .str [x]/\b = .str l/\Q (decide (x∉l)))∨(∃ x r es,a = .str x/\b = .ref r/\U r=some (.dict es)/\Q (!(lk #[x.toArray] es).isSome))∨∃ x r,a = .str x/\b = .ref r/\U r=some (.list [])/\Q true:=by
 cases b <;> first | exact h.elim | skip
 .cases a <;> first | exact h.elim | skip
  have#[x,rfl,h]:=xP.inv h
  exact .inr (.inl #[_,_,rfl,rfl,h])
 .cases a <;> first | exact h.elim | skip
  have#[ls,e,h]:=Ih.inv h
  exact .inl #[_,_,_,rfl,rfl,e,h]
 .cases a <;> first | exact h.elim | skip
  rcases Ae.inv h with⟨es,e,h⟩ | ⟨e,h⟩
  .exact .inr (.inr (.inl #[_,_,_,rfl,rfl,e,h]))
  .exact .inr (.inr (.inr #[_,_,rfl,rfl,e,h]))
let Rj{r:Addr}{es:List (Str×V)}(x:LN)(si:T.Si g s)(vw:View U g)(hes:U r=some (.dict es)):∃ ds:List DictEntry,s.heap.MapOf (strKind T.prog T.w) r (λk=>findBy Value.isStrOf ds.toArray k)/\(findBy Value.isStrOf ds.toArray #[x.toArray]).isSome=(lk #[x.toArray] es).isSome:=by
 have#[ds,d1,d2]:=mapOf si vw hes
 refine#[ds,d2,?_]
 have:=d1.find #[x.toArray]
 cases q:lk #[x.toArray] es with
 | none=>rw[q]at this; rw[show findBy Value.isStrOf ds.toArray #[x.toArray]=none from this]; rfl
 | some v=>rw[q]at this; have#[y,h1,_]:=this; rw[h1]; rfl
let Hm(ra:Rep g a av):(av==Value.none)=isNone a:=by cases ra <;> rfl
let wJ [Decidable p]:(!decide p)=decide (¬ p):=decide_not.symm
let VF [DecidableEq α](a b:α):(a==b)=decide (a=b):=rfl
show ∀{T:Tp}{A:Around}{s:Shared}{g:G}{U:Sg}{α:Type}{op:CmpOp}{a b:V}{av bv:Value}{Q:Bool->Prop}{P:Value->Shared->Prop}{E:Value->Shared->Prop}(k:∀ t,Q t->P (.bool t) s),k
let Fq{R:Int->Int->Bool}(ra:Rep g a av)(rb:Rep g b bv)(h:FQ R a b Q)(q:∀ i j t u,P (.bool (R i j)) s->wpAny T.M A (compareOp op (.int i t) (.int j u)) P E s):wpAny T.M A (compareOp op av bv) P E s:=by
 have#[i,j,rfl,rfl,h]:=h.inv
 have#[t,rfl]:=ra.sr; have#[u,rfl]:=rb.sr
 exact q i j t u (k _ h)
let aaR(hu:A.units+64<cLine)(si:T.Si g s)(vw:View U g)(ra:Rep g a av)(rb:Rep g b bv)(h:EqP a b U Q):wpAny T.M A (compareOp .Eq av bv) P E s:=by
 rcases h.inv with⟨x,y,rfl,rfl,h⟩ | ⟨x,y,rfl,rfl,h⟩ | ⟨n,hn,h,q⟩ | ⟨x,y,rfl,rfl,q⟩ | ⟨vs,l,rfl,rfl,q⟩
 .have#[t,rfl,_]:=ra.jw; have#[u,rfl,_]:=rb.jw
  exact eq_str (by rw[Mh]; exact k _ h)
 .have#[t,rfl]:=ra.sr; have#[u,rfl]:=rb.sr
  exact eq_int (k _ h)
 .exact(Sm.rc si vw h ∎ ra rb).1 _ _ E P (k _ q)
 .exact Kw si ∎ ra rb _ _ E P (k _ q)
 .have#[_,_,_,rfl,h1,_]:=ra.zB; have#[t,rfl,_]:=rb.jw
  exact SeqAt.RcAt.tuple_str _ t (bz si h1) ∎ _ _ E P (k _ q)
let ab2(hu:A.units+64<cLine)(si:T.Si g s)(vw:View U g)(ra:Rep g a av)(rb:Rep g b bv)(h:NeP a b U Q):wpAny T.M A (compareOp .NotEq av bv) P E s:=by
 rcases h.inv with⟨x,y,rfl,rfl,h⟩ | ⟨x,y,rfl,rfl,h⟩ | ⟨n,hn,h,q⟩ | ⟨vs,l,rfl,rfl,q⟩
 .have#[t,rfl,_]:=ra.jw; have#[u,rfl,_]:=rb.jw
  exact ne_str (by rw[bne,Mh,wJ]; exact k _ h)
 .have#[t,rfl]:=ra.sr; have#[u,rfl]:=rb.sr
  exact ne_int (by rw[bne,VF,wJ]; exact k _ h)
 .exact(Sm.rc si vw h ∎ ra rb).2 _ _ E P (k _ q)
 .have#[_,_,_,rfl,h1,_]:=ra.zB; have#[t,rfl,_]:=rb.jw
  exact SeqAt.RcNeAt.tuple_str _ t (bz si h1) ∎ _ _ E P (k _ q)
show ∀{T:Tp}{A:Around}{s:Shared}{g:G}{U:Sg}{α:Type}{op:CmpOp}{a b:V}{av bv:Value}{Q:Bool->Prop}{P:Value->Shared->Prop}{E:Value->Shared->Prop},_
let acA(k:∀ t (n:Nat),Q t->P (.bool t) { s with toks:=n })(si:T.Si g s)(vw:View U g)(ra:Rep g a av)(rb:Rep g b bv)(h:InP a b U Q):wpAny T.M A (compareOp .In av bv) P E s:=by
 rcases h.inv with⟨x,vs,ls,rfl,rfl,e,h⟩ | ⟨x,vs,ls,rfl,rfl,e,h⟩ | ⟨x,l,rfl,rfl,h⟩ | ⟨x,r,es,rfl,rfl,e,h⟩
 .have#[t,rfl,_]:=ra.jw; have#[_,_,_,rfl,h1,h2,_]:=rb.zB
  have#[q1,q2]:=Io h2 e
  exact SeqAt.in_tupleAt _ (bz si h1) q1 (by rw[q2]; exact k _ s.toks h)
 .have#[t,rfl]:=ra.sr; have#[_,_,_,rfl,h1,h2,_]:=rb.zB
  have#[q1,q2]:=Rt h2 e
  exact SeqAt.in_tupleAt _ (bz si h1) q1 (by rw[q2]; exact k _ s.toks h)
 .have#[t,rfl,_]:=ra.jw; have#[u,rfl,_]:=rb.jw
  exists PyProof.Rows.in_str
  rw[show(#[[x].toArray]:Str)=#[([x].toArray)]from rfl,StrLaws.found_one]
  exact k _ s.toks h
 .have#[t,rfl,_]:=ra.jw; obtain rfl:=rb.Fo
  have#[ds,d2,e2]:=Rj x si vw e
  exact wpAny_in_of (strKind_is T.prog T.w _ t) (wW si vw e) d2 (by rw[e2]; exact k _ _ h)
let Zc(k:∀ t (n:Nat),Q t->P (.bool t) { s with toks:=n })(si:T.Si g s)(vw:View U g)(ra:Rep g a av)(rb:Rep g b bv)(h:Vq a b U Q):wpAny T.M A (compareOp .NotIn av bv) P E s:=by
 rcases h.inv with⟨x,vs,ls,rfl,rfl,e,h⟩ | ⟨x,l,rfl,rfl,h⟩ | ⟨x,r,es,rfl,rfl,e,h⟩ | ⟨x,r,rfl,rfl,e,h⟩
 .have#[t,rfl,_]:=ra.jw; have#[_,_,_,rfl,h1,h2,_]:=rb.zB
  have#[q1,q2]:=Io h2 e
  exact SeqAt.notIn_tupleAt _ (bz si h1) q1 (by rw[q2,wJ]; exact k _ s.toks h)
 .have#[t,rfl,_]:=ra.jw; have#[u,rfl,_]:=rb.jw
  exists PyProof.Rows.notIn_str
  rw[show(#[[x].toArray]:Str)=#[([x].toArray)]from rfl,StrLaws.found_one,wJ]
  exact k _ s.toks h
 .have#[t,rfl,_]:=ra.jw; obtain rfl:=rb.Fo
  have#[ds,d2,e2]:=Rj x si vw e
  exact wpAny_notIn_of (strKind_is T.prog T.w _ t) (wW si vw e) d2 (by rw[e2]; exact k _ _ h)
 .have#[t,rfl,_]:=ra.jw; obtain rfl:=rb.Fo
  have#[xs,h1,h2,_]:=bQ si vw e
  obtain rfl:=h2.Bh
  exact SeqAt.notIn_listAt (λ_=>true) h1 (λy hy=>absurd (List.mem_toArray.mp hy) acX) (by rw[show(!(([].toArray):Array Value).any λ_=>true)=true from by simp]; exact k true s.toks h)
show ∀{T:Tp}{A:Around}{s:Shared}{g:G}{U:Sg},_
let qQ{op:CmpOp}{a b:V}{av bv:Value}{Q:Bool->Prop}{P:Value->Shared->Prop}{E:Value->Shared->Prop}(hu:A.units+64<cLine)(si:T.Si g s)(vw:View U g)(ra:Rep g a av)(rb:Rep g b bv)(h:b8 op a b U Q)(k:∀ t (n:Nat),Q t->P (.bool t) { s with toks:=n }):wpAny T.M A (compareOp op av bv) P E s:=by
 have k':=λt q=>k t s.toks q
 cases op with
 | Eq=>exact aaR k' hu si vw ra rb h
 | NotEq=>exact ab2 k' hu si vw ra rb h
 | Lt=>exact Fq k' ra rb h λ_ _ _ _=>lt_int
 | LtE=>exact Fq k' ra rb h λ_ _ _ _=>le_int
 | Gt=>exact Fq k' ra rb h λ_ _ _ _=>gt_int
 | GtE=>exact Fq k' ra rb h λ_ _ _ _=>ge_int
 | Is =>
  have#[rfl,h]:=XX.inv h
  obtain rfl:=rb.uD
  exact is_none (by rw[Hm ra]; exact k' _ h)
 | IsNot =>
  have#[rfl,h]:=XX.inv h
  obtain rfl:=rb.uD
  exact PySem.isNot_none (by rw[Hm ra]; exact k' _ h)
 | In=>exact acA k si vw ra rb h
 | NotIn=>exact Zc k si vw ra rb h
show _
let Ep(h:mV e=true):behindInMarks op e=false:=by
 cases e <;> first | rfl | cases h
let qM.u64(x:qM A c g l):A.units+64<cLine:=by have:=x.units; omega
show ∀{T:Tp}{c:Cx}{F:Fc}{m:Lm}{X:Addr->Ψ}{U:Sg},_
let Run.tok(R:Run T c F m U A L l g s):Run T c F m U A L l g { s with toks:=n }:=#[R.view,R.si.tok,R.aok,R.fr,R.kind]
let Ku{Q:V->Ψ}(hs:mV r=true)(h:aP T c F m l (λa xb=>aP T c F m r (λb xc=>b8 op a b xc (λt=>Q (.bool t) xc)) X xb) X U):aP T c F m (.Compare l [op] [r] pos) Q X U:=λA L l' g s R=>by
 refine wpAny_Compare1 (h.bind R λa wy ut av xb vy ua wn vm=>Uw vy (vm.bind ua λb wz uu bv xc vz ub wp vn=>?_)) (Ep hs)
 exact qQ ub.aok.u64 ub.si ub.view (wn.mono vz.imm) wp vn λt n q=>#[uu,_,xc,vy.trans vz,ub.si.tok,ub.view,.bool t,q]
let Lh{Q:Bool->Ψ}(hs:mV r=true)(h:aP T c F m l (λa xb=>aP T c F m r (λb xc=>b8 op a b xc (λt=>Q t xc)) X xb) X U):j4 T c F m (.Compare l [op] [r] pos) Q X U:=λA L l' g s R=>by
 refine wpAny_isTrue_Compare1 (h.bind R λa wy ut av xb vy ua wn vm=>Uw vy (vm.bind ua λb wz uu bv xc vz ub wp vn=>?_)) (Ep hs)
 exact qQ ub.aok.u64 ub.si ub.view (wn.mono vz.imm) wp vn λt n q=>wpAny_truthy_bool #[uu,xc,vy.trans vz,ub.si.tok,ub.view,q]
let Ht{Q:Bool->Ψ}(hs:mV r=true)(hs':mV r'=true)(h:aP T c F m l (λa xb=>aP T c F m r (λb xc=>b8 op a b xc (λt=>if t=true then aP T c F m r' (λd xf=>b8 op' b d xf (λt=>Q t xf)) X xc else Q false xc)) X xb) X U) :
  j4 T c F m (.Compare l [op,op'] [r,r'] pos) Q X U:=λA L l' g s R=>by
 show wpAny T.M A (do testChain pos (← eval l (F.env L)) [op,op'] (markedEach [op,op'] [r,r'] [eval r (F.env L),eval r' (F.env L)])) _ _ s
 have hm:markedEach [op,op'] [r,r'] [eval r (F.env L),eval r' (F.env L)]=[eval r (F.env L),eval r' (F.env L)]:=by
  simp only[markedEach,markedBehindIn_of_false (Ep hs),markedBehindIn_of_false (Ep hs')]
 rw[hm]
 refine aaw (h.bind R λa wy ut av xb vy ua wn vm=>?_)
 unfold testChain
 refine aaw (acW (Uw vy (vm.bind ua λb wz uu bv xc vz ub wp vn=>aaw (adF (aaw (acW ?_))))))
 refine qQ ub.aok.u64 ub.si ub.view (wn.mono vz.imm) wp vn λt n q=>?_
 refine aaw (wpAny_release (aaw (acW (wpAny_truthy_bool ?_))))
 cases t
 .exact aax #[uu,xc,vy.trans vz,ub.si.tok,ub.view,q]
 .rw[ad9 rfl]at q
  unfold testChain
  refine aaw (acW (Uw (vy.trans vz) (aP.bind q ub.tok λd x0 uv dv xf w7 uc wt vo=>aaw (adF (aaw ?_)))))
  exists wpAny_operating
  refine qQ uc.aok.u64 uc.si uc.view (wp.mono w7.imm) wt vo λt n q=>?_
  exact acW (wpAny_truthy_bool #[uv,xf,(vy.trans vz).trans w7,uc.si.tok,uc.view,q])
let dR.getL:∀{es:List (Str×V)} {ds:List DictEntry} (k:Str),dR P g es ds->match lk k es with
  | some v=>∃ x,W.getL k ds=some (some x)/\Rep g v x
  | none=>W.getL k ds=some none
 | _,_,k,.nil=>rfl
 | _,_,k,.cons (k:=k') (x:=x) (t:=tt) (ds:=ds) r d=>by
  have ih:=dR.getL k d
  unfold lk
  by_cases h:k=k'
  .subst h
   rw[ad9 rfl]
   exact#[x,by simp[W.getL,Value.isStr],r]
  .rw[ad8 h]
   have e:W.getL k ((#[PyData.keyHash P k',.str k' tt,x]:DictEntry)::ds)=W.getL k ds:=by
    have:(k'==k)=false:=by simpa using λq:k'=k=>h q.symm
    simp[W.getL,Value.isStr,List.find?_cons,this,DictEntry.refKey]
   rw[e]; exact ih
let Rep.handed(r:Rep g v x)(h:∀ i,v ≠ .bi i):handedIn x=true:=by
 cases r <;> first | rfl | (exact absurd rfl (h _))
let Ey(si:T.Si g s)(vw:View U g)(h1:U a=some (.inst C d))(h2:U d=some (.dict es)) :
  ∃ ds n,dR T.w.params g es ds/\s.heap.get? d=some (dictOf ds n)/\es.length<=1000/\dw es/\InstAt s.heap a (instObj C d) C (some (dictOf ds n)):=by
 have q1:=si.ok a
 rw[vw a _ h1]at q1
 have q2:=si.ok d
 rw[vw d _ h2]at q2
 have#[ds,n,e1,e2,e3,e4]:=q2
 exact#[ds,n,e2,e1,e3,e4,q1,rfl,rfl,e1]
open Builtin Builtin.ObjectAttr in show _
let Dr(v):bindSpecial (.builtin "BaseException.__getattribute__") v=pure (.builtin "BaseException.__getattribute__",[v]):=by
 exact PySem.F.attr_Exception.ga.bind v
let Vv{K:Frag}(X:K.In s.heap)(I:InstAt s.heap x ox C od)(h1:findIn K (.ref C) "__getattribute__"=some (some (.builtin "BaseException.__getattribute__")))(h2:findIn K (.ref C) "__getattr__"=some none)(h3:mroIn K C (.type "BaseException")=some true)(hf:findObj K C od name=some (.value v))(hh:handedIn v=true)(h:∀ n,Q v { s with toks:=n }):wpAny (model prog w) A (getAttr (.ref x) name expr) Q E s:=by
 have#[hp,g,d,t,os]:=s
 have L0:=I.type (M:=model prog w)
 have L1:=looks_findIn (M:=model prog w) X h1
 have L2:=looks_findIn (M:=model prog w) X h2
 have L3:=looks_mroIn (M:=model prog w) X h3
 have L4:=looks_find (M:=model prog w) X I hf
 refine aaw (wpAny_mkText ?_)
 refine acW (aaw (L0.at (aaw (L1.at ?_))))
 have e1:(onTheHeap (Value.ref C)&&Value.builtin "BaseException.__getattribute__"==Value.builtin "object.__getattribute__")=false:=by rw[show(Value.builtin "BaseException.__getattribute__"==Value.builtin "object.__getattribute__")=false from by decide +kernel]; rfl
 show 1
 rw[e1,ad8 ⋯]
 unfold getAttrByItsOwn
 exists aaw
 have e2:hookBefore (.ref C)=typeLookup (.ref C) "__getattr__":=rfl
 rw[e2]
 refine L2.at (aaw (wpAny_attempt (acW ?_)))
 unfold callGetattribute
 have e3:(expr&&onTheHeap (Value.builtin "BaseException.__getattribute__"))=false:=by cases expr <;> rfl
 rw[e3,ad8 ⋯]
 unfold boundAndCalled
 rw[Dr]
 refine aaw (aax (wpAny_call ?_))
 have hpl:plainId "BaseException.__getattribute__"=true:=⋯
 exists codeAny_call_builtin hpl PySem.F.entry_bexc_ga
 have hk:builtinKind "BaseException.__getattribute__"=some .slot:=⋯
 have hsplit:splitId "BaseException.__getattribute__"=some ("BaseException","__getattribute__"):=⋯
 exists @check_slot (model prog w) _ _ #[hp,g,d,t+1,os] "BaseException.__getattribute__" "BaseException" "__getattribute__" (.ref x) [.str name t] [] _ hk hsplit (L0.andThen L3) (PySem.F.args_bexc_ga _ _)
 refine aaw (aax (aaw (aax (aaw (L0.at (aaw (L4.at ?_)))))))
 exists aax
 show wpAny _ _ (handedOut v) _ _ _
 rw[handedOut_of hh]; exact aax (h (t+1))
let dR.put(r:Rep g v x){es:List (Str×V)}{ds:List DictEntry}(h:dR P g es ds):dR P g (up k v es) (W.putL k (PyData.keyHash P k) (.str k t) x ds):=by
 induction h with
 | nil=>exact .cons r .nil
 | @cons k' _ _ _ _ _ r' d ih =>
  unfold up W.putL
  by_cases h:k=k'
  .subst h
   simp only[Value.isStr,adZ,if_true]
   exact .cons r d
  .have:(k'==k)=false:=beq_false_of_ne λq=>h q.symm
   simp only[Value.isStr,this,adC,if_false,ad8 h]
   exact .cons r' ih
let oJ(k)(v:α):∀ es:List (Str×α),(up k v es).length<=es.length+1
 | []=>by simp[up]
 | (y,u)::r=>by
  unfold up
  split
  .simp
  .have:=oJ k v r; simp; omega
let M6:∀{es:List (Str×V)} {x:Str},x∈(up k v es).map (·.1)->x=k∨x∈es.map (·.1)
 | [],x,h=>by simp[up]at h; exact .inl h
 | (y,u)::r,x,h=>by
  unfold up at h
  show 2
  .exact .inr h
  .rcases acR.mp h with h | h
   .exact .inr (by rw[h]; exact .head _)
   .exact(M6 h).imp id λq=>.tail _ q
let dw.up:∀{es:List (Str×V)},dw es->dw (up k v es)
 | [],_=>by simp[dw,Mine.up]
 | (y,u)::r,h=>by
  unfold dw Mine.up at *
  have h':=adm.mp h
  split
  .exact h
  .rename_i ne
   refine adm.mpr #[λq=>?_,dw.up h'.2]
   rcases M6 q with q | q
   .exact ne q.symm
   .exact h'.1 q
open Builtin Builtin.ObjectAttr in show ∀{prog:Program}{w:World}{A:Around}{E:Value->Shared->Prop}{s:Shared}{K:Frag}{x C d:Addr}{ox:Obj}{name:Str}{v:Value}{ds:List DictEntry}{n:Nat}{tk:Tok},_
let nM(hd:s.heap.get? d=some (dictOf ds n))(hk:∀ e∈ds,∃ x t,e.key = .str x t)(hz:ds.length<=1000)(h:∀ h' n',Heap.SameBut d s.heap h'->h'.get? d=some (dictOf (W.putL name (PyData.keyHash w.params name) (.str name s.toks) v ds) n')->Q (.done (.ret .none)) { s with heap:=h',toks:=s.toks+1 }) :
  wpAny (model prog w) A (storeInDict d (.str name tk) name v) Q E s:=by
 refine aaw (aax (aaw ?_))
 unfold nsSet
 refine aaw (aaw (wpAny_askSetting (aax (aaw (wpAny_mkText (aaw (wpAny_loadPart hd ?_)))))))
 show 1
 have hany:ds.toArray.any (·.refKey)=false:=by
  rw[← Array.any_toList,List.any_eq_false]
  intro e he
  have#[x,t,h]:=hk e (by simpa using he)
  simp[DictEntry.refKey,h]
 rw[aRefKeyMayBeTheName_eq]
 unfold aRefKeyMayBeTheNameByArray
 rw[hany,Bool.and_false,ad8 ⋯]
 have e1:=putName_dict name (PyData.keyHash w.params name) (.str name s.toks) v ds n
 exists wpAny_updatePart hd
 have hg:=ad1 (Obj.putName name (PyData.keyHash w.params name) (.str name s.toks) v) hd (by rw[e1]; rfl)
 rw[e1]at hg
 have hl:(W.putL name (PyData.keyHash w.params name) (.str name s.toks) v ds).length<=ds.length+1:=by
  clear hg e1 hany hd hk hz h
  induction ds with
  | nil=>simp[W.putL]
  | cons e r ih=>unfold W.putL; split <;> simp <;> omega
 refine aaw (wpAny_lookBehind hg (pastItsLine_dict (by rw[List.size_toArray,acM]; omega)) ?_)
 exact aax (h _ _ (Heap.SameBut.update ..) hg)
let pq(X:K.In s.heap)(hx:s.heap.get? x=some ox)(hc:ox.cls = .ref C)(hh:hasDictIn K C=true)(hdx:ox.dict=some d)(hd:s.heap.get? d=some (dictOf ds n))(hk:∀ e∈ds,∃ x t,e.key = .str x t)(hz:ds.length<=1000)(h:∀ h' n',Heap.SameBut d s.heap h'->h'.get? d=some (dictOf (W.putL name (PyData.keyHash w.params name) (.str name s.toks) v ds) n')->Q (.done (.ret .none)) { s with heap:=h',toks:=s.toks+1 }) :
  wpAny (model prog w) A (storeInOwnDict (.ref x) (.ref C) (.str name tk) name v b) Q E s:=by
 have#[cd,hcd,hd']:=any_some hh
 have#[oc,odi,oda,osl]:=ox
 dsimp only at hc hdx
 subst hc hdx
 refine aaw (aax (aaw (aaw (wpAny_loadPart hx (aaw ((looks_clsIn X hcd).here ?_))))))
 rw[hd']
 exists aax
 exact nM hd hk hz h
let Ag(X:K.In s.heap)(hx:s.heap.get? x=some #[.ref C,none,.fields fs,([].toArray)])(hh:hasDictIn K C=true)(h:∀ h' n',h'.objs.size=s.heap.objs.size+1->(∀ b o,b≠x->s.heap.get? b=some o->h'.get? b=some o)->h'.get? x=some #[.ref C,some s.heap.objs.size,.fields fs,([].toArray)] ->
   h'.get? s.heap.objs.size=some (dictOf [#[PyData.keyHash w.params name,.str name s.toks,v]] n')->Q (.done (.ret .none)) { s with heap:=h',toks:=s.toks+1 }) :
  wpAny (model prog w) A (storeInOwnDict (.ref x) (.ref C) (.str name tk) name v b) Q E s:=by
 have#[cd,hcd,hd']:=any_some hh
 refine aaw (aax (aaw (aaw (wpAny_loadPart hx (aaw ((looks_clsIn X hcd).here ?_))))))
 rw[hd']
 refine aaw (wpAny_alloc (aaw ?_))
 have hx':=abt { cls:=.type "dict",data:=.dict ([].toArray) } hx
 exists wpAny_update hx'
 refine aaw (aax (aax ?_))
 have hne:=adl (adB hx)
 have hn:=aaX s.heap (o:=({ cls:=.type "dict",data:=.dict ([].toArray) }:Obj)) rfl
 have hn':=(adY (s.heap.push { cls:=.type "dict",data:=.dict ([].toArray) }) (λo:Obj=>{ o with dict:=some s.heap.objs.size }) hne).trans hn
 have hx2:=ad1 (λo:Obj=>{ o with dict:=some s.heap.objs.size }) hx' rfl
 refine nM hn' (λe he=>by simp at he) (by simp) λh' n' sb hg=>?_
 refine h h' n' ?_ (λb o hb ho=>?_) ?_ hg
 .rw[sb.1,Heap.size_update,ad7]
 .rw[sb.2 b (adl (adB ho)),adY _ _ (Ne.symm hb)]
  exact abt _ ho
 .rw[sb.2 x hne]; exact hx2
open Builtin Builtin.ObjectAttr in show _
let Hk(self):refuseLoop self "__setattr__" [.type "Exception",.type "BaseException",.type "object"]=pure ():=by kernel_rfl
let nT(self):∀{l:List Value},aM l=true->refuseLoop self "__setattr__" l=pure ()
 | [],e=>by simp[aM]at e
 | .ref c::r,e=>by rw[refuseLoop_ref]; exact nT self (by simpa [aM]using e)
 | .type n::r,e=>by
  have:(.type n::r:List Value)=[.type "Exception",.type "BaseException",.type "object"]:=by simpa [aM]using e
  rw[this]; exact Hk self
 | .none::r,e=>by simp[aM]at e
 | .ellipsis::r,e=>by simp[aM]at e
 | .notImplemented::r,e=>by simp[aM]at e
 | .bool _::r,e=>by simp[aM]at e
 | .int _ _::r,e=>by simp[aM]at e
 | .float _ _::r,e=>by simp[aM]at e
 | .str _ _::r,e=>by simp[aM]at e
 | .bytes _ _::r,e=>by simp[aM]at e
 | .builtin _::r,e=>by simp[aM]at e
let uE:∀{l:List Value},aM l=true->l.contains (.type "object")=true/\l.contains (.type "BaseException")=true
 | [],e=>by simp[aM]at e
 | .ref c::r,e=>by
  have:=uE (by simpa [aM]using e)
  rw[List.contains_cons,List.contains_cons,this.1,this.2,Bool.or_true,Bool.or_true]; exact#[rfl,rfl]
 | .type n::r,e=>by
  have:(.type n::r:List Value)=[.type "Exception",.type "BaseException",.type "object"]:=by simpa [aM]using e
  rw[this]; exact#[by decide,by decide]
 | .none::r,e=>by simp[aM]at e
 | .ellipsis::r,e=>by simp[aM]at e
 | .notImplemented::r,e=>by simp[aM]at e
 | .bool _::r,e=>by simp[aM]at e
 | .int _ _::r,e=>by simp[aM]at e
 | .float _ _::r,e=>by simp[aM]at e
 | .str _ _::r,e=>by simp[aM]at e
 | .bytes _ _::r,e=>by simp[aM]at e
 | .builtin _::r,e=>by simp[aM]at e
open Builtin Builtin.ObjectAttr in show ∀{prog:Program}{w:World}{A:Around}{E:Value->Shared->Prop}{s:Shared}{K:Frag}{x C d:Addr}{ox:Obj}{od:Option Obj}{name:Str}{v:Value},_
let CP(X:K.In s.heap)(I:InstAt s.heap x ox C od)(hs:findIn K (.ref C) "__setattr__"=some (some (.builtin "object.__setattr__")))(hp:(clsIn K C).any (λcd=>aM cd.mro)=true)(ht:takerIn K C name=some none)(h:∀ b tk,wpAny (model prog w) A.in1 (storeInOwnDict (.ref x) (.ref C) (.str name tk) name v b) (λfin s'=>match fin with | .done (.ret _)=>Q () s' | _=>False) (λe s'=>E e s') { s with toks:=s.toks+1 }) :
  wpAny (model prog w) A (setAttr (.ref x) name v) Q E s:=by
 exists set_plain X I hs
 have SF:=PySem.F.store_object
 have#[cd,hc,ho]:=any_some hp
 have ne:cd.mro.isEmpty=false:=by cases q:cd.mro with | nil=>rw[q]at ho; cases ho | cons _ _=>rfl
 have I':InstAt ({ s with toks:=s.toks+1 }:Shared).heap x ox C od:=I
 have X':K.In ({ s with toks:=s.toks+1 }:Shared).heap:=X
 have sub:Looks (model prog w) ({ s with toks:=s.toks+1 }:Shared).heap (isInstance (.ref x) (.type "object")) true:=I'.type.andThen (looks_mroIn X' (by unfold mroIn; rw[hc,Option.bind_some,ad8 (by rw[ne]; decide),(uE ho).1]))
 refine codeAny_call_builtin SF.slot.plain SF.entry (@check_slot (model prog w) _ _ { s with toks:=s.toks+1 } "object.__setattr__" "object" "__setattr__" (.ref x) [.str name s.toks,v] [] _ SF.kind SF.split sub (SF.args (.ref x) (.str name s.toks) v) ?_)
 have#[attr,ha,hr]:=Option.bind_eq_some_iff.mp ht
 have hm:Looks (model prog w) ({ s with toks:=s.toks+1 }:Shared).heap (mroOf (.ref C)) cd.mro:=(looks_clsIn X' hc).andThen .now
 have L3:Looks (model prog w) ({ s with toks:=s.toks+1 }:Shared).heap (storeTaker? attr) none:=by
  cases attr with
  | none=>exact .now
  | some a =>
   have#[b,hb,hr']:=adR.mp hr
   refine(looks_takesIn X' hb).andThen ?_
   cases b
   .exact .now
   .cases hr'
 rw[osa_eq,refuse_eq]
 refine aaw (aaw (I'.type.here (aaw (hm.here ?_))))
 rw[nT _ ho]
 refine aax (aaw (I'.type.here (aaw ((looks_findIn X' ha).here (aaw (L3.here ?_))))))
 refine aaz (h _ _) (λfin s' hf=>?_) λ_ _ q=>q
 cases fin with
 | done f=>cases f <;> first | exact hf | exact hf.elim
 | again c=>exact hf.elim
open Builtin Builtin.ObjectAttr in show ∀{T:Tp}{c:Cx}{F:Fc}{m:Lm}{X:Addr->Ψ}{U:Sg},_
let Rep.hand(r:Rep g v x)(h:zK v=true):handedIn x=true:=by
 cases r <;> first | rfl | cases h
let TF(si:T.Si g s)(vw:View U g)(h1:U a=some (.exc C (some d)))(h2:U d=some (.dict es)) :
  ∃ ds n a0 tb ctx ca su me,dR T.w.params g es ds/\s.heap.get? d=some (dictOf ds n)/\es.length<=1000/\dw es/\s.heap.get? a=some (Gg C (some d) a0 tb ctx ca su me)/\InstAt s.heap a (Gg C (some d) a0 tb ctx ca su me) C (some (dictOf ds n)):=by
 have q1:=si.ok a
 rw[vw a _ h1]at q1
 have q2:=si.ok d
 rw[vw d _ h2]at q2
 have#[ds,n,e1,e2,e3,e4]:=q2
 have#[a0,tb,ctx,ca,su,me,e5,_]:=q1
 exact#[ds,n,a0,tb,ctx,ca,su,me,e2,e1,e3,e4,e5,e5,rfl,rfl,e1]
let xq(si:T.Si g s)(vw:View U g)(r:Rep g v x)(h:aY U v name Q)(k:∀ u y (n:Nat),Rep g u y->Q u->P y { s with toks:=n }):wpAny T.M A (getAttr x name expr) P E s:=by
 unfold aY DX at h
 cases r <;> dsimp only at h <;> try show 4
 rename_i a
 have X:=si.K T.inK
 show 2
 .rename_i C d h1
  have#[ht,h]:=h
  show 2
  .rename_i es h2
   show 2
   .rename_i u h3
    have#[ds,n,e1,e2,e3,e4,I]:=Ey si vw h1 h2
    have#[t1,t2,t3,t4,t5,t6]:=T.attr_ok _ _ ht
    have q:=e1.getL name
    rw[h3]at q
    have#[y,q1,q2]:=q
    exact get_value X I (plainGet_of t1).1 (findObj_own t2 t3 rfl q1) (q2.hand h.1) (k u y _ q2 h.2)
   .show 4
  .show 4
 .rename_i C d h1
  have#[ht,h]:=h
  show 2
  .rename_i es h2
   show 2
   .rename_i u h3
    have#[ds,n,a0,tb,ctx,ca,su,me,e1,e2,e3,e4,e5,I]:=TF si vw h1 h2
    have#[t1,t2,t3,t4,t5,t6,t7,t8]:=T.exc_ok _ _ ht
    have q:=e1.getL name
    rw[h3]at q
    have#[y,q1,q2]:=q
    exact Vv X I t1 t2 t3 (findObj_own t5 t4 rfl q1) (q2.hand h.1) λn=>k u y n q2 h.2
   .show 4
  .show 4
 .show 4
let DX.gj(h:DX U v n Q)(k:∀ v,Q v->Q' v):DX U v n Q':=by
 unfold DX at *
 show 2
 .show 2
  .refine#[h.1,?_]
   have#[_,h]:=h
   show 2
   .show 2
    .exact k _ h
    .show 4
   .show 4
  .refine#[h.1,?_]
   have#[_,h]:=h
   show 2
   .show 2
    .exact k _ h
    .show 4
   .show 4
  .show 4
 .show 4
let aY.gj(h:aY U v n Q)(k:∀ v,Q v->Q' v):aY U v n Q':=DX.gj h λ_ z=>#[z.1,k _ z.2]
let lM(h:fj o=true):attributeBase o n env t=t:=by
 cases o <;> first | rfl | cases h
let Lz(hb:fj o=true)(h:aP T c F m o (λv xb=>aY xb v name λu=>Q u xb) X U):aP T c F m (.Attribute o name pos) Q X U:=λA L l' g s R=>by
 have e:eval (.Attribute o name pos) (F.env L)=(do
   let v ← attributeBase o name (F.env L) (eval o (F.env L))
   standAt pos.atName
   let r ← holding [v] (getAttr v name true)
   letTemporaryGo o v r
   pure r):=rfl
 rw[e,lM hb]
 refine aaw (h.bind R λa wy ut av xb vy ua wn vm=>aaw (adF (aaw (acW ?_))))
 exact xq ua.si ua.view wn vm λu y n r q=>aaw (wpAny_letTemporaryGo (aax #[ut,u,xb,vy,ua.si.tok,ua.view,r,q]))
open Builtin Builtin.ObjectAttr in show _
let pD(l:List α)(lo hi):(cut l lo hi).length<=l.length:=by
 unfold cut
 simp only[List.length_take,List.length_drop]
 omega
let ZG(lo hi)(n):Builtin.Str.strSliceIndices lo hi 1 n=(List.range (hi.elim n (clipAt n)-lo.elim 0 (clipAt n))).map (lo.elim 0 (clipAt n) + ·):=by
 rw[← sliceRange_one]
 unfold Builtin.Str.strSliceIndices
 cases lo <;> cases hi <;> simp[clipAt_cast]
let Vl(n)(i):clipAt n i<=n:=by have:=clipAt_cast n i; omega
let zq(hz:x.length<=sizeLine)(h:∀ t' n,Q (.str #[(cut x (l.map (·.1)) (u.map (·.1))).toArray] t') { s with toks:=n }) :
  (sliceMade #[x.toArray] t l u none).post Q s:=by
 have e0:slicePicked #[x.toArray] l u none=(List.range ((u.map (·.1)).elim x.length (clipAt x.length)-(l.map (·.1)).elim 0 (clipAt x.length))).map ((l.map (·.1)).elim 0 (clipAt x.length) + ·):=by
  unfold slicePicked
  show Builtin.Str.strSliceIndices _ _ 1 (Str.length #[x.toArray])=_
  rw[f9,ZG]
 have e:((slicePicked #[x.toArray] l u none).filterMap ((#[x.toArray]:Str).cps[·]?))=cut x (l.map (·.1)) (u.map (·.1)):=by
  rw[e0,pick_run]
  rfl
 unfold sliceMade
 split
 .rename_i q
  have q':(slicePicked #[x.toArray] l u none).length=x.length:=by
   simp only[acV,beq_iff_eq]at q
   rw[q.2,f9]
  have:cut x (l.map (·.1)) (u.map (·.1))=x:=by
   rw[e0]at q'
   simp only[ac0,List.length_range]at q'
   unfold cut
   have hb:(u.map (·.1)).elim x.length (clipAt x.length)<=x.length:=by
    cases u <;> simp[Vl]
   by_cases hx:x.length=0
   .have:=List.length_eq_zero_iff.mp hx
    subst this; simp
   .have ha:(l.map (·.1)).elim 0 (clipAt x.length)=0:=∎
    have hb':(u.map (·.1)).elim x.length (clipAt x.length)=x.length:=∎
    rw[ha,hb']; simp
  have q2:=h t s.toks
  rw[this]at q2
  exact q2
 .rw[e]
  refine#[?_,h _ _]
  have:=pD x (l.map (·.1)) (u.map (·.1))
  rw[f9]; omega
let MP(h:idx i n=some j)(hj:j<n):seqIndex? i n=some j:=by
 unfold idx at h
 unfold seqIndex?
 show 1
 show 2
 .rename_i q
  cases h
  have e:(if i<0 then i+(n:Int)else i)=i:=ad8 ∎
  rw[e,ad9 (by simp only[acV,decide_eq_true_eq]; omega)]
 .show 2
  .rename_i q1 q2
   cases h
   have e:(if i<0 then i+(n:Int)else i)=i+n:=ad9 ∎
   rw[e,ad9 (by simp only[acV,decide_eq_true_eq]; omega)]
  .cases h
let Ds{α:Type}{l:List α}{x:α}(h:l[i]? = some x):i<l.length:=(adU.mp h).1
open Builtin Builtin.ObjectAttr in show ∀{T:Tp}{c:Cx}{F:Fc}{m:Lm}{X:Addr->Ψ}{U:Sg},_
let iQ(h:mJ slice=true):subscripted slice false o i=operate [o,i] (getItem o i):=by
 cases slice <;> first | rfl | cases h
let zN{lo hi:Option Expr}:subscripted (.Slice lo hi none p) false o i=operate [i,o] (getItem o i):=rfl
let Es(hs:mJ slice=true)(si:T.Si g s)(vw:View U g)(ro:Rep g o ov)(ri:Rep g i iv)(h:di T U o i Q)(k:∀ u y (n:Nat),Rep g u y->Q u->P y { s with toks:=n }):wpAny T.M A (subscriptTail value slice ov iv) P E s:=by
 unfold di at h
 show 2
 .rename_i l i
  cases ro with | str _ t z=>cases ri with | int _ u =>
  have#[h0,h]:=h
  show 2
  .rename_i ch hc
   have hlt:=Ds hc
   have hz:=gG z
   refine tail_any rfl slot_str_getitem.lookup (PyProof.Rows.getItem_str (by simp; omega) ?_ (k (.str [ch]) _ _ (.str [ch] _ (by rw[acM]; simp)) h)) (iQ hs)
   rw[f9]
   have e:=MP (by unfold idx; rw[ad9 h0]) hlt
   rw[e]
   simpa using hc
  .show 4
 .rename_i vs i
  cases ri with | int _ u=>cases ro with | tup h1 h2 h3 =>
  show 2
  .rename_i j hj
   show 2
   .rename_i v hv
    have#[x,hx,rx]:=h2.get hv
    have hlt:=Ds hv
    have hz:=gG h3
    refine tail_any (bz si h1).typeIs slot_tuple_getitem.lookup (getItem_tuple (bz si h1) ?_ ?_ ?_ (by simpa using hx) (k v x s.toks rx h)) (iQ hs)
    .unfold idx at hj; split at hj
     .omega
     .split at hj
      .omega
      .cases hj
    .unfold idx at hj; split at hj
     .cases hj; omega
     .omega
    .rw[List.size_toArray,h2.length]; exact MP hj hlt
   .show 4
  .show 4
 .rename_i a i
  cases ri with | int _ u=>cases ro with | ref _ =>
  .have#[vs,hvs,h]:=h
   have#[xs,l1,l2,l3]:=hvs.elim (bQ si vw) (CG si)
   show 2
   .rename_i j hj
    show 2
    .rename_i v hv
     have#[x,hx,rx]:=l2.get hv
     have hlt:=Ds hv
     have hz:=gG l3
     by_cases h0:0<=i
     .have ej:j=i.toNat:=by unfold idx at hj; rw[ad9 h0]at hj; cases hj; rfl
      subst ej
      exact tail_any l1.typeIs slot_list_getitem.lookup (wpAny_getItem_list l1 h0 ∎ (by simpa using hx) (k v x s.toks rx h)) (iQ hs)
     .have hn : -(vs.length:Int)<=i:=by
       unfold idx at hj; rw[ad8 h0]at hj; split at hj
       .assumption
       .cases hj
      have ej:j=(i+vs.length).toNat:=by unfold idx at hj; rw[ad8 h0,ad9 hn]at hj; cases hj; rfl
      have sz:=l2.length
      refine tail_any l1.typeIs slot_list_getitem.lookup (wpAny_getItem_list_neg l1 ∎ (by rw[List.size_toArray,sz]; omega) ∎ ?_ (k v x s.toks rx h)) (iQ hs)
      rw[List.size_toArray,sz,← ej]
      simpa using hx
    .show 4
   .show 4
 .rename_i a kk
  cases ri with | str _ u z=>cases ro with | ref _ =>
  show 2
  .rename_i es hes
   show 2
   .rename_i v hv
    have#[ds,d1,d2]:=mapOf si vw hes
    have:=d1.find #[kk.toArray]
    rw[hv]at this
    have#[x,q1,q2]:=this
    exact tail_any d2.typeIs slot_dict_getitem.lookup (wpAny_getItem_of (strKind_is T.prog T.w _ u) d2 q1 (k v x _ q2 h)) (iQ hs)
   .show 4
  .show 4
 .show 4
let Wd(hs:mJ i=true)(h:aP T c F m o (λov xb=>aP T c F m i (λiv xc=>di T xc ov iv λv=>Q v xc) X xb) X U):aP T c F m (.Subscript o i pos) Q X U:=λA L l' g s R=>by
 refine Subscript_ (h.bind R λa wy ut av xb vy ua wn vm=>Uw vy (vm.bind ua λb wz uu bv xc vz ub wp vn=>?_))
 exact Es hs ub.si ub.view (wn.mono vz.imm) wp vn λu y n r q=>#[uu,u,xc,vy.trans vz,ub.si.tok,ub.view,r,q]
open Builtin Builtin.ObjectAttr in show _
let Tj(r:aV g vs xs)(a b):aV g (cut vs a b) (cut xs a b):=by
 unfold cut
 rw[r.length]
 exact(r.drop _).take _
open Builtin Builtin.ObjectAttr in show ∀{T:Tp}{c:Cx}{F:Fc}{m:Lm}{X:Addr->Ψ}{U:Sg},_
have yU(T:Tp)(c:Cx)(F:Fc)(m:Lm)(e:Option Expr)(Q:V->Ψ)(X:Addr->Ψ)(U:Sg):Prop:=match e with
 | none=>Q .none U
 | some e=>aP T c F m e Q X U
let yU.bind(h:yU T c F m e Q X U)(R:Run T c F m U A L l g s)(k:∀ v s' g' x U',Le g g'->Run T c F m U' A L l g' s'->Rep g' x v->Q x U'->P v s') :
  wpAny T.M A (valueOrNone (evalOpt e (F.env L))) P (PX T g X) s:=by
 cases e with
 | none=>exact aax (k .none s g .none U (Le.refl g) R .none h)
 | some e=>exact aP.bind h R k
let qU{o:Expr}{lo hi:Option Expr}{p pos:Pos}{Q:V->Ψ}(h:aP T c F m o (λov xb=>yU T c F m lo (λlv xc=>yU T c F m hi (λhv xf=>lE xf ov lv hv Q) X xc) X xb) X U):aP T c F m (.Subscript o (.Slice lo hi none p) pos) Q X U:=λA L l' g s R=>by
 refine Subscript_ (h.bind R λa wy ut av xb vy ua wn vm=>?_)
 show wpAny T.M A (do
  let l ← valueOrNone (evalOpt lo (F.env L))
  let u ← holding [l] (valueOrNone (evalOpt hi (F.env L)))
  let s ← holding [l,u] (valueOrNone (evalOpt none (F.env L)))
  newFields "slice" [l,u,s]) _ _ wy
 refine aaw (Uw vy (yU.bind vm ua λlv wz uu lx xc vz ub wp vn=>aaw (acW (Uw (vy.trans vz) (yU.bind vn ub λhv x0 uv hx xf w7 uc wt vo=>?_)))))
 refine aaw (acW (aax ?_))
 unfold newFields
 refine wpAny_newObj_type ?_ (by show(3:Nat)<=_; rw[acM]; omega)
 have wo:=(wn.mono vz.imm).mono w7.imm
 have wq:=wp.mono w7.imm
 have K:=(vy.trans vz).trans w7
 have okp:=uc.si.ok.UW { cls:=.type "slice",data:=.fields ([lv,hv,.none].toArray) }
 have si':T.Si uv { x0 with heap:=x0.heap.push { cls:=.type "slice",data:=.fields ([lv,hv,.none].toArray) },toks:=x0.toks }:=Si.at uc.si (λ_ _ x=>x) okp
 unfold lE at vo
 split at vo
 .rename_i l
  cases wo with | str _ t z =>
  have part:∀{v:V} {x:Value} {a:Option Int},Rep uv v x->HD v=some a->∃ q:Option (Int×Tok),x=partValue q/\q.map (·.1)=a:=by
   intro v x a r e
   cases r <;> simp[HD]at e
   .subst e; exact#[none,rfl,rfl]
   .rename_i i t; subst e; exact#[some (i,t),rfl,rfl]
  split at vo
  .rename_i a b ha hb
   have#[q1,rfl,e1]:=part wq ha
   have#[q2,rfl,e2]:=part wt hb
   refine tail_any rfl slot_str_getitem.lookup (wpAny_getItem_str_slice #[_,aaX _ rfl,rfl,rfl] rfl (zq z λt' n=>?_)) zN
   rw[e1,e2]
   exact#[uv,_,xf,K,si'.tok,uc.view,.str _ _ (aaC (pD ..) z),vo]
  .exact vo.elim
 .rename_i a
  cases wo with | ref _ =>
  have part:∀{v:V} {x:Value} {a:Option Int},Rep uv v x->HD v=some a->IsPart x a:=by
   intro v x a r e
   cases r <;> simp[HD]at e
   .subst e; constructor
   .rename_i i t; subst e; constructor
  split at vo
  .rename_i vs hvs
   split at vo
   .rename_i x y hx' hy'
    have#[xs,l1,l2,l3]:=bQ si' uc.view hvs
    refine tail_any l1.typeIs slot_list_getitem.lookup (wpAny_getItem_list_slice l1 #[_,aaX _ rfl,rfl,rfl] (part wq hx') (part wt hy') (by constructor) (by simp) ?_ (by rw[List.size_toArray,l2.length]; exact l3)) zN
    rw[slicePick_plain]
    have e:((xs.toArray.toList.drop (x.elim 0 (clipAt xs.toArray.size))).take (y.elim xs.toArray.size (clipAt xs.toArray.size)-x.elim 0 (clipAt xs.toArray.size)))=cut xs x y:=by simp[cut]
    rw[e]
    have fr:=si'.ok.fresh
    have sm:bG uv (uv.set (x0.heap.push { cls:=.type "slice",data:=.fields ([lv,hv,.none].toArray) }).objs.size (.cell (.list (cut vs x y)))):=bG.fill fr
    refine#[_,.ref _,_,K.trans sm.toLe,Si.at si' sm.imm (okp.push #[cut xs x y,0,aaX _ rfl,(Tj l2 x y).mono sm.imm,aaC (pD ..) l3]),uc.view.set,.ref _,vo _ (uc.view.QV okp (abW _))]
   .exact vo.elim
  .exact vo.elim
 .exact vo.elim
show _
have FZ(T:Tp):V->Prop
 | .ref a=>keepIn T.K (.ref a)=true
 | .bi _=>True
 | .typ _=>True
 | _=>False
let pC(r:Rep g f fv)(h:FZ T f):∀ hp,T.K.In hp->∃ k,(k=Keeper.frame∨k=Keeper.machine∨k=Keeper.boundFrame)/\Looks M hp (keeperOf fv) k:=λhp hk=>by
 cases r <;> try show 4
 .have#[k,e,l]:=looks_keep h hk
  exact#[k,e.elim .inl λx=>.inr (.inl x),l]
 .exact#[.machine,.inr (.inl rfl),λ_ _ _ _ _ q=>aax q]
 .exact#[.machine,.inr (.inl rfl),λ_ _ _ _ _ q=>aax q]
let lq:∀{es:List Expr},es.all noStar=true->(backTo pos (starEach es env)).any (·.1)=false
 | [],_=>rfl
 | e::es,h=>by
  have h1:=(List.all_cons▸h:(noStar e&&es.all noStar)=true)
  rw[acV]at h1
  have ih:=lq (env:=env) (pos:=pos) h1.2
  have:(backTo pos (starEach (e::es) env))=(false,eval e env >>= λv=>standAt pos >>= λ_=>pure v)::backTo pos (starEach es env)∨True:=.inr trivial
  cases e <;> first | exact ih | cases h1.1
show ∀{T:Tp}{c:Cx}{F:Fc}{m:Lm}{X:Addr->Ψ}{U:Sg},_
have pR(T:Tp)(c:Cx)(F:Fc)(m:Lm):(es:List Expr)->(Q:List V->Ψ)->(X:Addr->Ψ)->(U:Sg)->Prop
 | [],Q,_,U=>Q [] U
 | e::es,Q,X,U=>(e::es).all noStar=true/\ie T c F m (e::es) Q X U
let mY(R:Run T c F m U A L l g s)(rf:Rep g f fv)(rs:aV g fs first)(hc:FZ T f)(h:pR T c F m es (λvs xb=>aj T c f (fs++vs) Q X xb) X U) :
  wpAny T.M A (callWith pos fv first (backTo pos (starEach es (F.env L))) (backToKw pos (keywordEach [] (F.env L)))) (PV T g Q) (PX T g X) s:=by
 have fin:∀ vs' s' g' vs U',Le g g'->Run T c F m U' A L l g' s'->aV g' vs vs'->aj T c f (fs++vs) Q X U'->T.K.In s'.heap/\wpAny T.M A (call fv (first++vs') []) (PV T g Q) (PX T g X) s':=λvs' s' g' vs U' k R' r q =>
  #[R'.si.K T.inK,XJ k (q g' s' A _ fv _ R'.view R'.si R'.aok (rf.mono k.imm) ((rs.mono k.imm).append r))]
 cases es with
 | nil =>
  exists callWith_of rfl (pC rf hc)
  exact evalArgs_nil3 (fin [] s g [] U (Le.refl g) R .nil h)
 | cons e es =>
  have#[hs,h]:=h
  exists callWith_of (by rw[lq hs]; rfl) (pC rf hc)
  have e1:∃ x,backTo pos (starEach (e::es) (F.env L))=(false,x)::backTo pos (starEach es (F.env L)):=by
   cases e <;> first | exact#[_,rfl] | cases hs
  have h':=h.bind R (pos:=pos) fin
  have#[x,e1]:=e1
  rw[e1]at h' ⊢
  exact evalArgs_plain h'
have notAttr(e:Expr):Bool:=!Nat.beq e.ctorIdx 20
let Mq(hn:notAttr f=true)(h:aP T c F m f (λfv xb=>FZ T fv/\pR T c F m es (λvs xc=>aj T c fv vs Q X xc) X xb) X U):aP T c F m (.Call f es [] pos) Q X U:=λA L l g s R=>by
 have e:eval (.Call f es [] pos) (F.env L)=(do
  callWith pos (← eval f (F.env L)) [] (backTo pos (starEach es (F.env L))) (backToKw pos (keywordEach [] (F.env L)))):=by
  cases f <;> first | rfl | cases hn
 rw[e]
 refine aaw (h.bind R λa wy ut av xb vy ua wn vm=>XJ vy (mY ua wn .nil vm.1 vm.2))
let Fg:∀{l},lkM C n l=some f->(C,n,f)∈l
 | [],h=>by cases h
 | (D,x,k)::r,h=>by
  rw[lkM]at h
  show 2
  .rename_i e; have#[rfl,rfl]:=e; cases h; exact .head _
  .exact .tail _ (Fg h)
let Dw{id:String}(h:lC n=some id):PySem.Slot "str" n id/\typeOf (.builtin id)=pure (.type "method_descriptor"):=by
 unfold lC at h
 show 2
 .cases h; subst_vars; exact#[PySem.F.slot_str_startswith,rfl]
 show 2
 .cases h; subst_vars; exact#[PySem.F.slot_str_endswith,rfl]
 show 2
 .cases h; subst_vars; exact#[PySem.F.slot_str_find,rfl]
 show 2
 .cases h; subst_vars; exact#[PySem.F.slot_str_rfind,rfl]
 show 2
 .cases h; subst_vars; exact#[PySem.F.slot_str_split,rfl]
 show 2
 .cases h; subst_vars; exact#[PySem.F.slot_str_join,rfl]
 show 2
 .cases h; subst_vars; exact#[PySem.F.slot_str_lower,rfl]
 cases h
let Aq{id:String}(h:j6 n=some id):PySem.Slot "list" n id/\typeOf (.builtin id)=pure (.type "method_descriptor"):=by
 unfold j6 at h
 show 2
 .cases h; subst_vars; exact#[PySem.F.slot_list_append,rfl]
 show 2
 .cases h; subst_vars; exact#[PySem.F.slot_list_extend,rfl]
 show 2
 .cases h; subst_vars; exact#[PySem.F.slot_list_index,rfl]
 cases h
let Bj{id:String}(h:rz n=some id):PySem.Slot "dict" n id/\typeOf (.builtin id)=pure (.type "method_descriptor"):=by
 unfold rz at h
 show 2
 .cases h; subst_vars; exact#[PySem.F.slot_dict_pop,rfl]
 cases h
let QS(si:T.Si g s)(vw:View U g)(r:Rep g v x)(h:MethP U v n P)(k:∀ f fv fs first,Rep g f fv->aV g fs first->P f fs->Q (fv,first) s):wpAny T.M A (getMethod x n pl) Q E s:=by
 unfold MethP at h
 cases r <;> dsimp only at h <;> try show 4
 .rename_i l t hz
  show 2
  .rename_i id hid
   have#[h1,h2]:=Dw hid
   exact getMethod_builtin rfl PySem.F.plainAttrs_str h1 h2 (λa e=>by cases e) (k _ _ _ _ (.bi _) (.cons (.str l t hz) .nil) h)
  .show 4
 .rename_i a
  show 2
  .rename_i vs hv
   show 2
   .rename_i id hid
    have#[h1,h2]:=Aq hid
    have q:=si.ok a
    rw[vw a _ hv]at q
    have#[xs,n,q1,q2,q3]:=q
    exact getMethod_builtin #[_,q1,rfl] PySem.F.plainAttrs_list h1 h2 (λb e=>by cases e; exact#[_,q1,rfl]) (k _ _ _ _ (.bi _) (.cons (.ref a) .nil) h)
   .show 4
  .rename_i vs hv
   show 2
   .rename_i id hid
    have#[h1,h2]:=Bj hid
    have q:=si.ok a
    rw[vw a _ hv]at q
    have#[ds,n,q1,q2,q3]:=q
    exact getMethod_builtin #[_,q1,rfl] PySem.F.plainAttrs_dict h1 h2 (λb e=>by cases e; exact#[_,q1,rfl]) (k _ _ _ _ (.bi _) (.cons (.ref a) .nil) h)
   .show 4
  .rename_i C d hv
   show 2
   .rename_i es f h2 h3
    have#[ds,nn,e1,e2,e3,e4,I]:=Ey si vw hv h2
    have#[t1,t2,t3]:=T.meth_ok _ _ _ (Fg h3)
    have q:=e1.getL n
    rw[h.1]at q
    have#[p1,p2]:=plainGet_of t1
    refine method_fn (si.K T.inK) I p1 p2 t2 (by simpa [isFn]using t3) ?_ (k _ _ _ _ (.ref f) (.cons (.ref a) .nil) h.2)
    show Option.map _ (lookIn n (dictOf ds nn))=some false
    have:lookIn n (dictOf ds nn)=some none:=q
    rw[this]; rfl
   .show 4
  .show 4
let Xx{apos pos:Pos}{Q:V->Ψ}(hb:fj o=true)(hl:(apos.endLine==pos.line)=true)(hlen:decide (es.length<30)=true)(hns:es.all noStar=true)(h:aP T c F m o (λov xb=>MethP xb ov name λf fs=>FZ T f/\pR T c F m es (λvs xc=>aj T c f (fs++vs) Q X xc) X xb) X U):aP T c F m (.Call (.Attribute o name apos) es [] pos) Q X U:=λA L l g s R=>by
 rw[arm_eval_Call,lM hb]
 refine aaw (h.bind R λa wy ut av xb vy ua wn vm=>aaw (adF ?_))
 have hform:methodCallForm (es.length+([]:List Keyword).length) (backTo pos (starEach es (F.env L))) (backToKw pos (keywordEach [] (F.env L)))=true:=by
  have e1:(backTo pos (starEach es (F.env L))).all (λx=>!x.1)=true:=by
   have:=lq (env:=F.env L) (pos:=pos) hns
   rw[List.all_eq_not_any_not]
   simpa using this
  show((_&&true)&&decide (es.length+0+0<30))=true
  rw[e1]; simpa using hlen
 have hpos:methodCallPos true o (F.env L) apos pos=pure pos:=by unfold methodCallPos; simp[hl]
 unfold methodCall
 rw[hform]
 refine aaw (acW (QS ua.si ua.view wn vm λf fv fs first rf rs q=>?_))
 rw[hpos]
 exact aaw (aax (XJ vy (mY ua rf rs q.1 q.2)))
show ∀{T:Tp}{c:Cx}{X:Addr->Ψ}{U:Sg}{Q:V->Ψ},_
have aar(U:Sg)(v:V)(P:Int->Prop):Prop:=match v with
 | .str l=>P l.length
 | .tup vs=>P vs.length
 | .ref a=>(match U a with | some (.list vs)=>P vs.length | _=>False)
 | _=>False
let J2(h:aar U v λn=>Q (.int n) U):aj T c (.bi "len") [v] Q X U:=λg s A l fv args vw si aok rf ra=>by
 cases rf
 cases ra with | cons r1 r2=>cases r2 with | nil =>
 unfold aar at h
 show 2
 .cases r1
  rename_i l t hz
  exists SBL.len (by rw[f9]; have:=gG hz; omega)
  rw[f9]
  exact PV.here si.tok vw (.int _ _) h
 .cases r1
  rename_i vs xs a n h1 h2 h3
  exists len_tuple (bz si h1) (by have:=gG h3; have:=h2.length; simp; omega)
  have:=h2.length
  exact PV.here si.tok vw (by simpa [this]using Rep.int _ _) h
 .show 2
  .rename_i vs hv
   cases r1
   have#[xs,h1,h2,h3]:=bQ si vw hv
   exists call_len_list h1 (by have:=gG h3; have:=h2.length; simp; omega)
   have:=h2.length
   exact PV.here si.tok vw (by simpa [this]using Rep.int _ _) h
  .show 4
 .show 4
let Q5(b:Bf T a vs)(h:Q (.int vs.length) U):aj T c (.bi "len") [.ref a] Q X U:=λg s A l fv args vw si aok rf ra=>by
 cases rf
 cases ra with | cons r1 r2=>cases r2 with | nil =>
 cases r1
 have#[xs,h1,h2,h3]:=CG si b
 exists call_len_list h1 (by have:=gG h3; have:=h2.length; simp; omega)
 have:=h2.length
 exact PV.here si.tok vw (by simpa [this]using Rep.int _ _) h
let Zw{n:Nat}(h:Q (.int n) U):aj T c (.bi "ord") [.str [n]] Q X U:=λg s A l fv args vw si aok rf ra=>by
 cases rf
 cases ra with | cons r1 r2=>cases r2 with | nil =>
 cases r1
 exists ord_of_one (by rw[f9]; rfl)
 exact PV.here si.tok vw (.int _ _) h
let Gx(h:Q (.bool (Txt.endswith (Cs x) (Cs y))) U):aj T c (.bi "str.endswith") [.str x,.str y] Q X U:=λg s A l fv args vw si aok rf ra=>by
 cases rf
 cases ra with | cons r1 r2=>cases r2 with | cons r2 r3=>cases r3 with | nil =>
 cases r1; cases r2
 exact SC.endswith (PV.here si vw (.bool _) h)
let Wx(h:Q (.int (Txt.find (Cs x) (Cs y))) U):aj T c (.bi "str.find") [.str x,.str y] Q X U:=λg s A l fv args vw si aok rf ra=>by
 cases rf
 cases ra with | cons r1 r2=>cases r2 with | cons r2 r3=>cases r3 with | nil =>
 cases r1; cases r2
 exact SC.find (PV.here si.tok vw (.int _ _) h)
let JN(xs)(n)(f:Array Value->Array Value):∃ n',Obj.mapSeq f (Og xs n)=Og (f xs.toArray).toList n':=by
 unfold Og Obj.mapSeq
 exact#[_,by simp; rfl]
let rQ(si:T.Si g s)(vw:View U g)(h:U a=some (.list vs))(ho:s.heap.get? a=some (Og xs n))(hf:f xs.toArray=ys.toArray)(r:aV g ws ys)(hz:ws.length<=sizeLine) :
  Le g (g.set a (.cell (.list ws)))/\T.Si (g.set a (.cell (.list ws))) { s with heap:=s.heap.update a (Obj.mapSeq f) }/\View (U.set a (.list ws)) (g.set a (.cell (.list ws))):=by
 have le:Le g (g.set a (.cell (.list ws))):=Le.turn (vw a _ h) λC d e=>by cases e
 refine#[le,Si.at si le.imm ?_,vw.set]
 exists si.ok.sameBut (Heap.SameBut.update ..) 0 (le.toL 0)
 have#[n',e]:=JN xs n f
 have:=ad1 (Obj.mapSeq f) ho (by rw[e]; rfl)
 rw[e,hf]at this
 exact#[ys,n',this,r.mono le.imm,hz]
let aH{v:V}(h:U a=some (.list vs))(hz:vs.length+1<=sizeLine)(q:Q .none (U.set a (.list (vs++[v])))):aj T c (.bi "list.append") [.ref a,v] Q X U:=λg s A l fv args vw si aok rf ra=>by
 cases rf
 cases ra with | cons r1 r2=>cases r2 with | cons r2 r3=>cases r3 with | nil =>
 cases r1
 have qq:=si.ok a
 rw[vw a _ h]at qq
 have#[xs,n,ho,hr,hl]:=qq
 rename_i y
 have#[le,si',vw']:=rQ (f:=(·.push y)) si vw h ho (by simp) (hr.append (.cons r2 .nil)) (by simpa using hz)
 refine wpAny_call_entry PySem.F.slot_list_append #[_,ho,rfl] PySem.F.entry_list_append ?_ (args_list_append _ _)
 show wpAny _ _ (updateSeq a (·.push y) >>= λ_=>PySem.ret .none) _ _ s
 refine aaw (wpAny_updateSeq ho rfl (aax #[.none,rfl,_,_,_,le,si',vw',.none,q]) (hz:=?_) (_hz' := ?_))
 .have:=hr.length; simp; omega
 .have:=hr.length; simp; omega
let Qk{vs ws:List V}(h:U a=some (.list vs))(h2:U b=some (.list ws))(hz:vs.length+ws.length<=sizeLine)(q:Q .none (U.set a (.list (vs++ws)))):aj T c (.bi "list.extend") [.ref a,.ref b] Q X U:=λg s A l fv args vw si aok rf ra=>by
 cases rf
 cases ra with | cons r1 r2=>cases r2 with | cons r2 r3=>cases r3 with | nil =>
 cases r1; cases r2
 have qq:=si.ok a
 rw[vw a _ h]at qq
 have#[xs,n,ho,hr,hl]:=qq
 have q2:=si.ok b
 rw[vw b _ h2]at q2
 have#[ys,n2,ho2,hr2,hl2]:=q2
 have l1:=hr.length
 have l2:=hr2.length
 have#[le,si',vw']:=rQ (f:=(· ++ ys.toArray)) si vw h ho (by simp) (hr.append hr2) (by simpa using hz)
 have hn:¬(!xs.toArray.isEmpty&&Builtin.List.listTooLong (xs.toArray.size+ys.toArray.size))=true:=by
  have:Builtin.List.listTooLong (xs.toArray.size+ys.toArray.size)=false:=by
   unfold Builtin.List.listTooLong
   simp
   omega
  rw[this]; simp
 refine call_meets PySem.F.slot_list_extend #[_,ho,rfl] PySem.F.entry_list_extend (PySem.F.args_list_extend_2 _ _) (PySem.AutoSeq1.list_extend_list_list_0 a xs.toArray n b ys.toArray n2 hn (by simp; omega) (by simp; omega)) #[ho,ho2,?_]
 exact#[_,_,_,le,si',vw',.none,q]
let jM{c:Cell}(si:T.Si g s)(vw:View U g)(o)(h:cz T.w.params (g.set s.heap.objs.size (.cell c)) (s.heap.push o) s.heap.objs.size (.cell c)) :
  Le g (g.set s.heap.objs.size (.cell c))/\T.Si (g.set s.heap.objs.size (.cell c)) { s with heap:=s.heap.push o }/\View (U.set s.heap.objs.size c) (g.set s.heap.objs.size (.cell c))/\bD U s.heap.objs.size:=by
 have fr:=si.ok.fresh
 have sm:bG g (g.set s.heap.objs.size (.cell c)):=bG.fill fr
 exact#[sm.toLe,Si.at si sm.imm (si.ok.push h),vw.set,vw.QV si.ok (abW _)]
let BK:∀{l:List (Str×Tok)},(∀ p∈l,p.1.length<=sizeLine)->aV g (l.map λp=>V.str (Qq p.1)) (strValues l)
 | [],_=>.nil
 | (x,t)::l,h=>.cons (Rep.str (Qq x) t (by have:=h _ (.head _); simpa [Qq,Str.length]using this)) (BK λp hp=>h p (.tail _ hp))
let Tc{x y:LN}(hy:y≠[])(hx:x.length+2<=sizeLine)(hp:∀ p∈Txt.split (Cs x) (Cs y),p.length<=sizeLine)(hl:(Txt.split (Cs x) (Cs y)).length<=sizeLine)(q:∀ a,bD U a->Q (.ref a) (U.set a (.list ((Txt.split (Cs x) (Cs y)).map λp=>.str (Qq p))))):aj T c (.bi "str.split") [.str x,.str y] Q X U:=λg s A l fv args vw si aok rf ra=>by
 cases rf
 cases ra with | cons r1 r2=>cases r2 with | cons r2 r3=>cases r3 with | nil =>
 cases r1; cases r2
 rename_i t _ u _
 have hy':((Cs y).length==0)=false:=by simp[Cs,Str.length,hy]
 have hx':(Cs x).length=x.length:=by simp[Cs,Str.length]
 have hn:(Builtin.Str.partsBetween (Cs x) (Builtin.Str.occurrences (Cs x) (Cs y) 0 (Cs x).length ((Cs x).length+1)) (Cs y).length).length<=sizeLine:=by
  have e1:=StrLaws.occ_length_le (Cs x) (Cs y) 0 (Cs x).length ((Cs x).length+1)
  rw[length_partsBetween]; omega
 have fin:∀(l:List (Str×Tok)) (k:Nat),l.map (·.1)=Txt.split (Cs x) (Cs y)->PV T g Q (.ref s.heap.objs.size) { s with heap:=s.heap.push { cls:=.type "list",data:=.seq (strValues l).toArray },toks:=k }:=by
  intro l k hl'
  have hr:aV g ((Txt.split (Cs x) (Cs y)).map λp=>V.str (Qq p)) (strValues l):=by
   rw[← hl',List.map_map]
   exact BK λp hp'=>hp _ (by rw[← hl']; exact List.mem_map_of_mem hp')
  have fr:=si.ok.fresh
  have sm:bG g (g.set s.heap.objs.size (.cell (.list ((Txt.split (Cs x) (Cs y)).map λp=>.str (Qq p))))):=bG.fill fr
  have#[h1,h2,h3,h4]:=jM si vw { cls:=.type "list",data:=.seq (strValues l).toArray } (c:=.list ((Txt.split (Cs x) (Cs y)).map λp=>.str (Qq p))) #[strValues l,0,aaX _ rfl,hr.mono sm.imm,by simpa using hl]
  exact#[_,_,_,h1,h2.tok,h3,.ref _,q _ h4]
 cases h1:(decide ((Cs x).length<(Cs y).length)||decide (Builtin.Str.strKind (Cs x)<Builtin.Str.strKind (Cs y)))
 .cases hf:(Builtin.Str.occurrences (Cs x) (Cs y) 0 (Cs x).length ((Cs x).length+1)).isEmpty
  .exists call_meets PySem.F.slot_str_split (typeIs_str _ _ _) PySem.F.entry_str_split (PySem.F.args_str_split_2 _ _) (meets_str_split_sep (Cs x) (Cs y) t u h1 hy' hf ∎ hn)
   rw[strsFrom_eq]
   exact fin (numbered s.toks _) _ ((numbered_texts _ _).trans ((ad8 (ne_true_of_eq_false h1)).trans (ad8 (ne_true_of_eq_false hf))).symm)
  .exact call_meets PySem.F.slot_str_split (typeIs_str _ _ _) PySem.F.entry_str_split (PySem.F.args_str_split_2 _ _) (meets_str_split_not_found (Cs x) (Cs y) t u h1 hy' hf)
    (fin [(Cs x,t)] s.toks ((ad8 (ne_true_of_eq_false h1)).trans (ad9 hf)).symm)
 .exact call_meets PySem.F.slot_str_split (typeIs_str _ _ _) PySem.F.entry_str_split (PySem.F.args_str_split_2 _ _) (meets_str_split_cannot_occur (Cs x) (Cs y) t u h1)
   (fin [(Cs x,t)] s.toks (ad9 h1).symm)
let I9(sep):∀ ls:aX,Str.join (Cs sep) (ls.map Cs)=Cs (bJ sep ls)
 | []=>rfl
 | [a]=>rfl
 | a::b::r=>by
  have ih:=I9 sep (b::r)
  show Cs a++Cs sep++Str.join (Cs sep) ((b::r).map Cs)=_
  rw[ih]
  have:=λu v=>Ky u v
  rw[this,this]; rfl
let sH:∀{vs:List V} {xs:List Value} {ls:aX},aV g vs xs->strsOf vs=some ls->∃ l:List (Str×Tok),xs=strValues l/\l.map (·.1)=ls.map Cs
 | _,_,_,.nil,h=>by cases h; exact#[[],rfl,rfl]
 | _,_,_,.cons r rs,h=>by
  cases r <;> simp only[strsOf]at h <;> try cases h
  rename_i l t z
  have#[ls',h1,rfl]:=adR.mp h
  have#[l',e1,e2]:=sH rs h1
  exact#[(Cs l,t)::l',by rw[e1]; rfl,by simp[e2]]
let iy(h:U a=some (.list vs))(hs:strsOf vs=some ls)(hz:(ls.map List.length).sum+ls.length*x.length<=sizeLine)(q:Q (.str (bJ x ls)) U) :
  aj T c (.bi "str.join") [.str x,.ref a] Q X U:=λg s A l fv args vw si aok rf ra=>by
 cases rf
 cases ra with | cons r1 r2=>cases r2 with | cons r2 r3=>cases r3 with | nil =>
 cases r1; cases r2
 have#[xs,h1,h2,h3]:=bQ si vw h
 have#[l',e1,e2]:=sH h2 hs
 subst e1
 have hlen:(bJ x ls).length<=(ls.map List.length).sum+ls.length*x.length:=by
  clear hz q hs e2 h1 h2 h3 h
  induction ls with
  | nil=>simp[bJ]
  | cons a r ih =>
   cases r with
   | nil=>simp[bJ]
   | cons b r =>
    simp only[bJ,aaG,acS,ad2,aaE]at ih ⊢
    have:(r.length+1+1)*x.length=(r.length+1)*x.length+x.length:=by rw[Nat.add_mul]; omega
    omega
 refine SC.join (x:=Cs x) h1 e2 ?_ λt' k=>?_
 .unfold JoinOk
  rw[StrLaws.joinTotal]
  have ee:((ls.map Cs).map Str.length)=ls.map List.length:=by rw[List.map_map]; congr 1
  have:(ls.map Cs).length*(Cs x).length=ls.length*x.length:=by simp[Cs,Str.length]
  rw[this]
  unfold Builtin.Str.tooLong
  simp only[Bool.not_eq_true',decide_eq_false_iff_not,Nat.not_lt]
  have hz':=hz
  rw[acM]at hz'
  first | (simp at *; omega) | (rw[show((ls.map Cs).map (·.length)).sum=(ls.map List.length).sum from congrArg List.sum ee]; omega)
 .have e3:Txt.join (Cs x) (ls.map Cs)=Cs (bJ x ls):=by
   show Builtin.Str.glued _ _=_
   rw[StrLaws.glued_eq_join,I9]
  rw[e3]
  exact PV.here si.tok vw (.str (bJ x ls) t' ∎) q
let JT(h:i.natAbs<2 ^ 60)(hz:(Str.ofString (toString i)).length<=sizeLine)(q:Q (.str (Qq (Str.ofString (toString i)))) U):aj T c (.typ "str") [.int i] Q X U:=λg s A l fv args vw si aok rf ra=>by
 cases rf
 cases ra with | cons r1 r2=>cases r2 with | nil =>
 cases r1
 refine P.str_of_int ?_ (PV.here si.tok vw (Rep.str (Qq (Str.ofString (toString i))) _ hz) q)
 by_cases e:i.natAbs=0
 .rw[e]; decide
 .have:=(Nat.log2_lt e).mpr h; omega
let jQ(h:U a=some (.list vs))(q:Q (.tup vs) U):aj T c (.typ "tuple") [.ref a] Q X U:=λg s A l fv args vw si aok rf ra=>by
 cases rf
 cases ra with | cons r1 r2=>cases r2 with | nil =>
 cases r1
 have#[xs,h1,h2,h3]:=bQ si vw h
 have hl:=h2.length
 refine call_tuple_list h1 (λh' k=>?_) (by simp; omega)
 have ok':gf T.w.params g h':=λb=>(si.ok b).keep 0 ((Le.refl g).toL 0) id λo z=>k b o z
 have fr:=ok'.fresh
 have sm:bG g (g.set h'.objs.size (.imm (iK xs 0))):=bG.fill fr
 exact#[_,.tup vs,U,sm.toLe,Si.at si sm.imm (ok'.push (aaX _ rfl)),sm.view vw,.tup (G.set_same ..) (h2.mono sm.imm) h3,q]
let vK(q:Q (.bool true) U):aj T c (.bi "isinstance") [.tup vs,.typ "tuple"] Q X U:=λg s A l fv args vw si aok rf ra=>by
 cases rf
 cases ra with | cons r1 r2=>cases r2 with | cons r2 r3=>cases r3 with | nil =>
 cases r1; cases r2
 rename_i xs a n h1 h2 h3
 have#[o,ho,hc,n,hd]:=bz si h1
 exact IsiPair.tuple_tuple ho hc (PV.here si vw (.bool _) q)
let yl(hC:C∈([105,126]:List Addr))(h:U a=some (.inst C d))(q:Q (.bool true) U):aj T c (.bi "isinstance") [.ref a,.ref C] Q X U:=λg s A l fv args vw si aok rf ra=>by
 cases rf
 cases ra with | cons r1 r2=>cases r2 with | cons r2 r3=>cases r3 with | nil =>
 cases r1; cases r2
 have qq:=si.ok a
 rw[vw a _ h]at qq
 refine isi_call (si.K T.inK) (λM=>(Looks.ld qq).andThen .now) (by simp[isIn]) (by intro e; cases e) (PV.here si vw (.bool _) q)
let Qv(h:U a=some (.list vs))(hs:strsOf vs=some ls)(hx:x∈ls)(q:Q (.int (ls.idxOf x)) U) :
  aj T c (.bi "list.index") [.ref a,.str x] Q X U:=λg s A l fv args vw si aok rf ra=>by
 cases rf
 cases ra with | cons r1 r2=>cases r2 with | cons r2 r3=>cases r3 with | nil =>
 cases r1; cases r2
 rename_i u _
 have qq:=si.ok a
 rw[vw a _ h]at qq
 have#[xs,n,ho,hr,hl]:=qq
 have#[l',e1,e2]:=sH hr hs
 have hlen:l'.length=ls.length:=by have:=congrArg List.length e2; simpa using this
 have hj:=List.idxOf_lt_length_of_mem hx
 have at' : ∀ m (hm:m<ls.length),(l'[m]'∎).1=Cs ls[m]:=λm hm=>by
  have e3:(l'.map (·.1))[m]'(by simp; omega)=(ls.map Cs)[m]'(by simpa using hm):=by simp only[e2]
  simpa using e3
 subst e1
 have hls:=hr.length
 have hls':ls.length<=sizeLine:=by
  have:(strValues l').length=l'.length:=by simp[strValues]
  omega
 let e:Value->Bool:=λy=>match y with | .str z _=>z.cps.toList==x | _=>false
 refine call_meets PySem.F.slot_list_index #[_,ho,rfl] PySem.F.entry_list_index (PySem.F.args_list_index_2 _ _)
  (MeetsSeq.list_index a (strValues l').toArray n (.str #[x.toArray] u) e (λy hy=>?_) (ls.idxOf x) (by simp[strValues]; omega) (by have:=acM; omega) ?_ λm hm hlt=>?_) #[ho,PV.here si.tok vw (.int _ _) q]
 .simp only[strValues,List.mem_toArray,adw]at hy
  have#[#[z,t],_,rfl]:=hy
  exact SeqRoads2.EqGives.str z #[x.toArray] t u
 .have e4:(strValues l').toArray[ls.idxOf x]'(by simp[strValues]; omega) = .str (Cs ls[ls.idxOf x]) (l'[ls.idxOf x]'∎).2:=by
   simp only[strValues,List.getElem_toArray,List.getElem_map]
   rw[at' _ hj]
  rw[e4]
  show(ls[ls.idxOf x]==x)=true
  simp
 .have hm':m<ls.length:=∎
  have e4:(strValues l').toArray[m]'hm = .str (Cs ls[m]) (l'[m]'∎).2:=by
   simp only[strValues,List.getElem_toArray,List.getElem_map]
   rw[at' _ hm']
  rw[e4]
  show(ls[m]==x)=false
  have:=List.not_of_lt_findIdx hlt
  simpa using this
let dR.pairs{es:List (Str×V)}{ds:List DictEntry}(h:dR P g es ds):∃ kvs:List (Str×Value),Pairs (strKind prog w) ds kvs/\kvs.map (·.1)=es.map (·.1):=by
 induction h with
 | nil=>exact#[[],.nil,rfl]
 | @cons k _ _ t x _ r d ih =>
  have#[kvs,h1,h2]:=ih
  exact#[(k,x)::kvs,.cons (strKind_is prog w k t) rfl h1,congrArg (k :: ·) h2]
let jm:∀{l:List (Str×α)},lk k l=none->k∉l.map (·.1)
 | [],_=>by simp
 | (y,v)::r,h=>by
  unfold lk at h
  show 2
  .cases h
  .rename_i ne
   have:=jm h
   intro q
   rcases acR.mp q with q | q
   .exact ne q
   .exact this q
let DY:∀{l:List (Str×Value)},k∉l.map (·.1)->valueAt l k=none
 | l,h=>by
  unfold valueAt
  have:l.find? (λkv=>decide (kv.1=k))=none:=by
   rw[List.find?_eq_none]
   intro p hp q
   exact h (by simp at q; exact q▸List.mem_map_of_mem hp)
  simp_all; first | done | assumption
let T9(h:U a=some (.dict es))(hx:lk (Cs x) es=none)(q:Q v U):aj T c (.bi "dict.pop") [.ref a,.str x,v] Q X U:=λg s A l fv args vw si aok rf ra=>by
 cases rf
 cases ra with | cons r1 r2=>cases r2 with | cons r2 r3=>cases r3 with | cons r3 r4=>cases r4 with | nil =>
 cases r1; cases r2
 have qq:=si.ok a
 rw[vw a _ h]at qq
 have#[ds,n,ho,hr,hl,hn]:=qq
 have#[kvs,h1,h2]:=hr.pairs
 have hD:s.heap.DictOf (strKind T.prog T.w) a kvs:=#[_,ds.toArray,n,ho,#[rfl,rfl,rfl],rfl,λe he=>by
   have#[y,t,e1,e2]:=hr.keys e (by simpa using he)
   exact#[y,by rw[e1]; exact strKind_is T.prog T.w y t,e2],by simpa using h1,by rw[h2]; exact hn]
 exact call_meetsIn PySem.F.slot_dict_pop hD.typeIs PySem.F.entry_dict_pop (PySem.F.args_dict_pop_3 _ _ _)
  (meets_dict_pop_default (strKind T.prog T.w) a (strKind_is T.prog T.w _ _) (wW si vw h) rfl _) #[kvs,hD,DY (by rw[h2]; exact jm hx),PV.here si.tok vw r3 q]
show ∀{T:Tp}{c:Cx}{X:Addr->Ψ}{U:Sg}{Q:V->Ψ}{n:Nat}{hd:Option Addr},_
let qM.typeCall(x:qM A #[n+1,hd] g l):qM (A.under (.builtin "type.__call__" #[.ref C::vals,[]])) #[n,hd] g l:=by
 have h1:(A.under (.builtin "type.__call__" #[.ref C::vals,[]])).depth=A.depth+1:=rfl
 have h2:(A.under (.builtin "type.__call__" #[.ref C::vals,[]])).units<=A.units+10:=by
  show A.units+_<=_
  have:(Code.builtin "type.__call__" #[.ref C::vals,[]]).cUnits<=10:=by
   have:(Code.builtin "type.__call__" #[.ref C::vals,[]]).cUnits=1:=rfl
   omega
  omega
 have d:=x.depth
 have u:=x.units
 dsimp only at d u
 exact#[by rw[h1]; show 1; omega,by show 1; omega,x.hand,x.hexc,x.frames,x.fr]
let QM(si:T.Si g s)(vw:View U g)(wk wl)(h1:cz T.w.params (g.set s.heap.objs.size (.cell uj)) (s.heap.push wk) s.heap.objs.size (.cell uj))(h2:∀ g',cz T.w.params g' ((s.heap.push wk).push wl) (s.heap.objs.size+1) (.cell uk)) :
  ∃ g',bG g g'/\T.Si g' { s with heap:=(s.heap.push wk).push wl }/\View ((U.set s.heap.objs.size uj).set (s.heap.objs.size+1) uk) g'/\bD U s.heap.objs.size:=by
 have#[a1,a2,a3,a4]:=jM si vw wk h1
 have hz:(s.heap.push wk).objs.size=s.heap.objs.size+1:=ad7 ..
 have e2:=jM a2 a3 wl (by show cz _ _ _ (s.heap.push wk).objs.size _; rw[hz]; exact h2 _)
 have#[b1,b2,b3,b4]:=e2
 have hz':=hz
 rw[hz']at b1 b2 b3
 refine#[_,(bG.fill si.ok.fresh).trans (bG.fill (a2.ok.Ke (Nat.le_of_eq hz'))),b2,b3,a4]
let sS{vs:List V}(hC:(C,f)∈xJ)(h:∀ x d,bD U d->x=d+1->gR T #[n,hd] (.ref f) (.ref x::vs) (λr U'=>r = .none/\Q (.ref x) U') X ((U.set d (.dict [])).set x (.inst C d))) :
  aj T #[n+1,hd] (.ref C) vs Q X U:=λg s A l fv args vw si aok rf ra=>by
 cases rf
 have#[t1,t2,t3]:=T.make_ok C f hC
 have XK:=si.K T.inK
 refine wpAny_call (PySem.W.make_core (makes_of XK t1) (looks_findIn XK t2) (λself=>bind_fn XK self t3) (.inl rfl) ?_)
 have#[g',sm,si',vw',fr]:=QM si vw (uj:=.dict []) (uk:=.inst C s.heap.objs.size) emptyDict (instObj C s.heap.objs.size)
  #[[],0,aaX _ rfl,.nil,by simp,by simp[dw]] (λg'=>by
   have:=aaX (s.heap.push emptyDict) (o:=instObj C s.heap.objs.size) rfl
   rwa [ad7]at this)
 have q:=h _ _ fr rfl g' { s with heap:=(s.heap.push emptyDict).push (instObj C s.heap.objs.size) } (A.under (.builtin "type.__call__" #[.ref C::args,[]])) l (.ref f) (.ref (s.heap.objs.size+1)::args) vw' si' (aok.le sm.toLe).typeCall (.ref f) (.cons (.ref _) (ra.mono sm.imm))
 refine codeAny_mono q λr s' z=>?_
 rcases r with e | f
 .exact PX.le sm.toLe z
 .cases f with
  | ret v =>
   have#[g2,x,U',k,si2,vw2,r2,e,q]:=z
   subst e; cases r2
   exact#[rfl,g2,_,U',sm.toLe.trans k,si2,vw2,.ref _,q]
  | _=>exact z.elim
let call_exc(hC:(C,f)∈fO)(hz:vs.length<=sizeLine)(h:∀ x,bD U x->aj T #[n,hd] (.ref f) (.ref x::vs) (λr U'=>r = .none/\Q (.ref x) U') X (U.set x (.exc C none))) :
  aj T #[n+1,hd] (.ref C) vs Q X U:=λg s A l fv args vw si aok rf ra=>by
 cases rf
 have#[#[nm,q,N,bs,bm,hdct,sn,sub,ab,col,dd,k0,k1,k2,k3,k5,t1,t2],t3,t4,t5,t6,t7,t8,t9]:=T.excn_ok C f hC
 have XK:=si.K T.inK
 refine Rb t2 (XK _ _ t1) (looks_findIn XK t3) (λself=>bind_fn XK self t4) ?_ (by rw[ra.length]; exact hz)
 let ut:=g.set s.heap.objs.size (.imm (iK args 0))
 have fr:=si.ok.fresh
 have sm:bG g ut:=bG.fill fr
 have si1:=Si.at (k:=s.toks) si sm.imm (si.ok.push (aaX _ rfl))
 have hz1:(s.heap.push (iK args 0)).objs.size=s.heap.objs.size+1:=ad7 ..
 have#[b1,b2,b3,b4]:=jM (c:=.exc C none) si1 (sm.view vw) (Gg C none (.ref s.heap.objs.size) .none .none .none (.bool false) .none)
  #[_,_,_,_,_,_,aaX _ rfl,.inl #[rfl,λq=>si1.ok.adN (abW _) (Tr.set (by intro _ z; cases z) q)],.inl rfl]
 have sm2:bG ut (ut.set (s.heap.push (iK args 0)).objs.size (.cell (.exc C none))):=bG.fill si1.ok.fresh
 have hz2:=hz1
 rw[hz2]at b1 b2 b3 b4
 have q:=h _ b4 _ { s with heap:=(s.heap.push (iK args 0)).push (Gg C none (.ref s.heap.objs.size) .none .none .none (.bool false) .none) } (A.under (.builtin "type.__call__" #[.ref C::args,[]])) l (.ref f) (.ref (s.heap.objs.size+1)::args) b3 b2
  (aok.le (sm.toLe.trans b1)).typeCall (.ref f) (.cons (.ref _) (ra.mono λa o e=>b1.imm a o (sm.imm a o e)))
 exact aaz q (λr s' #[g2,x,U',k,si2,vw2,r2,e,q]=>by
  subst e; cases r2
  exact#[rfl,g2,_,U',(sm.toLe.trans b1).trans k,si2,vw2,.ref _,q]) λv s' x=>PX.le (sm.toLe.trans b1) x
show ∀{prog:Program}{w:World}{A:Around}{E:Value->Shared->Prop}{s:Shared}{K:Frag}{C:Addr},_
let z7(X:K.In s.heap)(e0:(clsIn K C).isSome=true)(e1:typeIn K (.ref C)=some (.type "type"))(e3:subIn K (.type "str") (.ref C)=some false)(h:Q (.done (.ret (.bool false))) { s with toks:=s.toks+1 }) :
  wpAny (model prog w) A (Builtin.«isinstance.nested» #[[.str x u,.ref C,.int dep tk],[]]) Q E s:=by
 have#[hh,g,d,tt,os]:=s
 have ht:Looks (model prog w) hh (typeOf (.str x u)) (.type "str"):=Looks.of_pure rfl
 unfold Builtin.«isinstance.nested»
 refine aaw (ht.at ?_)
 rw[ad8 (by simp)]
 have L1:=looks_typeIn (M:=model prog w) X e1
 have L3:Looks (model prog w) hh (isInstance (.str x u) (.ref C)) false:=ht.andThen (looks_subIn X e3)
 have L4:Looks (model prog w) hh (isSubtype (.type "str") (.ref C)) false:=looks_subIn X e3
 refine aaw (L1.at ?_)
 rw[ad9 ⋯]
 k_delta "plainIsInstance"
 unfold isType
 repeat lk
 unfold clsIn at e0
 split at e0
 .rename_i ho
  refine nd_load (X _ _ ho) (nd_pure (aax ?_))
  simp only[Bool.not_true,adC,if_false]
  refine aaw (L3.at ?_)
  simp only[adC,if_false]
  refine aaw (class_attr_str ?_)
  show 1
  refine aaw (aax ?_)
  simp only[Bool.not_true,adC,if_false]
  refine aaw (wpAny_rule ?_)
  exists L4.at
  exact aax h
 .cases e0
let W2(X:K.In s.heap)(e0:(clsIn K C).isSome=true)(e1:typeIn K (.ref C)=some (.type "type"))(e3:subIn K (.type "str") (.ref C)=some false)(h:Q (.bool false) { s with toks:=s.toks+1 }) :
  wpAny (model prog w) A (call (.builtin "isinstance") [.str x u,.ref C]) Q E s :=
 call_isinstance (S:=λ_ R s=>K.In s.heap/\R (.ok (.ret (.bool false))) { s with toks:=s.toks+1 }) (λ_ _ _ _ _ hs=>isinstance_outer (z7 hs.1 e0 e1 e3 hs.2) (by intro e; cases e)) #[X,h]
show ∀{T:Tp}{c:Cx}{X:Addr->Ψ}{U:Sg}{Q:V->Ψ}{n:Nat}{hd:Option Addr},_
let o8(hC:C∈([105,126]:List Addr))(q:Q (.bool false) U):aj T c (.bi "isinstance") [.str x,.ref C] Q X U:=λg s A l fv args vw si aok rf ra=>by
 cases rf
 cases ra with | cons r1 r2=>cases r2 with | cons r2 r3=>cases r3 with | nil =>
 cases r1; cases r2
 have#[e0,e1,e3]:=T.isi_ok C hC
 exact W2 (si.K T.inK) e0 e1 e3 (PV.here si.tok vw (.bool _) q)
let vX{Q:Value×List Value->Shared->Prop}(si:T.Si g s)(h:∀ k,Q (.ref 527,[]) { s with toks:=k }) :
  wpAny T.M A (getMethod (.ref 593) "__init__" pl) Q E s:=by
 have#[h1,h2,h3]:=T.host_ok
 exact method_cls (si.K T.inK) h2 (cls_value (si.K T.inK) h1 h3 rfl (h _))
let Ah:findCls [] (.type "Exception") (.type "type") "__init__"=some (.val (.builtin "Exception.__init__")):=by rfl
let zp{Q:Value×List Value->Shared->Prop}(h:Q (.builtin "Exception.__init__",[]) { s with toks:=s.toks+1 }) :
  wpAny T.M A (getMethod (.type "Exception") "__init__" pl) Q E s:=by
 have X:Frag.In [] s.heap:=λa o e=>by cases e
 have hstub:opaqueClassAbove (.type "Exception")=pure none:=by unfold opaqueClassAbove; show 1; rw[show Manifest.isStub "Exception"=false from by decide +kernel]; rfl
 have L0:Looks T.M s.heap (typeOf (.type "Exception")) (.type "type"):=Looks.of_pure (by with_unfolding_all rfl)
 have hg:=type_tga
 unfold getMethod specialOf
 refine aaw (aaw (L0.here ((looks_findIn X hg).here ?_)))
 show 1
 rw[ad9 canon_tga]
 refine aaw (aaz ?_ (λ_ _ z=>aax z) λ_ _ z=>z)
 have LO:Looks T.M s.heap (opaqueClassAbove (.type "Exception")) none:=Looks.of_pure hstub
 refine cls_open X LO L0 hg (looks_hook X (by rfl)) (by show subIn [] _ _=_; rfl) Ah
  (aax (by show wpAny _ _ (handedOut _) _ _ _; rw[handedOut_of rfl]; exact aax h))
show ∀{T:Tp}{c:Cx}{F:Fc}{m:Lm}{X:Addr->Ψ}{U:Sg}{Q:V->Ψ},_
let Vo{Q:Value×List Value->Shared->Prop}(si:T.Si g s)(r:Rep g v x)(h:rG v n P)(k:∀ f fv (tk:Nat),Rep g f fv->P f->Q (fv,[]) { s with toks:=tk }):wpAny T.M A (getMethod x n pl) Q E s:=by
 unfold rG at h
 show 2
 .cases r; have#[rfl,h]:=h
  exact vX si λtk=>k _ _ tk (.ref _) h
 .cases r; have#[rfl,h]:=h
  exact zp (k _ _ _ (.bi _) h)
 .show 4
let Sv(hb:fj o=true)(hl:(apos.endLine==pos.line)=true)(hlen:decide (es.length<30)=true)(hns:es.all noStar=true)(h:aP T c F m o (λov xb=>rG ov name λf=>FZ T f/\pR T c F m es (λvs xc=>aj T c f vs Q X xc) X xb) X U):aP T c F m (.Call (.Attribute o name apos) es [] pos) Q X U:=λA L l g s R=>by
 rw[arm_eval_Call,lM hb]
 refine aaw (h.bind R λa wy ut av xb vy ua wn vm=>aaw (adF ?_))
 have hform:methodCallForm (es.length+([]:List Keyword).length) (backTo pos (starEach es (F.env L))) (backToKw pos (keywordEach [] (F.env L)))=true:=by
  have e1:(backTo pos (starEach es (F.env L))).all (λx=>!x.1)=true:=by
   have:=lq (env:=F.env L) (pos:=pos) hns
   rw[List.all_eq_not_any_not]
   simpa using this
  show((_&&true)&&decide (es.length+0+0<30))=true
  rw[e1]; simpa using hlen
 have hpos:methodCallPos true o (F.env L) apos pos=pure pos:=by unfold methodCallPos; simp[hl]
 unfold methodCall
 rw[hform]
 refine aaw (acW (Vo ua.si wn vm λf fv tk rf q=>?_))
 rw[hpos]
 exact aaw (aax (XJ vy (mY #[ua.view,ua.si.tok,ua.aok,ua.fr,ua.kind] rf .nil q.1 q.2)))
let yF(hC:∃ f,(C,f)∈fO)(h:U e=some (.exc C d))(q:Q .none U):aj T c (.bi "Exception.__init__") [.ref e,v] Q X U:=λg s A l fv args vw si aok rf ra=>by
 cases rf
 cases ra with | cons r1 r2=>cases r2 with | cons r2 r3=>cases r3 with | nil =>
 cases r1
 rename_i y
 have#[f,hC]:=hC
 have#[#[nm,q0,N,bs,bm,hdct,sn,sub,ab,col,dd,k0,k1,k2,k3,k5,t1,t2],_]:=T.excn_ok C f hC
 have XK:=si.K T.inK
 have hce:=si.ok e
 rw[vw e _ h]at hce
 have#[a0,tb,ctx,ca,su,me,ho,htb,hctx]:=hce
 have Fb:=PySem.F.excBase_Exception
 have#[hh,gg,dr,tk,os]:=s
 have hC:=XK _ _ t1
 have hcls:(Gg C d a0 tb ctx ca su me).cls = .ref C:=rfl
 have hcB:(Value.ref C::bm).contains (.type "Exception")=true:=by rw[List.contains_cons,t2,Bool.or_eq_true]; exact .inr rfl
 refine wpAny_call (codeAny_call_builtin Fb.init.plain Fb.initEntry ?_)
 have Dc:∀{M:Model} {Q:Unit->Shared->Prop} {A:Around} {E:Value->Shared->Prop},Q () #[hh,gg,dr,tk,os]->wpAny M A (checkBuiltinCall "Exception.__init__" #[[.ref e,y],[]]) Q E #[hh,gg,dr,tk,os]:=by
  intro M Q A E hq
  have hshort:=Fb.noStar
  simp only[checkBuiltinCall,Fb.initKind,Fb.initSplit,Fb.initRow]
  repeat(first | (with_reducible refine wpAny_loadPart_at ho ?_; rw[hcls]) | with_reducible refine wpAny_loadPart_at ho ?_ | with_reducible refine wpAny_loadPart_at hC ?_ | (with_reducible refine wpAny_isSubtype_exc hC ?_; rw[hcB]) | wp_step)
  exact hq
 exists Dc
 show wpAny _ _ (newTuple [y] >>= λv=>Builtin.BaseException.bexcPut (.ref e) 0 v >>= λ_=>PySem.ret .none) _ _ _
 unfold newTuple
 refine aaw (wpAny_newObj_type ?_ (by show(([y].toArray):Array Value).size<=sizeLine; rw[acM]; simp))
 unfold Builtin.BaseException.bexcPut
 have ve:=abt (iK [y] 0) ho
 refine aaw (aaw (ad0 ve rfl rfl (aaw (wpAny_setField ve rfl (by simp) ?_))))
 have fr:=si.ok.fresh
 have sm:bG g (g.set hh.objs.size (.imm (iK [y] 0))):=bG.fill fr
 have si1:=Si.at (k:=tk) si sm.imm (si.ok.push (aaX _ rfl))
 have hce1:=si1.ok e
 have fin:PV T g Q .none #[(hh.push (iK [y] 0)).update e (Obj.mapFields (·.setIfInBounds 0 (.ref hh.objs.size))),gg,dr,tk,os]:=by
  refine#[_,.none,U,sm.toLe,Si.at si1 (λ_ _ x=>x) (si1.ok.yE (Heap.SameBut.update ..) ?_),sm.view vw,.none,q]
  rw[sm.cell _ _ (vw e _ h)]
  refine#[.ref hh.objs.size,tb,ctx,ca,su,me,ad1 _ ve rfl,htb.imp (λz=>#[z.1,λq=>z.2 (Tr.set (by intro _ z; cases z) q)]) λ#[T',e1,e2]=>#[T',e1,sm.tb _ _ e2],hctx.imp id λ#[c',C',d',e1,e2,e3]=>#[c',C',d',e1,e2,sm.cell _ _ e3]]
 cases a0 <;> first | exact wpAny_letGo (aax fin) | exact aax (aax fin)
show _
let jE:plainId "proto.unchain"=true:=⋯
let Bg:entryFor table "proto.unchain"=some Builtin.«proto.unchain» := entryFor_of_tree (by kernel_rfl)
have Zg(g:G)(a:Addr):Prop:=∃ C d,g a = .cell (.exc C d)
have Y5(P:Params)(g:G)(h:Heap):Prop:=∀ a C d,g a = .cell (.exc C d)->iU P g h a (.exc C d)
let gf.exs(x:gf P g h):Y5 P g h:=λa C d e=>by have:=x a; rw[e]at this; exact this
let Y5.grow(x:Y5 P g h)(k:∀ b,Zg g b->∀ o,h.get? b=some o->h'.get? b=some o):Y5 P g h':=λa C d e=>(x a C d e).keep 0 ((Le.refl g).toL 0) id (k a #[C,d,e])
have abv(g:G)(a:Addr):Prop:=∃ C d,g a = .cell (.exc C d)
let Road.le(x:Road h a c):c<=a:=by
 induction x with
 | here=>exact abW _
 | step _ _ _ lt _ ih=>exact aaC ih (Nat.le_of_lt lt)
let Road.snoc(x:Road h a b)(ho:h.get? b=some o)(hd:o.data = .fields vs)(hv:vs[2]? = some (.ref c))(hl:c<b):Road h a c:=by
 induction x with
 | here=>exact .step ho hd hv hl (.here _)
 | step a1 a2 a3 a4 _ ih=>exact .step a1 a2 a3 a4 (ih ho hl)
show ∀{T:Tp}{U:Sg},_
let xM{e h:Addr}(si:Y5 T.w.params g s.heap)(he:h<=e):∀(n o slow:Addr) (t:Bool) {A:Around} {R:Result->Shared->Prop},o=n->abv g o->Road s.heap slow o->o<=h->R (.ok (.ret .none)) s ->
  codeAny T.M A (.builtin "proto.unchain" #[[.ref e,.ref o,.ref slow,.bool t],[]]) R s:=by
 intro n
 induction n using Nat.strongRecOn with
 | ind n ih =>
  intro o slow t A R hn hx rd ho hR
  have#[C,d,hx]:=hx
  have hce:=si o C d hx
  have#[a0,tb,ctx,ca,su,me,ho',_,hctx]:=hce
  exists codeAny_builtin Bg
  refine aaw (ad0 ho' rfl (x:=ctx) rfl ?_)
  rcases hctx with rfl | ⟨c,C',d',rfl,hc,hg⟩
  .rw[ad9 ⋯]
   exact aax hR
  .have hs:=rd.le
   have n1:=adl (Nat.lt_of_lt_of_le hc (aaC ho he))
   have n2:=adl (Nat.lt_of_lt_of_le hc hs)
   have n3:=aaC (Nat.le_of_lt hc) ho
   rw[ad8 (by simp),ad8 (by simpa using n1)]
   rw[ad8 (by simpa using n2)]
   have rd':=rd.snoc ho' rfl rfl hc
   cases t with
   | false =>
    refine aaw (aax ?_)
    exact aax #[plainId_quiet jE _,ih c (hn▸hc) c slow _ rfl #[_,_,hg] rd' n3 hR]
   | true =>
    cases rd with
    | here =>
     refine aaw (ad0 ho' rfl rfl ?_)
     exact aax #[plainId_quiet jE _,ih c (hn▸hc) c c _ rfl #[_,_,hg] (.here _) n3 hR]
    | step a1 a2 a3 a4 a5 =>
     refine aaw (ad0 a1 a2 a3 ?_)
     exact aax #[plainId_quiet jE _,ih c (hn▸hc) c _ _ rfl #[_,_,hg] (a5.snoc ho' rfl rfl hc) n3 hR]
let N8{c:Cx}(si:Y5 T.w.params g s.heap)(hand:A.handled=c.hd.map .ref)(hexc:∀ e,c.hd=some e->∃ C d,g e = .cell (.exc C d))(ho:s.heap.get? e=some o)(hd:o.data = .fields vs)(h2:2<vs.size)(hge:∀ x,c.hd=some x->x<e)(h:∀ h',Heap.SameBut e s.heap h'->(∃ o',h'.get? e=some o'/\o'.cls=o.cls)->E (.ref e) { s with heap:=h' }):wpAny T.M A (raiseNew (.ref e):Sem α) Q E s:=by
 unfold raiseNew
 refine aaw (wpAny_handled ?_)
 rw[hand]
 cases hc:c.hd with
 | none=>exact aaw (aax (wpAny_throw (h _ (Heap.SameBut.refl ..) #[o,ho,rfl])))
 | some x =>
  dsimp only[Option.map_some]
  have#[C,d,hx]:=hexc x hc
  have hlt:=hge x hc
  rw[ad9 (by simpa using adl hlt)]
  refine aaw (acW (wpAny_runValue (xM si (Nat.le_of_lt hlt) x x x false rfl #[_,_,hx] (.here _) (abW _) ?_)))
  refine aaw (PySem.wpAny_setField ho hd h2 (wpAny_throw (h _ (Heap.SameBut.update ..) #[_,ad1 _ ho (Obj.isFreed_of_fields (Obj.data_mapFields hd _)),Obj.cls_mapFields ..])))
show ∀{T:Tp}{c:Cx}{F:Fc}{m:Lm}{U:Sg}{A:Around}{L:Addr}{l:List Env}{g:G}{s:Shared}{E:Value->Shared->Prop},_
let gU.sG(e:g L = .frame mc):gU L g (g.set L (.frame mc')):=by
 have ne:∀ b,(∀ mm,g b ≠ .frame mm)->b≠L:=λb n q=>n mc (q▸e)
 refine#[λb o q=>?_,λb o n q=>?_,λb e' q=>?_,λb C d q=>#[d,?_],λb o q=>?_]
 .rw[G.aa _ _ (ne b (by rw[q]; intro z y; cases y))]; exact q
 .rw[G.aa _ _ n]; exact q
 .rw[G.aa _ _ (ne b (by rw[q]; intro z y; cases y))]; exact q
 .rw[G.aa _ _ (ne b (by rw[q]; intro z y; cases y))]; exact q
 .rw[G.aa _ _ (ne b (by rw[q]; intro z y; cases y))]; exact q
have isLocal(F:Fc)(x:Str):Prop:=lk x F.sc.names=some .local
let j8(R:Run T c F m U A L l g s)(hk:isLocal F x)(r:Rep g v y)(h:∀ g' s',wK T F L g g' (up x v m) U s'->Q () s'):wpAny T.M A (storeName (F.env L) x y) Q E s:=by
 have#[mc,hL,hm]:=R.fr
 have hLs:=R.si.ok L
 rw[hL]at hLs
 have hk':(F.env L).kindOf x=some .local:=by unfold isLocal at hk; rw[← dq]at hk; exact hk
 refine wpAny_storeName_local hk' hLs (λh' hns hsb=>?_) (by
  rw[show(F.env L).scope.kind = .function from R.kind]; rfl)
 have le:gU L g (g.set L (.frame λz=>if z=x then some y else mc z)):=gU.sG hL
 have ok:=R.si.ok.sameBut hsb L le hns
 refine h (g.set L (.frame λz=>if z=x then some y else mc z)) _ #[le,Si.at R.si le.imm ok,λb c q=>?_,_,G.set_same ..,(tM.set (hm.mono le.imm) (r.mono le.imm)).imp λz u e=>?_]
 .have:=R.view b c q
  rw[G.aa _ _ (λz=>by rw[z,hL]at this; cases this)]; exact this
 .by_cases hz:z=x
  .subst hz
   rw[ad9 rfl]at e
   rw[F.DP hk,ad9 rfl]; exact e
  .rw[ad8 hz]at e
   have e':=F.iM le.imm _ _ e
   rw[← e']
   exact F.Uj (ad8 hz)
let gf.grow(x:gf P g h)(k:∀ b,g b ≠ .free->∀ o,h.get? b=some o->h'.get? b=some o):gf P g h':=λb=>by
 by_cases e:g b = .free
 .rw[e]; trivial
 .exact(x b).keep 0 ((Le.refl g).toL 0) id (k b e)
let Run.grow(R:Run T c F m U A L l g s)(kk:∀ b,g b ≠ .free->∀ o,s.heap.get? b=some o->h'.get? b=some o):Run T c F m U A L l g { s with heap:=h',toks:=k } :=
 #[R.view,Si.at R.si (λ_ _ x=>x) (R.si.ok.grow kk),R.aok,R.fr,R.kind]
let Si.grow{k:Nat}(si:T.Si g s)(kk:∀ b,g b ≠ .free->∀ o,s.heap.get? b=some o->h'.get? b=some o):T.Si g { s with heap:=h',toks:=k } :=
 Si.at si (λ_ _ x=>x) (si.ok.grow kk)
let qM.ge(aok:qM A c g l)(si:T.Si g s):∀ x,c.hd=some x->x<s.heap.objs.size:=λx hx=>by
 have#[C,d,h]:=aok.hexc x hx
 exact cz.lt (si.ok x) (by rw[h]; intro z; cases z)
let Et(ex:Y5 T.w.params g wy.heap)(hand:A.handled=c.hd.map .ref)(hexc:∀ e,c.hd=some e->∃ C d,g e = .cell (.exc C d))(hge:∀ x,c.hd=some x->x<wy.heap.objs.size)(h:∀ h' e,(∀ b o,wy.heap.get? b=some o->h'.get? b=some o)->(∃ o',h'.get? e=some o'/\o'.cls = .type "StopIteration")->E' (.ref e) { wy with heap:=h' }) :
  wpAny T.M A (newExc (.type "StopIteration") [] >>= λe=>(raiseNew e:Sem α)) Q E' wy:=by
 exists aaw
 simp only[newExc,newTuple]
 refine aaw (wpAny_newObj_type ?_ (by size_fits))
 refine aaw (wpAny_of_eq (by first | rfl | (simp only[firstArgMember]; rfl)) ?_)
 refine wpAny_newObj_type ?_ (by size_fits)
 generalize ht:({ cls:=.type "tuple",data:=.seq [].toArray }:Obj)=ot
 have kk:∀(o1:Obj) b o',wy.heap.get? b=some o'->Heap.get? ((wy.heap.push ot).push o1) b=some o':=λo1 b o' e=>abt _ (abt _ e)
 have hz:(wy.heap.push ot).objs.size=wy.heap.objs.size+1:=ad7 ..
 refine N8 (s:={ wy with heap:=(wy.heap.push ot).push { cls:=.type "StopIteration",data:=.fields ([.ref wy.heap.objs.size,.none,.none,.none,.bool false,.none].toArray) } }) (ex.grow λb _ o' e=>kk _ b o' e) hand hexc (aaX _ rfl) rfl (by simp) (λx hx=>?_) λh' hs hc=>h h' _ (λb o e=>?_) hc
 .rw[hz]; exact adX (hge x hx)
 .rw[hs.2 b (by rw[hz]; exact adl (adX (adB e)))]
  exact kk _ b o e
let V6(si:T.Si g s)(aok:qM A c g l)(hit:IsTupIter s.heap it t i)(ht:IsTup s.heap t items)(hx:items[i]? = none)(hQ:∀ h',Heap.ExtBut it s.heap h'->Q none { s with heap:=h' })(hfr:g it = .free∨∃ o,g it = .imm o):wpAny T.M A (pyNext (.ref it)) Q E s:=by
 have#[o,ho,hc,hd]:=id hit
 have#[ol,hol,_,nl,hdl]:=ht
 have hge:=aok.ge si
 unfold pyNext
 refine aaw (wpAny_attempt (wpAny_callSpecial?_slot hit.typeIs slot_tupleiter_next
  (wpAny_call_entry slot_tupleiter_next hit.typeIs entry_tupleiter_next ?_ (args_tupleiter_next _))))
 show wpAny _ _ (field (.ref it) 0 >>= _) _ _ s
 refine aaw (ad0 ho hd rfl ?_)
 show wpAny _ _ (if(Value.ref t==Value.none)=true then _ else _) _ _ s
 rw[ad8 (show ¬ ((Value.ref t==Value.none)=true)from Bool.false_ne_true)]
 refine aaw (ad0 ho hd rfl ?_)
 refine aaw (wpAny_seqItems hol hdl ?_)
 simp only[Int.toNat_natCast,hx]
 refine aaw (wpAny_rule (aaw (wpAny_setField ho hd (by simp) ?_)))
 have upd:∀ b o',b≠it->s.heap.get? b=some o'->Heap.get? (s.heap.update it (Obj.mapFields (·.setIfInBounds 0 .none))) b=some o':=λb o' n e=>(adY _ _ (Ne.symm n)).trans e
 refine Et (si.ok.exs.grow λb #[C,d,e] o' ho'=>upd b o' (λz=>by subst z; rcases hfr with q | ⟨_,q⟩ <;> rw[q]at e <;> cases e) ho') aok.hand aok.hexc
  (λx hx=>by rw[Heap.size_update]; exact hge x hx) λh' e hk #[o',ho',hc']=>?_
 refine aaw (wpAny_isInstance #[_,ho',hc'] isSubtype_stop ?_)
 exact aax (hQ h' λb o' n e=>hk _ _ (upd b o' n e))
let mX(R:Run T c F m U A L l g s)(hk:isLocal F x)(r:Rep g v y)(h:∀ g' s',wK T F L g g' (up x v m) U s'->Q () s'):wpAny T.M A (bindName (F.env L) x y) Q E s:=wpAny_bindName (j8 R hk r h)
let Ly(h:dj (e::es)=some xs):∃ x p ys,e = .Name x p/\dj es=some ys/\xs=x::ys:=by
 if q:e.ctorIdx=23 then
  exact @Expr.Name.elim (λe=>dj (e::es)=some xs->∃ x p ys,e = .Name x p/\dj es=some ys/\xs=x::ys) e q (λx p h=>by
   have#[ys,h1,rfl]:=adR.mp h
   exact#[x,p,ys,rfl,h1,rfl]) h
 else
  unfold dj at h
  rw[dif_neg q]at h
  cases h
have putAll:List Str->List V->Lm->Lm
 | x::xs,v::vs,m=>putAll xs vs (up x v m)
 | _,_,m=>m
have oU(F:Fc)(target:Expr)(v:V)(m:Lm)(P:Lm->Prop):Prop:=match target,v with
 | .Name x _,v=>isLocal F x/\P (up x v m)
 | .Tuple es _ _,.tup vs=>(match dj es with | some xs=>xs.length=vs.length/\(∀ x∈xs,isLocal F x)/\P (putAll xs vs m) | none=>False)
 | _,_=>False
let JV(h:dj es=some xs):(assignEach es env).map (·.1)=xs.map (λ_=>false)/\(assignEach es env).length=xs.length:=by
 induction es generalizing xs with
 | nil=>cases h; exact#[rfl,rfl]
 | cons e es ih =>
  have#[_,_,ys,rfl,h1,rfl]:=Ly h
  have#[i1,i2]:=ih h1
  exact#[by show false::(assignEach es env).map (·.1)=_; rw[i1]; rfl,by show(assignEach es env).length+1=_; rw[i2]; rfl]
let K8:∀{es:List Expr} {xs:List Str} {vs:List V} {ys:List Value} {m:Lm} {g:G} {s:Shared} {Q:Unit->Shared->Prop},Run T c F m U A L l g s->dj es=some xs->xs.length=vs.length->(∀ x∈xs,isLocal F x)->aV g vs ys ->
  (∀ g' s',wK T F L g g' (putAll xs vs m) U s'->Q () s')->wpAny T.M A (assignInOrder ((assignEach es (F.env L)).map (·.2)) ys) Q E s:=by
 intro es
 induction es with
 | nil =>
  intro xs vs ys m g s Q R h hl hk r k
  cases h
  exact aax (k g s (by cases vs <;> exact R.here))
 | cons e es ih =>
  intro xs vs ys m g s Q R h hl hk r k
  have#[x,pos,xs',rfl,h1,rfl]:=Ly h
  cases r with
  | nil=>simp at hl
  | cons r1 r2 =>
   rename_i v y vs ys
   show wpAny T.M A (do holding ys (assign (.Name x pos) (F.env L) y); assignInOrder ((assignEach es (F.env L)).map (·.2)) ys) _ _ _
   refine aaw (acW ?_)
   rw[PySem.assign_Name]
   refine aaw (adF (mX R (hk x (.head _)) r1 λut wy ue=>?_))
   exact ih (R.Dy ue) h1 (by simpa using hl) (λz hz=>hk z (.tail _ hz)) (r2.mono ue.le.imm) λuu wz uf=>k uu wz (uf.gY ue.le)
let qN(R:Run T c F m U A L l g s)(ht:IsTup s.heap t items)(hQ:∀ s',Run T c F m U A L l g s'->Q items.toList s'):wpAny T.M A (unpackItems (.ref t) items.size none) Q E s:=by
 have hlt:t≠s.heap.objs.size:=by have#[o,ho,_]:=ht; exact adl (adB ho)
 have fr:=R.si.ok.fresh
 unfold unpackItems
 exists aaw
 unfold notIterableAtAll
 refine aaw (wpAny_specialOf ht.typeIs slot_tuple_iter.lookup ?_)
 exists aax
 simp only[adC,if_false]
 refine aaw (acW (iter_tuple ht ?_))
 refine aaw (acW (draw_tuple hlt items.size 0 _ _ #[_,aaX _ rfl,rfl,rfl] (ht.push _) ∎ λvm hit1 vi=>?_))
 have hall:List.take items.size (List.drop 0 items.toList)=items.toList:=by
  rw[List.drop_zero]; exact List.take_of_length_le (by simp)
 rw[hall]
 rw[ad8 (by simp)]
 have ht1:=(ht.push _).extBut vi.extBut hlt
 have kk:∀ b,g b ≠ .free->∀ o,s.heap.get? b=some o->vm.get? b=some o:=λb hb o e=>vi.extBut b o (λz=>hb (z▸fr)) (abt _ e)
 have ua:Run T c F m U A L l g { s with heap:=vm,toks:=s.toks }:=R.grow kk
 refine aaw (acW (V6 ua.si ua.aok hit1 ht1 (by simp) (λvn ux=>?_) (.inl fr)))
 simp only[Option.isSome_none,adC,if_false]
 exact aax (hQ _ (ua.grow λb hb o e=>ux b o (λz=>hb (z▸fr)) e))
let oE{Q:Unit->Shared->Prop}(R:Run T c F m U A L l g s)(r:Rep g v y)(h:oU F target v m P)(k:∀ g' s' m',wK T F L g g' m' U s'->P m'->Q () s'):wpAny T.M A (assign target (F.env L) y) Q E s:=by
 unfold oU at h
 show 2
 .rw[PySem.assign_Name]
  exact aaw (adF (mX R h.1 r λg' s' a=>k g' s' _ a h.2))
 .rename_i es _ _ vs
  show 2
  .rename_i xs hx
   have#[h1,h2,h3]:=h
   cases r
   rename_i ys a n e1 e2 e3
   have hr:=e2.length
   have#[n1,n2]:=JV hx
   rw[arm_assign_Tuple]
   refine aaw (adF ?_)
   unfold unpack
   have hst:(assignEach es (F.env L)).findIdx? (·.1)=none:=by
    rw[List.findIdx?_eq_none_iff]
    intro q hq
    have:q.1∈(assignEach es (F.env L)).map (·.1):=List.mem_map_of_mem hq
    rw[n1]at this
    simp at this
    simpa using this.2.symm
   have hsz:(assignEach es (F.env L)).length=ys.toArray.size:=by rw[n2,h1]; simp[hr]
   rw[hst,hsz]
   refine aaw (acW (qN R (bz R.si e1) λs' R' => ?_))
   exact K8 R' hx h1 h2 (by simpa using e2) λg' s'' a=>k g' s'' _ a h3
  .show 4
 .show 4
show _
let dR.len:∀{es:List (Str×V)} {ds:List DictEntry},dR P g es ds->ds.length=es.length
 | _,_,.nil=>rfl
 | _,_,.cons _ d=>by simp[d.len]
show ∀{T:Tp}{c:Cx}{F:Fc}{m:Lm}{X:Addr->Ψ}{U:Sg}{A:Around}{L:Addr}{l:List Env}{g:G}{s:Shared}{E:Value->Shared->Prop},_
let sI(si:T.Si g s)(vw:View U g)(h:U d=some (.dict es))(hs:Heap.SameBut d s.heap h')(hg:h'.get? d=some (dictOf ds' n'))(r:dR T.w.params g es' ds')(hz:es'.length<=1000)(hn:dw es') :
  Le g (g.set d (.cell (.dict es')))/\T.Si (g.set d (.cell (.dict es'))) { s with heap:=h',toks:=k }/\View (U.set d (.dict es')) (g.set d (.cell (.dict es'))):=by
 have le:Le g (g.set d (.cell (.dict es'))):=Le.turn (vw d _ h) λC d e=>by cases e
 exact#[le,Si.at si le.imm (si.ok.sameBut hs 0 (le.toL 0) #[ds',n',hg,r.mono le.imm,hz,hn]),vw.set]
let Mv{Q:Unit->Shared->Prop}(si:T.Si g s)(vw:View U g)(r:Rep g v x)(ru:Rep g u y)(h:fK U v name u P)(k:∀ g' s' U',Le g g'->T.Si g' s'->View U' g'->P U'->Q () s'):wpAny T.M A (setAttr x name y) Q E s:=by
 unfold fK at h
 cases r <;> dsimp only at h <;> try show 4
 rename_i a
 have X:=si.K T.inK
 show 2
 .rename_i C d h1
  have#[ht,h]:=h
  show 2
  .rename_i es h2
   have#[ds,n,e1,e2,e3,e4,I]:=Ey si vw h1 h2
   have#[t1,t2,t3,t4,t5,t6]:=T.attr_ok _ _ ht
   have q1:=si.ok a
   rw[vw a _ h1]at q1
   refine set_plain X I t6 (osa_open X I t5 t4 λb=>?_)
   refine pq X q1 rfl t2 rfl e2 (λe he=>by have#[x,t,z,_]:=e1.keys e he; exact#[x,t,z]) (by rw[dR.len e1]; exact e3) λh' n' hs hg=>?_
   have hz:=oJ name u es
   have#[a1,a2,a3]:=sI si vw h2 hs hg (e1.put ru) ∎ e4.up
   exact k _ _ _ a1 a2 a3 h.2
  .show 4
 .rename_i C d h1
  have#[ht,h]:=h
  show 2
  .rename_i es h2
   have#[ds,n,a0,tb,ctx,ca,su,me,e1,e2,e3,e4,e5,I]:=TF si vw h1 h2
   have#[t1,t2,t3,t4,t5,t6,t7,t8]:=T.exc_ok _ _ ht
   refine CP X I t8 t7 t6 λb tk=>?_
   refine pq X e5 rfl t5 rfl e2 (λe he=>by have#[x,t,z,_]:=e1.keys e he; exact#[x,t,z]) (by rw[dR.len e1]; exact e3) λh' n' hs hg=>?_
   have hz:=oJ name u es
   have#[a1,a2,a3]:=sI si vw h2 hs hg (e1.put ru) ∎ e4.up
   exact k _ _ _ a1 a2 a3 h.2
  .show 4
 .rename_i C h1
  have#[ht,h]:=h
  have q1:=si.ok a
  rw[vw a _ h1]at q1
  have#[a0,tb,ctx,ca,su,me,e5,htb,hctx]:=q1
  have#[t1,t2,t3,t4,t5,t6,t7,t8]:=T.exc_ok _ _ ht
  have I:InstAt s.heap a (Gg C none a0 tb ctx ca su me) C none:=#[e5,rfl,rfl,trivial]
  refine CP X I t8 t7 t6 λb tk=>?_
  refine Ag X e5 t5 λh' n' hz hk hx hd=>?_
  have fr:=si.ok.fresh
  have hne:=adl (adB e5)
  let ut:=g.set s.heap.objs.size (.cell (.dict [(name,u)]))
  have sm:bG g ut:=bG.fill fr
  have e1:=sm.cell _ _ (vw a _ h1)
  have le2:Le ut (ut.set a (.cell (.exc C (some s.heap.objs.size)))):=Le.turn e1 λC' d' e=>by cases e; exact#[_,rfl]
  have trs:∀{b},Tr (ut.set a (.cell (.exc C (some s.heap.objs.size)))) b->Tr g b:=λq=>Tr.set (by intro _ z; cases z) (Tr.set (by intro _ z; cases z) q)
  have ok:gf T.w.params (ut.set a (.cell (.exc C (some s.heap.objs.size)))) h':=by
   intro b
   by_cases e:b=a
   .subst e
    rw[G.set_same]
    exact#[a0,tb,ctx,ca,su,me,hx,htb.imp (λz=>#[z.1,λq=>z.2 (trs q)]) λ#[T',z1,z2]=>#[T',z1,le2.tb _ _ (sm.tb _ _ z2)],hctx.imp id λ#[c',C',d',z1,z2,z3]=>let#[d'',z4]:=le2.exc _ _ _ (sm.cell _ _ z3); #[c',C',d'',z1,z2,z4]]
   .rw[G.aa _ _ e]
    by_cases e':b=s.heap.objs.size
    .subst e'
     rw[show ut s.heap.objs.size = .cell (.dict [(name,u)])from G.set_same ..]
     exact#[_,n',hd,.cons (ru.mono λa o z=>le2.imm _ _ (sm.imm _ _ z)) .nil,by simp,by simp[dw]]
    .rw[show ut b=g b from G.aa _ _ e']
     exact(si.ok b).keep 0 ((sm.toLe.trans le2).toL 0) trs λo z=>hk b o e z
  have fin:=h _ (vw.QV si.ok (abW _))
  exact k _ _ _ (sm.toLe.trans le2) (Si.at si.tok (λa o z=>le2.imm _ _ (sm.imm _ _ z)) ok) (View.set (vw.set)) fin
 .show 4
let dR.kv:∀{es:List (Str×V)} {ds:List DictEntry},dR P g es ds->∃ kvs:List (Str×Value),Pairs (strKind prog w) ds kvs/\KV g es kvs
 | _,_,.nil=>#[[],.nil,.nil]
 | _,_,.cons (k:=k) (t:=t) (x:=x) r d=>by
  have#[kvs,h1,h2]:=d.kv
  exact#[(k,x)::kvs,.cons (strKind_is prog w k t) rfl h1,.cons r h2]
let KV.keys:∀{es:List (Str×V)} {kvs:List (Str×Value)},KV g es kvs->kvs.map (·.1)=es.map (·.1)
 | _,_,.nil=>rfl
 | _,_,.cons _ h=>by simp[h.keys]
let KV.app:∀{es es':List (Str×V)} {kvs kvs':List (Str×Value)},KV g es kvs->KV g es' kvs'->KV g (es++es') (kvs++kvs')
 | _,_,_,_,.nil,h=>h
 | _,_,_,_,.cons r h,h' => .cons r (h.app h')
let KV.mapped(r:Rep g v x):∀{es:List (Str×V)} {kvs:List (Str×Value)},KV g es kvs->(es.map (·.1)).Nodup->k∈es.map (·.1)->KV g (up k v es) (kvs.map (λkv=>if kv.1=k then(kv.1,x)else kv))
 | _,_,.nil,_,h=>by simp at h
 | _,_,.cons (k:=k') (kvs:=kvs) r' h,nd,hm=>by
  have nd':=adm.mp nd
  have hk:=h.keys
  unfold up
  rw[acS]
  by_cases e:k'=k
  .subst e
   rw[ad9 rfl,ad9 rfl]
   exists .cons r
   have:kvs.map (λkv=>if kv.1=k' then(kv.1,x)else kv)=kvs:=by
    conv=>rhs; rw[← List.map_id kvs]
    refine List.map_congr_left λp hp=>?_
    rw[ad8,id]
    intro q
    exact nd'.1 (by rw[← hk]; exact adw.mpr #[p,hp,q])
   rw[this]; exact h
  .rw[ad8 (λz=>e z.symm),ad8 e]
   refine .cons r' (h.mapped r nd'.2 ?_)
   rcases acR.mp hm with q | q
   .exact absurd q.symm e
   .exact q
let FW:∀{es:List (Str×α)},k∉es.map (·.1)->up k v es=es++[(k,v)]
 | [],_=>rfl
 | (y,u)::r,h=>by
  unfold up
  rw[ad8 (λq=>h (by rw[q]; exact .head _)),FW λq=>h (.tail _ q)]; rfl
let KV.stored(r:Rep g v x)(h:KV g es kvs)(nd:(es.map (·.1)).Nodup):KV g (up k v es) (PySem.stored kvs k x):=by
 have hk:=h.keys
 unfold PySem.stored
 by_cases q:k∈es.map (·.1)
 .have:kvs.any (λkv=>kv.1=k)=true:=by
   rw[← hk]at q
   have#[p,h1,h2]:=adw.mp q
   exact List.any_eq_true.mpr #[p,h1,by simpa using h2]
  rw[ad9 this]
  exact h.mapped r nd q
 .have:kvs.any (λkv=>kv.1=k)=false:=by
   rw[List.any_eq_false]
   intro p hp e
   exact q (by rw[← hk]; exact adw.mpr #[p,hp,by simpa using e])
  rw[this,ad8 ⋯,FW q]
  exact h.app (.cons r .nil)
let KV.aaj:∀{es:List (Str×V)} {kvs:List (Str×Value)} {ds:List DictEntry},KV g es kvs->Pairs (strKind T.prog T.w) ds kvs->(∀ e∈ds,∃ k,(strKind T.prog T.w).is k e.key=true/\e.hash=(strKind T.prog T.w).hash k)->dR T.w.params g es ds
 | _,_,_,.nil,.nil,_=>.nil
 | _,_,_,.cons (k:=k) r h,.cons (e:=e) h1 h2 h3,hh=>by
  have#[k',q1,q2]:=hh e (.head _)
  have ek:=(strKind T.prog T.w).inj _ _ _ q1 h1
  subst ek
  have:∃ t,e.key = .str k' t:=by
   have:Value.isStrOf k' e.key=true:=q1
   revert this
   cases e.key <;> simp[Value.isStrOf]
  have#[t,ht]:=this
  have#[eh,ek,ev]:=e
  dsimp only at h2 q2 ht
  subst h2 ht
  rw[show eh=PyData.keyHash T.w.params k' from q2]
  exact .cons r (h.aaj h3 λe he=>hh e (.tail _ he))
let CJ{h:Heap}(hd:h.DictOf (strKind T.prog T.w) d kvs):∃ ds n,h.get? d=some (dictOf ds n)/\Pairs (strKind T.prog T.w) ds kvs/\(∀ e∈ds,∃ k,(strKind T.prog T.w).is k e.key=true/\e.hash=(strKind T.prog T.w).hash k):=by
 have#[o,es,ep,h1,#[c1,c2,c3],h2,h3,h4,h5]:=hd
 have#[oc,od,oda,osl]:=o
 dsimp only at c1 c2 c3 h2
 subst c1 c2 c3 h2
 refine#[es.toList,ep,?_,h4,λe he=>h3 e (by simpa using he)]
 rw[h1]
let dR.dictOf{h:Heap}(r:dR T.w.params g es ds)(hn:dw es)(ho:h.get? d=some (W.dictOf ds n)) :
  ∃ kvs,h.DictOf (strKind T.prog T.w) d kvs/\KV g es kvs/\Pairs (strKind T.prog T.w) ds kvs:=by
 have#[kvs,h1,h2]:=r.kv
 refine#[kvs,#[_,ds.toArray,n,ho,#[rfl,rfl,rfl],rfl,λe he=>?_,by simpa using h1,by rw[h2.keys]; exact hn],h2,h1]
 have#[y,t,e1,e2]:=r.keys e (by simpa using he)
 exact#[y,by rw[e1]; exact strKind_is T.prog T.w y t,e2]
let Xg{o i v:V}{x y z:Value}(si:T.Si g s)(vw:View U g)(ro:Rep g o x)(ri:Rep g i y)(rv:Rep g v z)(h:yW U o i v P)(k:∀ g' s' U',Le g g'->T.Si g' s'->View U' g'->P U'->Q () s'):wpAny T.M A (setItem x y z) Q E s:=by
 unfold yW at h
 show 2
 .rename_i d kk
  cases ro; cases ri
  rename_i t hz
  show 2
  .rename_i es hes
   have q:=si.ok d
   rw[vw d _ hes]at q
   have#[ds,n,q1,q2,q3,q4]:=q
   have#[kvs,hD,hkv,hp]:=q2.dictOf q4 q1
   exists wpAny_setItem_pairs (strKind_is T.prog T.w _ t) hD (λh' hD' hs=>?_)
   .have#[ds',n',p1,p2,p3]:=CJ hD'
    have hkv':=hkv.stored (k:=Cs kk) rv q4
    have hl:=oJ (Cs kk) v es
    have#[a1,a2,a3]:=sI si vw hes hs p1 (hkv'.aaj p2 p3) ∎ q4.up
    exact k _ _ _ a1 a2 a3 h.2
   .have e1:=hp.length
    have e2:=dR.len q2
    have:=acM
    omega
  .show 4
 .show 4
have Ge(T:Tp)(c:Cx)(F:Fc)(t:Expr)(v:V)(m:Lm)(P:Lm->Ψ)(X:Addr->Ψ)(U:Sg):Prop :=
 ∀ A L l g s y,Run T c F m U A L l g s->Rep g v y->wpAny T.M A (assign t (F.env L) y) (λ_ s' => ∃ g' m' U',wK T F L g g' m' U' s'/\P m' U') (PX T g X) s
let Gk(h:oU F t v m λm'=>P m' U):Ge T c F t v m P X U:=λA L l g s y R r =>
 oE R r h λg' s' m' a p=>#[g',m',U,a,p]
let Xi(h:aP T c F m o (λov xb=>fK xb ov n v λxc=>P m xc) X U):Ge T c F (.Attribute o n pos) v m P X U:=λA L l g s y R r=>by
 rw[arm_assign_Attribute]
 refine aaw (acW (h.bind R λa wy ut av xb vy ua wn vm=>aaw (adF (aaw (acW ?_)))))
 refine Mv ua.si ua.view wn (r.mono vy.imm) vm λg' s' U' le si' vw' p=>wpAny_release #[g',m,U',?_,p]
 have R':=ua.le le si' vw'
 exact#[(vy.trans le).toL L,si',vw',R'.fr]
let YL(h:aP T c F m o (λov xb=>aP T c F m i (λiv xc=>yW xc ov iv v λxf=>P m xf) X xb) X U):Ge T c F (.Subscript o i pos) v m P X U:=λA L l g s y R r=>by
 rw[arm_assign_Subscript]
 refine aaw (acW (h.bind R λa wy ut av xb vy ua wn vm=>?_))
 refine aaw (acW (Uw vy (vm.bind ua λb wz uu bv xc vz ub wp vn=>aaw (adF (aaw (acW ?_))))))
 refine Xg ub.si ub.view (wn.mono vz.imm) wp ((r.mono vy.imm).mono vz.imm) vn λg' s' U' le si' vw' p=>wpAny_release #[g',m,U',?_,p]
 have R':=ub.le le si' vw'
 exact#[((vy.trans vz).trans le).toL L,si',vw',R'.fr]
let rH(h:jo value=true):swapsWith value t n env=pure false:=by
 cases value <;> first | rfl | cases h
let HY(h:noStar t=true):(assignEach [t] env).map (·.2)=[assign t env]:=by
 cases t <;> first | rfl | cases h
let Cy(hc:jo value=true)(hs:noStar t=true)(hw:∀ L,swappedStores [t] value (F.env L)=pure none)(h:aP T c F m value (λv xb=>Ge T c F t v m P.nxt (λe U'=>P.exc e m U') xb) (λe U'=>P.exc e m U') U):vQ T c F (.Assign [t] value pos) m P U:=λA L l g s R=>by
 refine wpAny_Assign_stores ?_ (rH hc) (hw L)
 rw[HY hs]
 refine aaz (h.bind R λv wy ut av xb vy ua wn vm=>?_) (λ_ _ x=>x) λ_ _ x=>x.toY R λe U' q=>q
 exact aaz (vm A L l ut wy v ua wn) (λ_ s' #[g',m',U',a,p]=>#[g',m',U',a.gY (vy.toL L),p]) λ_ _ x=>(x.toY ua λe U' q=>q).le (vy.toL L)
let Qt:∀{xs:List Str} {vs:List V} {ys:List Value} {m:Lm} {g:G} {s:Shared} {Q:Unit->Shared->Prop},Run T c F m U A L l g s->xs.length=vs.length->(∀ x∈xs,isLocal F x)->aV g vs ys ->
  (∀ g' s',wK T F L g g' (putAll xs vs m) U s'->Q () s')->wpAny T.M A (assignInOrder (xs.map λn=>bindName (F.env L) n) ys) Q E s:=by
 intro xs
 induction xs with
 | nil =>
  intro vs ys m g s Q R hl hk r k
  exact aax (k g s (by cases vs <;> exact R.here))
 | cons x xs ih =>
  intro vs ys m g s Q R hl hk r k
  cases r with
  | nil=>simp at hl
  | cons r1 r2 =>
   rename_i v y vs ys
   refine aaw (acW (mX R (hk x (.head _)) r1 λut wy ue=>?_))
   exact ih (R.Dy ue) (by simpa using hl) (λz hz=>hk z (.tail _ hz)) (r2.mono ue.le.imm) λuu wz uf=>k uu wz (uf.gY ue.le)
let aV.rev:∀{vs:List V} {ys:List Value},aV g vs ys->aV g vs.reverse ys.reverse
 | _,_,.nil=>.nil
 | _,_,.cons h t=>by
  rw[List.reverse_cons,List.reverse_cons]
  exact t.rev.append (.cons h .nil)
let Ir(hc:jo value=true)(hk:∀ x∈xs,isLocal F x)(hw:∀ L,swappedStores [t] value (F.env L)=pure (some xs))(h:aP T c F m value (λv xb=>match v with | .tup vs=>xs.length=vs.length/\P.nxt (putAll xs.reverse vs.reverse m) xb | _=>False) (λe U'=>P.exc e m U') U):vQ T c F (.Assign [t] value pos) m P U:=λA L l g s R=>by
 rw[exec_Assign_arm]
 refine aaw (adF ?_)
 show wpAny T.M A (do if ← swapsWith value (some t) pos.line (F.env L)then _ else _) _ _ _
 rw[rH hc]
 refine aaw (aax ?_)
 rw[ad8 ⋯]
 refine aaw (aaz (h.bind R λv wy ut av xb vy ua wn vm=>?_) (λ_ _ x=>x) λ_ _ x=>x.toY R λe U' q=>q)
 cases wn <;> try exact vm.elim
 rename_i vs ys a n e1 e2 e3
 have#[hl,vm]:=vm
 rw[hw]
 refine aaw (aax ?_)
 unfold assignStores
 show 1
 have hz:xs.length=ys.toArray.size:=by simp[hl,e2.length]
 refine aaw (wpAny_rule (aaw ?_))
 rw[hz]
 refine qN ua (bz ua.si e1) λs' R' => ?_
 refine aaw (Qt (vs:=vs.reverse) R' (by simp[hl]) (λx hx=>hk x (by simpa using hx)) (by simpa using e2.rev) λg' s'' a=>?_)
 exact aax #[g',_,xb,a.gY (vy.toL L),vm]
let YH(hop:op = .Add∨op = .Sub)(h:eQ T F m x λa=>aP T c F m value (λb xb=>isLocal F x/\gJ op a b λv=>P.nxt (up x v m) xb) (λe U'=>P.exc e m U') U):vQ T c F (.AugAssign (.Name x p) op value pos) m P U:=λA L l g s R=>by
 refine wpAny_AugAssign_Name (mW h R λa av ra vm=>?_)
 refine aaz (vm.bind R λv wy ut bv xb vy ua wn vn=>?_) (λ_ _ x=>x) λ_ _ x=>x.toY R λe U' q=>q
 refine Im hop (ra.mono vy.imm) wn vn.2 λu y n ru q=>?_
 exact j8 ua.tok vn.1 ru λg' s' a=>#[g',_,xb,a.gY (vy.toL L),q]
let WN(hop:op = .Add∨op = .Sub)(h:aP T c F m o (λov xb=>aY xb ov n λa=>aP T c F m value (λb xc=>gJ op a b λv=>fK xc ov n v λxf=>P.nxt m xf) (λe U'=>P.exc e m U') xb) (λe U'=>P.exc e m U') U) :
  vQ T c F (.AugAssign (.Attribute o n p) op value pos) m P U:=λA L l g s R=>by
 refine wpAny_AugAssign_AttributeAny (aaz (h.bind R λov wy ut oa xb vy ua wn vm=>?_) (λ_ _ x=>x) λ_ _ x=>x.toY R λe U' q=>q)
 refine xq ua.si ua.view wn vm λa av n ra vn=>?_
 refine aaz (vn.bind ua.tok λv wz uu bv xc vz ub wp vo=>?_) (λ_ _ x=>x) λ_ _ x=>(x.toY ua λe U' q=>q).le (vy.toL L)
 refine Im hop (ra.mono vz.imm) wp vo λu y n ru q=>?_
 refine Mv ub.tok.si ub.view (wn.mono vz.imm) ru q λg' s' U' le si' vw' p=>#[g',m,U',?_,p]
 have R':=ub.le le si' vw'
 exact#[((vy.trans vz).trans le).toL L,si',vw',R'.fr]
let Vt(hc:jo e=true)(h:aP T c F m e (λ_ xb=>P.nxt m xb) (λe U'=>P.exc e m U') U):vQ T c F (.Expr e pos) m P U:=λA L l g s R=>by
 refine wpAny_Expr_any (aaz (h.bind R λv wy ut av xb vy ua wn vm=>#[ut,m,xb,#[vy.toL L,ua.si,ua.view,ua.fr],vm]) (λ_ _ x=>x) λ_ _ x=>x.toY R λe U' q=>q) ?_ (rH hc)
 show((F.env L).scope.kind==ScopeKind.module&&_)=false
 rw[show(F.env L).scope.kind = .function from R.kind]; rfl
let Qj(h:aP T c F m e (λv xb=>P.ret v m xb) (λe U'=>P.exc e m U') U):vQ T c F (.Return (some e) pos) m P U:=λA L l g s R =>
 wpAny_Return_some (aaz (h.bind R λv wy ut av xb vy ua wn vm=>#[ut,m,xb,#[vy.toL L,ua.si,ua.view,ua.fr],av,wn,vm]) (λ_ _ x=>x) λ_ _ x=>x.toY R λe U' q=>q)
let J6(h:P.ret .none m U):vQ T c F (.Return none pos) m P U:=λA L l g s R =>
 wpAny_Return_none #[g,m,U,R.here,.none,.none,h]
let V5(h:P.nxt m U):vQ T c F (.Pass pos) m P U:=λA L l g s R=>wpAny_Pass #[g,m,U,R.here,h]
let Uy(h:P.brk m U):vQ T c F (.Break pos) m P U:=λA L l g s R=>wpAny_Break #[g,m,U,R.here,h]
let HB(h:P.cnt m U):vQ T c F (.Continue pos) m P U:=λA L l g s R=>wpAny_Continue #[g,m,U,R.here,h]
let ab9(h:j4 T c F m t (λq xb=>if q=true then dU T c F b m P xb else dU T c F o m P xb) (λe U'=>P.exc e m U') U):vQ T c F (.If t b o pos) m P U:=λA L l g s R=>by
 refine wpAny_If (aaz (h.bind R λq wy ut xb vy ua vm=>?_) (λ_ _ x=>x) λ_ _ x=>x.toY R λe U' q=>q)
 cases q
 .exact aaz (vm A L l ut wy ua) (λ_ _ x=>x.le (vy.toL L)) λ_ _ x=>x.le (vy.toL L)
 .exact aaz (vm A L l ut wy ua) (λ_ _ x=>x.le (vy.toL L)) λ_ _ x=>x.le (vy.toL L)
show ∀{T:Tp}{c:Cx}{F:Fc}{m:Lm}{X:Addr->Ψ}{U:Sg}{A:Around}{L:Addr}{l:List Env}{g:G}{s s':Shared},_
let wK.same(a:wK T F L g g' m' U' s')(sm:bG g' g'')(si:T.Si g'' s''):wK T F L g g'' m' U' s'' :=
 #[a.le.trans (sm.toLe.toL L),si,sm.view a.view,let#[mc,h1,h2]:=a.fr; #[mc,sm.frame _ _ h1,(h2.mono sm.imm).imp (F.iM sm.imm)]]
let PYT.le(k:gU L g g'):PYT T F L g' Y v s'->PYT T F L g Y v s':=λ#[g2,m',U',e,h,a,r]=>#[g2,m',U',e,h,a.gY k,r]
let dW(aok:∀ g',gU L g g'->(∃ mc,g' L = .frame mc)->qM A c g' (F.env L::l))(h:PY T F L g Y v s'):wpAny T.M A (noteFrame v (F.env L)) (λ_ s''=>PYT T F L g Y v s'') E s':=by
 have#[g',m',U',e,rfl,a,#[C,d,he],y]:=h
 have#[mc,h1,h2]:=a.fr
 refine rI a.si (aok g' a.le #[mc,h1]) rfl he λg'' s'' sm si'' tr=>?_
 exact#[g'',m',U',e,rfl,a.same sm si'',#[C,d,sm.cell _ _ he],tr,y]
let Ti(aok:∀ g',gU L g g'->(∃ mc,g' L = .frame mc)->qM A c g' (F.env L::l))(h:PY T F L g Y v s'):notedBy T.M A (F.env L) (PYT T F L g Y) v s':=dW aok h
let oK(h:PYT T F L g Y v s'):cameBackBy T.M A (F.env L) (PY T F L g Y) v s':=by
 have#[g',m',U',e,rfl,a,#[C,d,he],tr,y]:=h
 have#[o,vs,tb,h1,h2,h3]:=a.si.ok.trc he tr
 unfold cameBackBy
 refine aaw (ad0 h1 h2 h3 ?_)
 rw[ad8 (by simp)]
 refine bH a.si he λs'' si'' => ?_
 exact#[g',m',U',e,rfl,#[a.le,si'',a.view,a.fr],#[C,d,he],y]
let Run.tG(R:Run T c F m U A L l g s):∀ g',gU L g g'->(∃ mc,g' L = .frame mc)->qM A c g' (F.env L::l):=λg' k h=>R.aok.leL k λ_ _=>h
let PYT.toY(h:PYT T F L g Y v s'):PY T F L g Y v s':=let#[g',m',U',e,h,a,x,_,y]:=h; #[g',m',U',e,h,a,x,y]
let ye(aok:∀ g',gU L g g'->(∃ mc,g' L = .frame mc)->qM A' c' g' (F.env L::l))(h:PY T F L g Y v s'):notedBy T.M A' (F.env L) (cameBackBy T.M A (F.env L) (PY T F L g Y)) v s' :=
 aaz (Ti aok h) (λ_ _ x=>oK x) λ_ _ x=>oK x
let Run.mark(R:Run T c F m U A L l g s)(he:∃ C d,g e = .cell (.exc C d)):Run T { c with hd:=some e } F m U (A.mark (some (.ref e))) L l g s :=
 #[R.view,R.si,#[R.aok.depth,R.aok.units,rfl,λx hx=>by cases hx; exact he,R.aok.frames,R.aok.fr],R.fr,R.kind]
let G5(si:T.Si g s)(aok:qM A c g l)(he:g e = .cell (.exc C d))(hge:∀ x,c.hd=some x->x<=e)(h:∀ s',T.Si g s'->E (.ref e) s') :
  wpAny T.M A (raiseNew (.ref e):Sem α) Q E s:=by
 unfold raiseNew
 refine aaw (wpAny_handled ?_)
 rw[aok.hand]
 cases hc:c.hd with
 | none=>exact aaw (aax (wpAny_throw (h s si)))
 | some x =>
  dsimp only[Option.map_some]
  have#[C',d',hx]:=aok.hexc x hc
  rcases Nat.lt_or_eq_of_le (hge x hc)with hlt | rfl
  .rw[ad9 (by simpa using adl hlt)]
   refine aaw (acW (wpAny_runValue (xM si.ok.exs (Nat.le_of_lt hlt) x x x false rfl #[_,_,hx] (.here _) (abW _) ?_)))
   have q:=si.ok e
   rw[he]at q
   have#[a0,tb,ctx,ca,su,me,ho,htb,hctx]:=q
   refine aaw (PySem.wpAny_setField ho rfl (by simp) (wpAny_throw (h _ (Si.at si (λ_ _ x=>x) ?_))))
   exists si.ok.yE (Heap.SameBut.update ..)
   rw[he]
   exact#[a0,tb,.ref x,ca,su,me,ad1 _ ho rfl,htb,.inr #[x,C',d',rfl,hlt,hx]]
  .rw[ad8 (by simp)]
   exact aaw (aax (wpAny_throw (h s si)))
let Su{P:tK}(h:aP T c F m x (λv xb=>match v with
   | .ref e=>(match xb e with | some (.exc C d)=>cH C/\(∀ h,c.hd=some h->h<=e)/\P.exc e m xb | _=>False)
   | _=>False) (λe U'=>P.exc e m U') U):vQ T c F (.Raise (some x) none pos) m P U:=λA L l g s R=>by
 rw[arm_exec_Raise]
 refine aaw (adF ?_)
 unfold raiseStmt
 refine aaw (aaw (aaz (h.bind R λv wy ut av xb vy ua wn vm=>?_) (λ_ _ x=>x) λ_ _ x=>x.toY R λe U' q=>q))
 cases wn <;> try exact vm.elim
 rename_i e
 dsimp only at vm
 split at vm
 .rename_i C d hσ
  have#[#[f,hC],hge,hP]:=vm
  have#[_,_,_,_,_,_,t8,t9]:=T.excn_ok C f hC
  have he:=ua.view _ _ hσ
  have q:=ua.si.ok e
  rw[he]at q
  have#[a0,tb,ctx,ca,su,me,ho,htb,hctx]:=q
  have XK:=ua.si.K T.inK
  refine aaw (adF (aax ?_))
  have hnt:∀{Q':Bool->Shared->Prop},Q' false wy->wpAny T.M A (isType (.ref e)) Q' (PY T F L g P.exc) wy:=by
   intro Q' hq
   simp only[isType,loadHead]
   exact aaw (wpAny_loadPart ho (aax hq))
  have LT:Looks T.M wy.heap (typeOf (.ref e)) (.ref C):=(Looks.ld ho).andThen .now
  refine aaw (aax ?_)
  show 1
  refine aaw (acW ?_)
  unfold excFromValue isExcClass
  refine aaw (aaw (hnt ?_))
  simp only[adC,if_false]
  exists aax
  simp only[adC,if_false]
  have LI:Looks T.M wy.heap (isInstance (.ref e) (.type "BaseException")) true:=LT.andThen (looks_mroIn XK t8)
  refine aaw (LI.here ?_)
  simp only[if_true]
  exists aax
  refine aaw (hnt ?_)
  simp only[adC,if_false]
  unfold raisedInstance
  refine aaw (aaw (LT.here (aaw ((looks_typeIn XK t9).here ?_))))
  rw[ad9 ⋯]
  refine aax (aaw (bH ua.si he λwz wu=>?_))
  refine G5 wu ua.aok he hge λx0 si3=>?_
  exact#[ut,m,xb,e,rfl,#[vy.toL L,si3,ua.view,ua.fr],#[C,d,he],hP]
 .exact vm.elim
let QF:∀{m:Lm},lk y (dl x m)=some v->y≠x/\lk y m=some v
 | [],h=>by simp[dl,lk]at h
 | (z,u)::r,h=>by
  unfold dl at h
  rw[List.filter_cons]at h
  show 2
  .rename_i q
   have q':z≠x:=by simpa using q
   unfold lk at h ⊢
   by_cases e:y=z
   .subst e; rw[ad9 rfl]at h ⊢; exact#[q',h]
   .rw[ad8 e]at h ⊢; exact QF h
  .rename_i q
   have q':z=x:=by simpa using q
   subst q'
   have ih:=QF h
   refine#[ih.1,?_]
   unfold lk
   rw[ad8 ih.1]; exact ih.2
let uZ(R:Run T c F m U A L l g s)(hk:isLocal F x)(h:∀ g' s',wK T F L g g' (dl x m) U s'->Heap.SameBut L s.heap s'.heap->Q () s') :
  wpAny T.M A (do bindName (F.env L) x .none; unbindBehindTheSuite (F.env L) x pos) Q E s:=by
 have#[mc,hL,hm]:=R.fr
 have hLs:=R.si.ok L
 rw[hL]at hLs
 have hk':(F.env L).kindOf x=some .local:=by unfold isLocal at hk; rw[← dq]at hk; exact hk
 refine wpAny_nameGoes_keeps hk' hLs (by
  rw[show(F.env L).scope.kind = .function from R.kind]; rfl) λh' v hns hsb=>?_
 have le:gU L g (g.set L (.frame λz=>if z=x then v else mc z)):=gU.sG hL
 have ok:=R.si.ok.sameBut hsb L le hns
 refine h (g.set L (.frame λz=>if z=x then v else mc z)) _ #[le,Si.at R.si le.imm ok,λb c q=>?_,_,G.set_same ..,λy u e=>?_] hsb
 .have:=R.view b c q
  rw[G.aa _ _ (λz=>by rw[z,hL]at this; cases this)]; exact this
 .have#[n1,n2]:=QF e
  have#[w',h1,h2]:=hm y u n2
  have e':=F.iM le.imm _ _ h1
  exact#[w',(F.Uj (ad8 n1)).trans e',h2.mono le.imm]
have aav(x:Option Str)(e:Addr)(m:Lm):Lm:=x.elim m λn=>up n (.ref e) m
let ZP(R:Run T c F m U A L l g s)(hk:isLocal F n)(h:PF T F L g (P.out (some n)) f s') :
  wpAny T.M A (do bindName (F.env L) n .none; unbindBehindTheSuite (F.env L) n pos) (λ_ x0=>PF T F L g P f x0) E s':=by
 have#[g',m',U',a,q]:=h
 refine uZ (R.Dy a) hk λuu wz uf _=>#[uu,dl n m',U',uf.gY a.le,?_]
 cases f with
 | next=>exact q
 | brk=>exact q
 | cont=>exact q
 | ret v=>have#[x,h1,h2]:=q; exact#[x,h1.mono uf.le.imm,h2]
let Xc(h:PF T F L g (P.out none) f s'):PF T F L g P f s':=by
 have#[g',m',U',a,q]:=h
 refine#[g',m',U',a,?_]
 cases f <;> exact q
let H4(R:Run T c F m U A L l g s)(he:g e = .cell (.exc C d))(tr:Tr g e)(hC:cH C)(hD:cH D)(hx:(x==("__debug__":Str))=false)(ht:eQ T F m x (λv=>v = .ref D))(hn:∀ y,n=some y->isLocal F y)(h:if C=D then dU T { c with hd:=some e } F (b0::hb) (aav n e m) (P.out n) U else P.exc e m U) :
  wpAny T.M A (handleBy (.ref e) (F.env L) [.ExceptHandler (some (.Name x npos)) n (b0::hb) hpos]) (PF T F L g P) (PY T F L g P.exc) s:=by
 have RM:=R.mark #[C,d,he]
 refine wpAny_handleBy_cons (codeAny_handlers_test (wpAny_Name (mW ht RM λv y r q=>?_) hx)) (by intro q; cases q)
 subst q
 cases r
 have#[fC,hC]:=hC
 have#[fD,hD]:=hD
 have q:=R.si.ok e
 rw[he]at q
 have#[a0,tb,ctx,ca,su,me,ho,htb,hctx]:=q
 have LT:Looks T.M s.heap (typeOf (.ref e)) (.ref C):=(Looks.ld ho).andThen .now
 refine(exm_one (R.si.K T.inK) LT (T.exm_ok C D fC fD hC hD)).here ?_
 by_cases hCD:C=D
 .rw[ad9 hCD]at h
  rw[show(C==D)=true from by simpa using hCD]
  rw[ad9 rfl]
  cases n with
  | none =>
   refine codeAny_handlers_suite (bH R.si he λwy si1=>?_)
   have ua:Run T { c with hd:=some e } F m U (A.mark (some (.ref e))) L l g wy:=#[R.view,si1,RM.aok,R.fr,R.kind]
   exact aaz (h _ L l g wy ua) (λf wz z=>Xc z) λv wz z=>ye RM.tG z
  | some n =>
   refine codeAny_handlers_suite_as (bH R.si he λwy si1=>?_)
   have ua:Run T { c with hd:=some e } F m U (A.mark (some (.ref e))) L l g wy:=#[R.view,si1,RM.aok,R.fr,R.kind]
   refine j8 ua (hn n rfl) (.ref e) λuu wz uf=>?_
   have ub:=ua.Dy uf
   refine aaz (h _ L l uu wz ub) (λf x0 z=>?_) λv x0 z=>?_
   .exact ZP R (hn n rfl) (z.le uf.le)
   .have z':=z.le uf.le
    refine aaz (dW (E:=λ_ _=>False) RM.tG z') (λ_ x5 y=>?_) λv' x5 y=>y.elim
    .have#[g',m',U',e',rfl,a,#[C',d',he'],tr',y]:=y
     have R':=RM.Dy a
     refine uZ R' (hn n rfl) λg5 x6 ui hs5=>?_
     have#[d5,he5]:=ui.le.exc _ _ _ he'
     have#[T5,tr5]:=tr'
     refine rT ui.si he5 #[T5,ui.le.tb _ _ tr5] λx7 si6=>?_
     exact ye RM.tG #[g5,dl n m',U',e',rfl,#[(ui.gY a.le).le,si6,ui.view,ui.fr],#[C',d5,he5],y]
 .rw[ad8 hCD]at h
  rw[show(C==D)=false from by simpa using hCD]
  rw[ad8 Bool.false_ne_true]
  refine wpAny_handleBy_nil (rT R.si he tr λwy si1=>?_)
  exact#[g,m,U,e,rfl,#[(Le.refl g).toL L,si1,R.view,R.fr],#[C,d,he],h]
let wK.self(a:wK T F L g g' m' U' s'):wK T F L g' g' m' U' s':=#[(Le.refl g').toL L,a.si,a.view,a.fr]
let KH(k:gU L g0 g)(aok:∀ g',gU L g g'->(∃ mc,g' L = .frame mc)->qM A' c' g' (F.env L::l))(h:PY T F L g Y v s'):notedBy T.M A' (F.env L) (cameBackBy T.M A (F.env L) (PY T F L g0 Y)) v s' :=
 aaz (dW (E:=λ_ _=>False) aok h) (λ_ _ x=>oK (x.le k)) λ_ _ x=>x.elim
have Oo(c:Cx)(T:Tp)(F:Fc)(D:Addr)(n:Option Str)(b:List Stmt)(P:tK)(e:Addr)(wg:Lm)(xb:Sg):Prop:=match xb e with
 | some (.exc C d)=>cH C/\if C=D then dU T { c with hd:=some e } F b (aav n e wg) (P.out n) xb else P.exc e wg xb
 | _=>False
let toHandler(R:Run T c F m U A L l g s)(hD:cH D)(hx:(x==("__debug__":Str))=false)(hg:lk x F.sc.names=some .globalImplicit)(ht:gl x=some (.ref D))(hn:∀ y,n=some y->isLocal F y)(h:PY T F L g (Oo c T F D n (b0::hb) P) v s') :
  wpAny T.M A (noteFrame v (F.env L)) (λ_ wz=>wpAny T.M A (setFlight v none) (λ_ x0=>wpAny T.M A (handleBy v (F.env L) [.ExceptHandler (some (.Name x npos)) n (b0::hb) hpos]) (PF T F L g P) (PY T F L g P.exc) x0) (PY T F L g P.exc) wz) (PY T F L g P.exc) s':=by
 refine aaz (dW (E:=λ_ _=>False) R.tG h) (λ_ wz y=>?_) λ_ _ z=>z.elim
 have#[uu,wh,xc,e,rfl,a,#[C,d,he],tr,y]:=y
 refine bH a.si he λx0 si3=>?_
 unfold Oo at y
 split at y
 .rename_i C' d' hσ
  have:=a.view _ _ hσ
  rw[he]at this
  cases this
  have a':wK T F L g uu wh xc x0:=#[a.le,si3,a.view,a.fr]
  have q:=H4 (npos:=npos) (hpos:=hpos) (R.Dy a') he tr y.1 hD hx (by unfold eQ; rw[hg]; show 1; rw[ht]) hn y.2
  exact aaz q (λ_ _ z=>z.le a.le) λ_ _ z=>z.le a.le
 .exact y.elim
let XC(hD:cH D)(hx:(x==("__debug__":Str))=false)(hg:lk x F.sc.names=some .globalImplicit)(ht:gl x=some (.ref D))(hn:∀ y,n=some y->isLocal F y)(h:dU T c F b m { P with exc:=Oo c T F D n (b0::hb) P } U):vQ T c F (.Try b [.ExceptHandler (some (.Name x npos)) n (b0::hb) hpos] [] [] pos) m P U:=λA L l g s R=>by
 refine wpAny_Try_except (aaz (h A L l g s R) (λf wy hf=>?_) λv wy hv=>toHandler R hD hx hg ht hn hv)
 have#[ut,wg,xb,a,r]:=hf
 cases f with
 | next=>exact wpAny_execs_nil #[ut,wg,xb,a,r]
 | brk=>exact#[ut,wg,xb,a,r]
 | cont=>exact#[ut,wg,xb,a,r]
 | ret v=>exact#[ut,wg,xb,a,r]
let fZ(R:Run T c F m U A L l g s)(h:PF T F L g (P.fin T c F fb) f s') :
  wpAny T.M A (execs fb (F.env L)) (λk s''=>match k with | .next=>PF T F L g P f s'' | k=>PF T F L g P k s'') (notedBy T.M A (F.env L) (cameBackBy T.M A (F.env L) (PY T F L g P.exc))) s':=by
 have#[ut,wg,xb,a,r]:=h
 have ua:=R.Dy a
 have exc:∀{v:Value} {wz:Shared},PY T F L ut P.exc v wz->notedBy T.M A (F.env L) (cameBackBy T.M A (F.env L) (PY T F L g P.exc)) v wz:=λz=>ye R.tG (z.le a.le)
 have key:∀{Q:Lm->Ψ} {k:Flow} {wz:Shared},PF T F L ut { P with nxt:=Q } k wz->(∀ uu wh xc,wK T F L ut uu wh xc wz->Q wh xc->PF T F L g P f wz)->(match k with | .next=>PF T F L g P f wz | k=>PF T F L g P k wz):=by
  intro Q k wz #[uu,wh,xc,uf,z] hk
  cases k with
  | next=>exact hk uu wh xc uf z
  | brk=>exact#[uu,wh,xc,uf.gY a.le,z]
  | cont=>exact#[uu,wh,xc,uf.gY a.le,z]
  | ret v=>exact#[uu,wh,xc,uf.gY a.le,z]
 cases f with
 | next=>exact aaz (r A L l ut s' ua) (λk wz z=>key z λuu wh xc uf q=>#[uu,wh,xc,uf.gY a.le,q]) λ_ _ z=>exc z
 | brk=>exact aaz (r A L l ut s' ua) (λk wz z=>key z λuu wh xc uf q=>#[uu,wh,xc,uf.gY a.le,q]) λ_ _ z=>exc z
 | cont=>exact aaz (r A L l ut s' ua) (λk wz z=>key z λuu wh xc uf q=>#[uu,wh,xc,uf.gY a.le,q]) λ_ _ z=>exc z
 | ret v =>
  have#[x,hx,r]:=r
  exact aaz (r A L l ut s' ua) (λk wz z=>key z λuu wh xc uf q=>#[uu,wh,xc,uf.gY a.le,x,hx.mono uf.le.imm,q]) λ_ _ z=>exc z
let lF(R:Run T c F m U A L l g s)(h:PY T F L g (P.fin T c F (f0::fb)).exc v s') :
  FinallyRaised T.prog T.w A (PY T F L g P.exc) (F.env L) (f0::fb) (PF T F L g P) v s':=by
 have#[g0,m0,xa,un,rfl,h']:=id h
 refine#[ref_ne_byPass un,aaz (dW (E:=λ_ _=>False) R.tG h) (λ_ wy y=>?_) λ_ _ z=>z.elim]
 have#[ut,wg,xb,e,he',a,#[C,d,he],tr,y]:=y
 cases he'
 refine bH a.si he λwz wu=>?_
 have a':wK T F L g ut wg xb wz:=#[a.le,wu,a.view,a.fr]
 have ub:=(R.Dy a').mark #[C,d,he]
 refine aaz (y _ L l ut wz ub) (λk x0 z=>?_) λ_ _ z=>KH a.le ub.tG z
 have#[uv,m3,xf,ug,z]:=z
 have#[um,uy]:=ug.le.exc _ _ _ he
 cases k with
 | next =>
  have#[tb,htb]:=tr
  exact rT ug.si uy #[tb,ug.le.tb _ _ htb] λx5 si4=>#[uv,m3,xf,un,rfl,#[(ug.gY a.le).le,si4,ug.view,ug.fr],#[C,um,uy],z]
 | brk=>exact bH ug.si uy λx5 si4=>#[uv,m3,xf,#[(ug.gY a.le).le,si4,ug.view,ug.fr],z]
 | cont=>exact bH ug.si uy λx5 si4=>#[uv,m3,xf,#[(ug.gY a.le).le,si4,ug.view,ug.fr],z]
 | ret v=>exact bH ug.si uy λx5 si4=>#[uv,m3,xf,#[(ug.gY a.le).le,si4,ug.view,ug.fr],z]
let VL(h:dU T c F b m (P.fin T c F (f0::fb)) U):vQ T c F (.Try b [] [] (f0::fb) pos) m P U:=λA L l g s R=>by
 refine wpAny_Try_finally (aaz (h A L l g s R) (λf wy hf=>?_) λv wy hv=>?_)
 .cases f with
  | next=>exact wpAny_execs_nil (fZ R hf)
  | brk=>exact fZ R hf
  | cont=>exact fZ R hf
  | ret v=>exact fZ R hf
 .exact aaz (dW (E:=λ_ _=>False) R.tG hv) (λ_ wz y=>lF R y.toY) λ_ _ z=>z.elim
let Rq(hD:cH D)(hx:(x==("__debug__":Str))=false)(hg:lk x F.sc.names=some .globalImplicit)(ht:gl x=some (.ref D))(hn:∀ y,n=some y->isLocal F y)(h:dU T c F b m { (P.fin T c F (f0::fb))with exc:=Oo c T F D n (b0::hb) (P.fin T c F (f0::fb)) } U):vQ T c F (.Try b [.ExceptHandler (some (.Name x npos)) n (b0::hb) hpos] [] (f0::fb) pos) m P U:=λA L l g s R=>by
 refine wpAny_Try_except_finally (aaz (h A L l g s R) (λf wy hf=>?_) λv wy hv=>?_)
 .have hf':PF T F L g (P.fin T c F (f0::fb)) f wy:=by
   have#[ut,wg,xb,a,r]:=hf
   exact#[ut,wg,xb,a,by cases f <;> exact r]
  cases f with
  | next=>exact wpAny_execs_nil (fZ R hf')
  | brk=>exact fZ R hf'
  | cont=>exact fZ R hf'
  | ret v=>exact fZ R hf'
 .have q:=toHandler (npos:=npos) (hpos:=hpos) R hD hx hg ht hn hv
  refine aaz q (λ_ wz vn=>?_) λv' wz vn=>lF R vn
  refine aaz vn (λ_ x0 vo=>?_) λv' x0 vo=>lF R vo
  exact aaz vo (λf x5 vp=>fZ R vp) λv' x5 vp=>lF R vp
let iW.le(k:gU L g g')(h:iW T F L g' P r s'):iW T F L g P r s':=by
 cases r with
 | ok f=>exact PF.le k h
 | error e=>exact PYT.le k h
let Q9(h:nD T c F t b m P U):vQ T c F (.While t b [] pos) m P U:=λA L l g s R=>by
 refine wpAny_While (codeAny_mono (h A L l g s R) λr s' z=>?_)
 cases r with
 | ok f=>exact z
 | error e=>exact oK z
let GP(h:j4 T c F m t (λq xb=>if q=true then dU T c F b m { P with nxt:=λm' U'=>nD T c F t b m' P U',cnt:=λm' U'=>nD T c F t b m' P U',brk:=P.nxt } xb else P.nxt m xb) (λe U'=>P.exc e m U') U) :
  nD T c F t b m P U:=λA L l g s R=>by
 exists codeAny_of_tree
 exists wpAny_noted
 simp only[whileTurn]
 have bad:∀{v:Value} {s':Shared},PY T F L g P.exc v s'->notedBy T.M A (F.env L) (λe s'=>iW T F L g P (.error e) s') v s':=λz=>dW R.tG z
 refine aaw (aaz (h.bind R (P:=λq wz=>wpAny T.M A (if q=true then(do
   match ← execs b (F.env L)with
   | .next | .cont=>again (.whileLoop t b [] (F.env L))
   | .brk=>pure (.done .next)
   | .ret v=>pure (.done (.ret v)):Sem Fin)else(do pure (Fin.done (← execs [] (F.env L)))))
   (λfin s'=>match fin with | .done f=>iW T F L g P (.ok f) s' | .again c'=>c'.quiet=true/\codeAny T.M A c' (iW T F L g P) s') (notedBy T.M A (F.env L) (λe s'=>iW T F L g P (.error e) s')) wz) λq wy ut xb vy ua vm=>?_) (λq wz z=>?_) λv wz z=>bad (z.toY R λe U' q=>q))
 .cases q with
  | false =>
   simp only[adC,if_false]at vm ⊢
   exact aaw (wpAny_execs_nil (aax #[ut,m,xb,#[vy.toL L,ua.si,ua.view,ua.fr],vm]))
  | true =>
   simp only[if_true]at vm ⊢
   refine aaw (aaz (vm A L l ut wy ua) (λf x0 vo=>?_) λv x0 z=>bad (z.le (vy.toL L)))
   have#[uv,m3,xf,ug,vo]:=vo
   have uc:=ua.Dy ug
   cases f with
   | next=>exact aax #[rfl,codeAny_mono (vo A L l uv x0 uc) λr s' z=>z.le ((vy.toL L).trans ug.le)]
   | cont=>exact aax #[rfl,codeAny_mono (vo A L l uv x0 uc) λr s' z=>z.le ((vy.toL L).trans ug.le)]
   | brk=>exact aax #[uv,m3,xf,ug.gY (vy.toL L),vo]
   | ret v=>exact aax #[uv,m3,xf,ug.gY (vy.toL L),vo]
 .cases q <;> exact z
show ∀{T:Tp}{c:Cx}{F:Fc}{m:Lm}{X:Addr->Ψ}{U:Sg}{A:Around}{L:Addr}{l:List Env}{g:G}{s s':Shared}{Q:V->Ψ},_
let Ft{a b c:Int}(si:T.Si g s)(vw:View U g)(q:Q (.rng a b c) U) :
  PV T g Q (.ref s.heap.objs.size) { s with heap:=s.heap.push (WD a b c t u v),toks:=k }:=by
 have fr:=si.ok.fresh
 have sm:bG g (g.set s.heap.objs.size (.imm (WD a b c t u v))):=bG.fill fr
 exact#[_,.rng a b c,U,sm.toLe,Si.at si sm.imm (si.ok.push (aaX _ rfl)),sm.view vw,.rng (G.set_same ..),q]
let Ck(q:Q (.rng 0 b 1) U):aj T c (.typ "range") [.int b] Q X U:=λg s A l fv args vw si aok rf ra=>by
 cases rf
 cases ra with | cons r1 r2=>cases r2 with | nil =>
 cases r1
 exact call_range_1 (Ft si vw q)
let Cu(q:Q (.rng a b 1) U):aj T c (.typ "range") [.int a,.int b] Q X U:=λg s A l fv args vw si aok rf ra=>by
 cases rf
 cases ra with | cons r1 r2=>cases r2 with | cons r2 r3=>cases r3 with | nil =>
 cases r1; cases r2
 exact call_range_2 (Ft si vw q)
let Oe(h:0<c')(hc:c'<2 ^ 60)(q:Q (.rng a b c') U):aj T c (.typ "range") [.int a,.int b,.int c'] Q X U:=λg s A l fv args vw si aok rf ra=>by
 cases rf
 cases ra with | cons r1 r2=>cases r2 with | cons r2 r3=>cases r3 with | cons r3 r4=>cases r4 with | nil =>
 cases r1; cases r2; cases r3
 exact call_range_3 ∎ (Ft si vw q) (.inl (noPylong h hc))
have Src.item(U:Sg):Src->Nat->Option V
 | .tup vs,i=>vs[i]?
 | .str l,i=>l[i]?.map λch=>V.str [ch]
 | .lst a,i=>(match U a with | some (.list vs)=>vs[i]? | _=>none)
 | .rng a c n,i=>if i<n then some (.int (a+i*c))else none
let za.type(x:za g h it src i):∃ o ty,h.get? it=some o/\o.cls = .type ty/\["enumerate","zip","dict_itemiterator","dict_reverseitemiterator","odict_iterator","itertools.zip_longest","itertools.pairwise"].contains ty=false:=by
 cases src with
 | tup vs=>have#[t,xs,n,_,_,o,ho,hc,_]:=x; exact#[o,_,ho,hc,by decide]
 | str l=>have#[ty,t,h1,o,ho,hc,_]:=x; refine#[o,_,ho,hc,?_]; rcases h1 with rfl | rfl <;> decide
 | lst a=>have#[o,ho,hc,_]:=x; exact#[o,_,ho,hc,by decide]
 | rng a c n=>exact#[_,_,x,rfl,by decide]
let za.keep(k:∀ a o,g a = .imm o->g' a = .imm o)(e:∀ o,h.get? it=some o->h'.get? it=some o)(x:za g h it src i):za g' h' it src i:=by
 cases src with
 | tup vs=>have#[t,xs,n,h1,h2,o,ho,r]:=x; exact#[t,xs,n,k _ _ h1,h2.mono k,o,e _ ho,r]
 | str l=>have#[ty,t,h1,o,ho,r]:=x; exact#[ty,t,h1,o,e _ ho,r]
 | lst a=>have#[o,ho,r]:=x; exact#[o,e _ ho,r]
 | rng a c n=>exact e _ x
let SN{Q:Unit->Shared->Prop}(ho:s.heap.get? it=some o)(hc:o.cls = .type ty)(hn:["enumerate","zip","dict_itemiterator","dict_reverseitemiterator","odict_iterator","itertools.zip_longest","itertools.pairwise"].contains ty=false)(h:Q () s):wpAny T.M A (letOwnedTupleGo target (.ref it) v) Q E s:=by
 unfold letOwnedTupleGo
 cases target <;> try exact aax h
 all_goals
  cases v <;> try exact aax h
  refine aaw (wpAny_load ho ?_)
  rw[hc]
  cases o.data <;> try exact aax h
  show 1
  rw[hn]
  exact aax h
let iU.XQ{c:Cell}(ki:∀ a o,g a = .imm o->g' a = .imm o)(kt:∀ a e,g a = .tb e->g' a = .tb e)(ke:∀ a C d,g a = .cell (.exc C d)->g' a = .cell (.exc C d))(ht:Tr g' a->Tr g a)(e:∀ o,h.get? a=some o->h'.get? a=some o)(x:iU P g h a c):iU P g' h' a c:=by
 cases c with
 | list vs=>have#[xs,n,h1,h2,h3]:=x; exact#[xs,n,e _ h1,h2.mono ki,h3]
 | dict es=>have#[ds,n,h1,h2,h3]:=x; exact#[ds,n,e _ h1,h2.mono ki,h3]
 | inst C d=>exact e _ x
 | exc C d =>
  have#[a0,tb,ctx,ca,su,me,h1,h2,h3]:=x
  refine#[a0,tb,ctx,ca,su,me,e _ h1,?_,?_]
  .rcases h2 with h2 | ⟨T,h2,h4⟩
   .exact .inl #[h2.1,λq=>h2.2 (ht q)]
   .exact .inr #[T,h2,kt _ _ h4]
  .rcases h3 with h3 | ⟨c,C',d',h3,h4,h5⟩
   .exact .inl h3
   .exact .inr #[c,C',d',h3,h4,ke _ _ _ h5]
let gW(e:g it = .own o)(h:g b=sl)(n:∀ o,sl ≠ .own o):g.set it o' b=sl:=by
 rw[G.aa _ _ (λz=>by rw[z,e]at h; exact n o h.symm)]; exact h
let gf.dY(x:gf P g h)(e:g it = .own o)(k:∀ b o,b≠it->h.get? b=some o->h'.get? b=some o)(hn:∀ e,o' ≠ .tb e)(ho:cz P (g.set it o') h' it o'):gf P (g.set it o') h':=by
 intro b
 by_cases eb:b=it
 .subst eb; rw[G.set_same]; exact ho
 .rw[G.aa _ _ eb]
  have q:=x b
  cases hs:g b with
  | cell c =>
   rw[hs]at q
   exact iU.XQ (λa o z=>gW e z (by intro o q; cases q)) (λa o z=>gW e z (by intro o q; cases q)) (λa C d z=>gW e z (by intro o q; cases q)) (Tr.set hn) (k b · eb) q
  | free=>trivial
  | imm o=>rw[hs]at q; exact k _ _ eb q
  | own o=>rw[hs]at q; exact k _ _ eb q
  | frame m=>rw[hs]at q; have#[o,es,ep,ho,r]:=q; exact#[o,es,ep,k _ _ eb ho,r]
  | tb e'=>rw[hs]at q; have#[#[o,ts,ho,r],z]:=q; exact#[#[o,ts,k _ _ eb ho,r],z]
let gU.dY(k:gU L g0 g)(f:g0 it = .free):gU L g0 (g.set it o'):=by
 have ne:∀ b,g0 b ≠ .free->b≠it:=λb n q=>n (q▸f)
 refine#[λb o q=>?_,λb o n q=>?_,λb e' q=>?_,λb C d q=>?_,λb o q=>?_] <;> rw[G.aa _ _ (ne b (by rw[q]; intro z; cases z))]
 .exact k.imm _ _ q
 .exact k.frame _ _ n q
 .exact k.tb _ _ q
 .exact k.exc _ _ _ q
 .exact k.own _ _ q
let Run.dY(R:Run T c F m U A L l g s)(e:g it = .own o)(k:∀ b o,b≠it->s.heap.get? b=some o->h'.get? b=some o)(hn:∀ e,o' ≠ .tb e)(ho:cz T.w.params (g.set it o') h' it o') :
  Run T c F m U A L l (g.set it o') { s with heap:=h',toks:=n }:=by
 have ki:∀ a o,g a = .imm o->g.set it o' a = .imm o:=λa o z=>gW e z (by intro o q; cases q)
 refine#[λa c q=>gW e (R.view a c q) (by intro o q; cases q),Si.at R.si ki (R.si.ok.dY e k hn ho),#[R.aok.depth,R.aok.units,R.aok.hand,λx hx=>?_,R.aok.frames,λenv he=>?_],?_,R.kind]
 .have#[C,d,q]:=R.aok.hexc x hx
  exact#[C,d,gW e q (by intro o q; cases q)]
 .have#[h1,L',m,h2,h3]:=R.aok.fr env he
  exact#[h1,L',m,h2,gW e h3 (by intro o q; cases q)]
 .have#[mc,h1,h2]:=R.fr
  exact#[mc,gW e h1 (by intro o q; cases q),(h2.mono ki).imp (F.iM ki)]
show ∀{T:Tp}{c:Cx}{F:Fc}{m:Lm}{X:Addr->Ψ}{U:Sg}{A:Around}{L:Addr}{l:List Env}{g:G}{s s':Shared}{E:Value->Shared->Prop},_
let Yk:1<=sizeLine:=by rw[acM]; omega
let Wf(R:Run T c F m U A L l g s)(hs:src.ok c U)(hv:src.item U i=some v)(hi:za g s.heap it src i)(k:∀ y h' tk o',Rep g v y->(∀ b o,b≠it->s.heap.get? b=some o->h'.get? b=some o)->h'.get? it=some o'->za g h' it src (i+1)->Q (some y) { s with heap:=h',toks:=tk }) :
  wpAny T.M A (pyNext (.ref it)) Q E s:=by
 cases src with
 | tup vs =>
  have#[t,xs,n,h1,h2,h3]:=hi
  have#[x,hx,rx]:=h2.get hv
  refine next_tuple_item h3 (bz R.si h1) (by simpa using hx) λh' hit hsb=>?_
  have#[o',ho',r]:=id hit
  exact k x h' s.toks o' rx hsb.extBut ho' #[t,xs,n,h1,h2,hit]
 | str ls =>
  have#[ty,t,h1,h2]:=hi
  have#[ch,hc,rfl]:=adR.mp hv
  have hc':(Cs ls).cps[i]? = some ch:=by simpa [Cs]using hc
  rcases h1 with rfl | rfl
  .refine wpAny_pyNext_ascii_item h2 hc' λh' hit hsb=>?_
   have#[o',ho',r]:=id hit
   exact k _ h' _ o' (Rep.str [ch] _ Yk) hsb.extBut ho' #[_,t,.inl rfl,hit]
  .refine wpAny_pyNext_wide_item h2 hc' λh' hit hsb=>?_
   have#[o',ho',r]:=id hit
   exact k _ h' _ o' (Rep.str [ch] _ Yk) hsb.extBut ho' #[_,t,.inr rfl,hit]
 | lst a =>
  unfold Src.item at hv
  dsimp only at hv
  split at hv
  .rename_i vs hσ
   have#[xs,l1,l2,l3]:=bQ R.si R.view hσ
   have#[x,hx,rx]:=l2.get hv
   refine wpAny_pyNext_list_item hi l1 (by simpa using hx) λh' hit hsb=>?_
   have#[o',ho',r]:=id hit
   exact k x h' s.toks o' rx hsb.extBut ho' hit
  .cases hv
 | rng a c' n =>
  unfold Src.item at hv
  dsimp only at hv
  split at hv
  .cases hv
   refine wpAny_pyNext_range_item hi ∎ λh' hit hsb=>?_
   exists k _ h' _ _ (.int _ _) hsb.extBut hit
   show IsRangeIter _ _ _ _ _
   have e1:a+((i+1:Nat):Int)*c'=a+i*c'+c':=by push_cast; rw[Int.add_mul,Int.one_mul,Int.add_assoc]
   have e2:(n:Int)-((i+1:Nat):Int)=n-i-1:=by push_cast; omega
   rw[e1,e2]; exact hit
  .cases hv
let We(si:T.Si g s)(aok:qM A c g l)(hty:ty="str_ascii_iterator"∨ty="str_iterator")(hit:s.heap.IsStrIter it ty x t i)(hx:x.cps[i]? = none)(hn:∀ C d,g it ≠ .cell (.exc C d))(hQ:∀ h',(∀ b o,b≠it->s.heap.get? b=some o->h'.get? b=some o)->Q none { s with heap:=h' }):wpAny T.M A (pyNext (.ref it)) Q E s:=by
 have#[o,ho,hc,hd]:=id hit
 have hge:=aok.ge si
 have upd:∀(f:Array Value->Array Value) b o',b≠it->s.heap.get? b=some o'->Heap.get? (s.heap.update it (Obj.mapFields f)) b=some o':=λf b o' n e=>(adY _ _ (Ne.symm n)).trans e
 have fin:∀(f:Array Value->Array Value) (A':Around),A'.handled=A.handled->wpAny T.M A' (newExc (.type "StopIteration") [] >>= λe=>(raiseNew e:Sem Fin)) (λ_ _=>False) (λe s'=>wpAny T.M A (do if ← isInstance e (.type "StopIteration")then pure none else throw e) Q E s') { s with heap:=s.heap.update it (Obj.mapFields f) }:=by
  intro f A' hA
  refine Et (si.ok.exs.grow λb #[C,d,e] o' ho'=>upd f b o' (λz=>by subst z; exact hn _ _ e) ho') (hA.trans aok.hand) aok.hexc
   (λx hx=>by rw[Heap.size_update]; exact hge x hx) λh' e hk #[o',ho',hc']=>?_
  refine aaw (wpAny_isInstance #[_,ho',hc'] isSubtype_stop ?_)
  exact aax (hQ h' λb o' n e=>hk _ _ (upd f b o' n e))
 rcases hty with rfl | rfl
 .unfold pyNext
  refine aaw (wpAny_attempt (wpAny_callSpecial?_slot hit.typeIs F.slot_str_ascii_iterator_next
   (wpAny_call_entry F.slot_str_ascii_iterator_next hit.typeIs F.entry_str_ascii_iterator_next ?_ (F.args_str_ascii_iterator_next_1 _))))
  show wpAny _ _ (field (.ref it) 0 >>= _) _ _ s
  refine aaw (ad0 ho hd rfl ?_)
  show wpAny _ _ (field (.ref it) 1 >>= _) _ _ s
  refine aaw (ad0 ho hd (x:=.int i 0) rfl ?_)
  simp only[Int.toNat_natCast,hx]
  refine aaw (wpAny_rule (aaw (wpAny_setField ho hd (by simp) (aaw (wpAny_letGo ?_)))))
  exact aaz (fin _ _ rfl) (λ_ _ z=>z.elim) λ_ _ z=>z
 .unfold pyNext
  refine aaw (wpAny_attempt (wpAny_callSpecial?_slot hit.typeIs F.slot_str_iterator_next
   (wpAny_call_entry F.slot_str_iterator_next hit.typeIs F.entry_str_iterator_next ?_ (F.args_str_iterator_next_1 _))))
  show wpAny _ _ (field (.ref it) 0 >>= _) _ _ s
  refine aaw (ad0 ho hd rfl ?_)
  show wpAny _ _ (field (.ref it) 1 >>= _) _ _ s
  refine aaw (ad0 ho hd (x:=.int i 0) rfl ?_)
  simp only[Int.toNat_natCast,hx]
  refine aaw (wpAny_rule (aaw (wpAny_setField ho hd (by simp) (aaw (wpAny_letGo ?_)))))
  exact aaz (fin _ _ rfl) (λ_ _ z=>z.elim) λ_ _ z=>z
let Zi(R:Run T c F m U A L l g s)(hs:src.ok c U)(hv:src.item U i=none)(ho:g it = .own o)(hi:za g s.heap it src i)(k:∀ h',(∀ b o,b≠it->s.heap.get? b=some o->h'.get? b=some o)->Q none { s with heap:=h' }) :
  wpAny T.M A (pyNext (.ref it)) Q E s:=by
 cases src with
 | tup vs =>
  have#[t,xs,n,h1,h2,h3]:=hi
  have hx:xs.toArray[i]? = none:=by
   have e1:vs[i]? = none:=hv
   rw[List.getElem?_eq_none_iff]at e1
   have:=h2.length
   simp; omega
  have q:=R.si.ok it
  have#[o3,ho3,hc3,hd3]:=id h3
  have hh:=R.aok.hand
  have#[oi,hoi,hci,hdi]:=id h3
  have#[ol,hol,_,nl,hdl]:=bz R.si h1
  have hge:=R.aok.ge R.si
  unfold pyNext
  refine aaw (wpAny_attempt (wpAny_callSpecial?_slot h3.typeIs slot_tupleiter_next
   (wpAny_call_entry slot_tupleiter_next h3.typeIs entry_tupleiter_next ?_ (args_tupleiter_next _))))
  show wpAny _ _ (field (.ref it) 0 >>= _) _ _ s
  refine aaw (ad0 hoi hdi rfl ?_)
  show wpAny _ _ (if(Value.ref t==Value.none)=true then _ else _) _ _ s
  rw[ad8 (show ¬ ((Value.ref t==Value.none)=true)from Bool.false_ne_true)]
  refine aaw (ad0 hoi hdi rfl ?_)
  refine aaw (wpAny_seqItems hol hdl ?_)
  simp only[Int.toNat_natCast,hx]
  refine aaw (wpAny_rule (aaw (wpAny_setField hoi hdi (by simp) ?_)))
  have upd:∀ b o',b≠it->s.heap.get? b=some o'->Heap.get? (s.heap.update it (Obj.mapFields (·.setIfInBounds 0 .none))) b=some o':=λb o' n e=>(adY _ _ (Ne.symm n)).trans e
  refine Et (R.si.ok.exs.grow λb #[C,d,e] o' ho'=>upd b o' (λz=>by subst z; rw[ho]at e; cases e) ho') R.aok.hand R.aok.hexc
   (λx hx=>by rw[Heap.size_update]; exact hge x hx) λh' e hk #[o',ho',hc']=>?_
  refine aaw (wpAny_isInstance #[_,ho',hc'] isSubtype_stop ?_)
  exact aax (k h' λb o' n e=>hk _ _ (upd b o' n e))
 | str ls =>
  have#[ty,t,h1,h2]:=hi
  have hx:(Cs ls).cps[i]? = none:=by
   have e1:ls[i]?.map (λch=>V.str [ch])=none:=hv
   simpa [Cs]using e1
  exact We R.si R.aok h1 h2 hx (λC d z=>by rw[ho]at z; cases z) k
 | lst a =>
  have#[hh,h2]:=hs
  unfold Src.item at hv
  dsimp only at hv
  split at h2
  .rename_i vs hσ
   rw[hσ]at hv
   have#[xs,l1,l2,l3]:=bQ R.si R.view hσ
   have:=l2.length
   rw[List.getElem?_eq_none_iff]at hv
   exact wpAny_pyNext_list_end (by rw[R.aok.hand,hh]; rfl) hi l1 (by simp; omega) k
  .exact h2.elim
 | rng a c' n =>
  unfold Src.item at hv
  dsimp only at hv
  split at hv
  .cases hv
  .exact wpAny_pyNext_range_end (by rw[R.aok.hand,show c.hd=none from hs]; rfl) hi ∎ k
let HR{P:tK}(hs:src.ok c U)(h:match src.item U i with
   | some v=>oU F t v m λm'=>dU T c F b m' { P with nxt:=λm'' U''=>uF T c F t src (i+1) b m'' P U'',cnt:=λm'' U''=>uF T c F t src (i+1) b m'' P U'',brk:=P.nxt } U
   | none=>P.nxt m U):uF T c F t src i b m P U:=λA L l g s it g0 R vx f0 #[o,ho] hi=>by
 exists codeAny_of_tree
 exists wpAny_noted
 simp only[forTurn]
 refine aaw (adF (aaw (wpAny_onRaise ?_)))
 show 2
 .rename_i v hv
  refine Wf R hs hv hi λy h' tk o' ry hk ho' hi' => ?_
  have ua:Run T c F m U A L l (g.set it (.own o')) { s with heap:=h',toks:=tk }:=R.dY ho hk (by intro _ z; cases z) ho'
  have ki:∀ a o,g a = .imm o->(g.set it (.own o')) a = .imm o:=λa o z=>gW ho z (by intro o q; cases q)
  have vy:gU L g0 (g.set it (.own o')):=vx.dY f0
  have hi1:=hi'.keep ki λ_ z=>z
  have#[oi,ty,q1,q2,q3]:=hi1.type
  show 1
  refine aaw (SN q1 q2 q3 ?_)
  refine aaw (oE ua (ry.mono ki) h λuu wz wh uf vn=>?_)
  have ub:=ua.Dy uf
  have bad:∀{v:Value} {s':Shared},PY T F L uu P.exc v s'->notedBy T.M A (F.env L) (λe s'=>iW T F L g0 P (.error e) s') v s':=λz=>aaz (dW (E:=λ_ _=>False) ub.tG z) (λ_ _ q=>q.le (vy.trans uf.le)) λ_ _ q=>q.elim
  refine aaw (aaz (vn A L l uu wz ub) (λf x0 vo=>?_) λv x0 z=>bad z)
  have#[uv,m3,xf,ug,vo]:=vo
  have uc:=ub.Dy ug
  have own3:=ug.le.own _ _ (uf.le.own _ _ (G.set_same ..))
  have uq:x0.heap.get? it=some o':=by have:=uc.si.ok it; rw[own3]at this; exact this
  have hi3:=hi1.keep (λa o z=>ug.le.imm _ _ (uf.le.imm _ _ z)) λo z=>by
   rw[ho']at z; cases z; exact uq
  have w7:=(vy.trans uf.le).trans ug.le
  cases f with
  | next=>exact aax #[rfl,vo A L l uv x0 it g0 uc w7 f0 #[_,own3] hi3]
  | cont=>exact aax #[rfl,vo A L l uv x0 it g0 uc w7 f0 #[_,own3] hi3]
  | brk=>exact aax #[uv,m3,xf,#[w7,ug.si,ug.view,ug.fr],vo]
  | ret v=>exact aax #[uv,m3,xf,#[w7,ug.si,ug.view,ug.fr],vo]
 .rename_i hv
  refine Zi R hs hv ho hi λh' hk=>?_
  have ua:Run T c F m U A L l (g.set it .free) { s with heap:=h',toks:=s.toks }:=R.dY ho hk (by intro _ z; cases z) trivial
  exact aax #[rfl,codeAny_block (wpAny_execs_nil #[_,m,U,#[vx.dY f0,ua.si,ua.view,ua.fr],h])]
let WR(R:Run T c F m U A L l g s)(r:Rep g v x)(h:srcOf U v=some src)(k:∀ it g' s',Le g g'->Run T c F m U A L l g' s'->g it = .free->(∃ o,g' it = .own o)->za g' s'.heap it src 0->Q (.ref it) s'):wpAny T.M A (pyIter x) Q E s:=by
 have fr:=R.si.ok.fresh
 have go:∀(o:Obj) (k':Nat),o.isFreed=false->(∀ g',(∀ a o,g a = .imm o->g' a = .imm o)->za g' (s.heap.push o) s.heap.objs.size src 0)->Q (.ref s.heap.objs.size) { s with heap:=s.heap.push o,toks:=k' }:=by
  intro o k' hf hi
  have sm:bG g (g.set s.heap.objs.size (.own o)):=bG.fill fr
  have si':T.Si (g.set s.heap.objs.size (.own o)) { s with heap:=s.heap.push o,toks:=k' }:=Si.at R.si sm.imm (R.si.ok.push (aaX _ hf))
  exact k _ _ _ sm.toLe (R.le sm.toLe si' (sm.view R.view)) fr #[o,G.set_same ..] (hi _ sm.imm)
 unfold srcOf at h
 show 2
 .cases h; cases r
  rename_i vs xs a n h1 h2 h3
  exact iter_tuple (bz R.si h1) (go _ s.toks rfl λg' kk=>#[a,xs,n,kk _ _ h1,h2.mono kk,_,aaX _ rfl,rfl,rfl])
 .cases h; cases r
  rename_i l t hz
  cases ha:(Cs l).cps.all (· < 128)
  .exact wpAny_pyIter_wide ha (go _ s.toks rfl λg' kk=>#[_,t,.inr rfl,_,aaX _ rfl,rfl,rfl])
  .exact wpAny_pyIter_ascii ha (go _ s.toks rfl λg' kk=>#[_,t,.inl rfl,_,aaX _ rfl,rfl,rfl])
 .show 2
  .rename_i a vs hσ
   cases h; cases r
   have#[xs,l1,l2,l3]:=bQ R.si R.view hσ
   exact wpAny_pyIter_list l1 (go _ s.toks rfl λg' kk=>#[_,aaX _ rfl,rfl,rfl])
  .cases h
 .rename_i a b c'
  cases r
  rename_i r t u v' h1
  have hr:=R.si.ok r
  rw[h1]at hr
  show 2
  .rename_i q
   have#[rfl,q1,q2,q3,q4]:=q
   cases h
   have es:Builtin.Range.rangeSize a b 1=((b-a).toNat:Int):=by rw[rangeSize_one]; split <;> omega
   exists wpAny_pyIter_range hr ?_
   .unfold Builtin.Range.small
    rw[es]
    simp only[Builtin.Range.rangeFitsLong,acV,Bool.or_eq_true,decide_eq_true_eq,beq_iff_eq,show(1:Int) > 0 by decide,if_true]
    omega
   .rw[es]
    exact go _ s.toks rfl λg' kk=>by
     show IsRangeIter _ _ _ _ _
     rw[show a+((0:Nat):Int)*1=a by omega,show(((b-a).toNat:Nat):Int)-((0:Nat):Int)=((b-a).toNat:Int) by omega]
     exact aaX _ rfl
  .show 2
   .rename_i q
    have#[rfl,rfl,q3,q4]:=q
    cases h
    have es:Builtin.Range.rangeSize 1 b 2=((b/2).toNat:Int):=by
     unfold Builtin.Range.rangeSize
     rw[ad9 ⋯]
     split <;> omega
    exists wpAny_pyIter_range hr ?_
    .unfold Builtin.Range.small
     rw[es]
     simp only[Builtin.Range.rangeFitsLong,acV,Bool.or_eq_true,decide_eq_true_eq,beq_iff_eq,show(2:Int) > 0 by decide,if_true]
     omega
    .rw[es]
     exact go _ s.toks rfl λg' kk=>by
      show IsRangeIter _ _ _ _ _
      rw[show(1:Int)+((0:Nat):Int)*2=1 by omega,show(((b/2).toNat:Nat):Int)-((0:Nat):Int)=((b/2).toNat:Int) by omega]
      exact aaX _ rfl
   .cases h
 .cases h
let aau{P:tK}(hns:∀ L x,foldedSetIterable it (F.env L) x=pure x)(h:aP T c F m it (λv xb=>∃ src,srcOf xb v=some src/\uF T c F t src 0 b m P xb) (λe U'=>P.exc e m U') U):vQ T c F (.For t it b [] pos) m P U:=λA L l g s R=>by
 refine wpAny_For (aaz (h.bind R λv wy ut av xb vy ua wn vm=>?_) (λ_ _ x=>x) λ_ _ x=>x.toY R λe U' q=>q) (hns L)
 have#[src,hsrc,vm]:=vm
 refine WR ua wn hsrc λit uu wz vz ub ur wl vu=>?_
 refine codeAny_mono (vm A L l uu wz it ut ub (vz.toL L) ur wl vu) λr s' z=>?_
 cases r with
 | ok f=>exact z.le (vy.toL L)
 | error e=>exact oK (PYT.le (vy.toL L) z)
show _
let pG{α:Type}(n):∀(a b:List (Str×α)),(a++b).lookup n=(a.lookup n).or (b.lookup n)
 | [],b=>by simp
 | (k,v)::a,b=>by
  rw[adJ,acY,acY]
  cases h:n==k with
  | true=>rfl
  | false=>exact pG n a b
let lookup_none{α:Type}:∀{a:List (Str×α)},n∉a.map (·.1)->a.lookup n=none
 | [],_=>rfl
 | (k,v)::a,h=>by
  rw[acY]
  have:(n==k)=false:=by simpa using λe:n=k=>h (by rw[e]; exact .head _)
  rw[this]
  exact lookup_none λq=>h (.tail _ q)
let gB{α:Type}:∀{ps:List Str} {vs:List α} {i:Nat} {p:Str} {v:α},ps.Nodup->ps[i]? = some p->vs[i]? = some v->(ps.zip vs).lookup p=some v
 | [],_,_,_,_,_,h,_=>by simp at h
 | _::_,[],_,_,_,_,_,h=>by simp at h
 | q::ps,u::vs,0,p,v,_,h1,h2=>by
  simp at h1 h2; subst h1 h2
  simp[adG,acY]
 | q::ps,u::vs,i+1,p,v,nd,h1,h2=>by
  simp only[List.getElem?_cons_succ]at h1 h2
  rw[adG,acY]
  have nd':=adm.mp nd
  have:(p==q)=false:=by simpa using λe:p=q=>nd'.1 (by rw[← e]; exact aaQ h1)
  rw[this]
  exact gB nd'.2 h1 h2
have yC{α:Type}(L slots:List (Str×α)):List (Str×α):=L.foldl (λsl x=>if(sl.lookup x.1).isNone then sl++[(x.1,x.2)]else sl) slots
let pA(n):∀(L slots:List (Str×α)),(yC L slots).lookup n=(slots.lookup n).or (L.lookup n)
 | [],slots=>by simp[yC]
 | (k,v)::L,slots=>by
  show(yC L (if(slots.lookup k).isNone then slots++[(k,v)]else slots)).lookup n=_
  rw[pA n L]
  by_cases e:n=k
  .subst e
   rw[acY,adZ]
   cases h:slots.lookup n with
   | none=>simp[pG,h,acY]
   | some v'=>simp[h]
  .have e':(n==k)=false:=by simpa using e
   rw[acY,e']
   cases h:slots.lookup k with
   | none=>simp[pG,acY,e']
   | some v'=>simp
let oY{α:Type}{f:Str->Option α}:∀{ps:List Str} {w:List α},ps.length=w.length->(∀(i:Nat) (p:Str) (v:α),ps[i]? = some p->w[i]? = some v->f p=some v)->ps.filterMap (λn=>(f n).map (n,·))=ps.zip w
 | [],w,_,_=>rfl
 | p::ps,[],h,_=>by simp at h
 | p::ps,v::w,h,k=>by
  rw[List.filterMap_cons,k 0 p v rfl rfl,Option.map_some,adG]
  show 1
  rw[oY (by simpa using h) (λi p v h1 h2=>k (i+1) p v (by rw[List.getElem?_cons_succ]; exact h1) (by rw[List.getElem?_cons_succ]; exact h2))]
let Ci(body:(Str×α)->List (Str×α)->Sem (ForInStep (List (Str×α))))(hb:∀ x sl,body x sl=pure (.yield (if(sl.lookup x.1).isNone then sl++[(x.1,x.2)]else sl))):∀(L slots:List (Str×α)),forIn L slots body=pure (yC L slots)
 | [],slots=>by simp[yC]
 | x::L,slots=>by
  rw[List.forIn_cons,hb,pure_bind]
  exact Ci body hb L _
let LQ{α:Type}:∀(ps:List Str) (vs:List α),(ps.zip vs).map (·.1)=ps.take vs.length
 | [],vs=>by simp
 | p::ps,[]=>by simp
 | p::ps,v::vs=>by simp[LQ ps vs]
have bO{α:Type}(n:Nat)(vs ds:List α):List α:=vs++ds.drop (vs.length+ds.length-n)
let adI{α:Type}(l:List α):[]++l=l:=rfl
let Jj(ho:s.heap.get? t=some (iK ds k))(h1:fd.params.posonlyargs=[])(h2:fd.params.vararg=none)(h3:fd.params.kwonlyargs=[])(h4:fd.params.kwarg=none)(h5:fd.params.args.map (·.arg)=ps)(hd:fd.defaults = .ref t)(hn:ps.Nodup)(hl:ds.length<=ps.length)(hv:vs.length<=ps.length)(hge:ps.length<=vs.length+ds.length):BindsTo s fd #[vs,[]] (ps.zip (bO ps.length vs ds)):=by
 have#[nm,qn,#[po,ar,va,ko,kd,ka,dl],bd,sc,gl,cl,df,kdf,dc,pm,an,cd,ct,bu]:=fd
 obtain rfl:po=[]:=h1
 obtain rfl:va=none:=h2
 obtain rfl:ko=[]:=h3
 obtain rfl:ka=none:=h4
 obtain rfl:df = .ref t:=hd
 obtain rfl:ar.map (·.arg)=ps:=h5
 intro M A E Q hQ
 unfold bindArgs
 dsimp only[List.map,adI,List.forIn_nil]
 refine aaw (aax ?_)
 refine aaw (wpAny_seqItems ho rfl ?_)
 dsimp only[Option.getD_some,List.toList_toArray]
 generalize ar.map (·.arg)=ps at *
 rw[ad8 (by simp; omega)]
 have hd:List.drop (ds.length-ps.length) ds=ds:=by rw[show ds.length-ps.length=0 by omega]; rfl
 have e2:(List.filter (λn=>(List.lookup n (ps.zip vs)).isNone) (List.take (ps.length-ds.length) ps))=[]:=by
  rw[List.filter_eq_nil_iff]
  intro n hm
  have#[i,hi]:=List.mem_iff_getElem?.mp hm
  have hlt:i<ps.length-ds.length:=by have:=(adU.mp hi).1; rw[List.length_take]at this; omega
  rw[List.getElem?_take_of_lt hlt]at hi
  have hv':i<vs.length:=∎
  rw[gB hn hi (aa1 hv')]
  simp
 rw[ad8 (by rw[hd,e2]; exact Bool.false_ne_true),hd,Ci _ (λx sl=>by split <;> rfl)]
 refine aaw (aax (aaw (aax ?_)))
 rw[ad8 (by simp)]
 exists aax
 show 1
 have hw:ps.length=(bO ps.length vs ds).length:=by unfold bO; rw[aaG,List.length_drop]; omega
 rw[adL,oY hw (λi p v h1 h2=>?_)]
 .exact hQ
 .rw[pA]
  unfold bO at h2
  have hi:=(adU.mp h1).1
  by_cases hlt:i<vs.length
  .rw[List.getElem?_append_left hlt]at h2
   rw[gB hn h1 h2]; rfl
  .rw[List.getElem?_append_right ∎,List.getElem?_drop]at h2
   have n1:(ps.zip vs).lookup p=none:=by
    refine lookup_none λq=>?_
    rw[LQ]at q
    have#[j,hj]:=List.mem_iff_getElem?.mp q
    have hjl:j<vs.length:=by have:=(adU.mp hj).1; rw[List.length_take]at this; omega
    rw[List.getElem?_take_of_lt hjl]at hj
    have:=(List.getElem?_inj hi hn).mp (h1.trans hj.symm)
    omega
   rw[n1,Option.none_or]
   have nd:(ps.drop (ps.length-ds.length)).Nodup:=List.Sublist.nodup (List.drop_sublist _ _) hn
   exists gB (i:=i-(ps.length-ds.length)) nd ?_
   .rw[List.getElem?_drop,show ps.length-ds.length+(i-(ps.length-ds.length))=i by omega]; exact h1
   .rw[← h2]; congr 1; omega
show ∀{T:Tp}{c:Cx}{F:Fc}{m:Lm}{U:Sg},_
let aV.bO(a:aV g vs xs)(b:aV g ds ys):aV g (Mine.bO n vs ds) (Mine.bO n xs ys):=by
 unfold Mine.bO
 rw[a.length,b.length]
 exact a.append (b.drop _)
let CQ{hd:Option Addr}(hf:(f,q,D,some t)∈gh)(ht:(t,ds)∈qi)(hp:oN D ps)(hsc:oH D ps=true)(hn:ps.Nodup)(hl:ds.length<=ps.length)(hv:vs.length<=ps.length)(hge:ps.length<=vs.length+ds.length)(h:∀ cd,dU T #[n,hd] (qR D q f cd) D.body (ps.zip (bO ps.length vs ds)) #[λ_ U' => ∃ U'',aO U'' U'/\Q .none U'',λv _ U' => ∃ U'',aO U'' U'/\Q v U'',λ_ _=>False,λ_ _=>False,λe _ U' => ∃ U'',aO U'' U'/\X e U''] U) :
  gR T #[n+1,hd] (.ref f) vs Q X U:=by
 intro g s A l fv args vw si aok rf ra
 cases rf
 have#[oc,od,pm,an,cdv,ct,kV,doc,osl,hK,hcd]:=T.fn_ok f q D (some t) hf
 have#[xd,nd,hKt,hrd]:=T.def_ok t ds ht
 simp only[oH,acV,beq_iff_eq,Bool.not_eq_true',ac4,bne_iff_ne,ne_eq]at hsc
 have#[#[#[#[hk,hco],hge'],hcell],hloc]:=hsc
 have#[p1,p2,p3,p4,p5]:=hp
 have hKs:=si.K T.inK
 have hrd':=hrd g λa o e=>si.base a o (T.inK _ _ e)
 have hle:=hrd'.length
 have hz:ps.length=(bO ps.length vs ds).length:=by unfold bO; rw[aaG,List.length_drop]; omega
 have rw':aV g (bO ps.length vs ds) (bO ps.length args xd):=ra.bO hrd'
 have hal:=ra.length
 refine(codeAny_call_def (by have:=aok.depth; dsimp only at this; omega) (hKs _ _ hK) rfl (T.nolimit.keeps si.base') (codeRec_of hKs hcd) rfl
  (Jj (hKs _ _ hKt) p1 p2 p3 p4 p5 rfl hn ∎ ∎ ∎) (λx hx=>hcell x hx) (λx hx=>hloc _ (List.of_mem_zip hx).1) (λvk hns hkp=>?_) hco hge' hk)
 let L:=s.heap.objs.size
 have fr:=si.ok.fresh
 let ut:=g.set L (.frame λy=>(ps.zip (bO ps.length args xd)).reverse.lookup y)
 have sm:bG g ut:=bG.fill fr
 have ok1:gf T.w.params ut vk:=by
  intro b
  by_cases e:b=L
  .subst e
   have e1:ut L = .frame λy=>(ps.zip (bO ps.length args xd)).reverse.lookup y:=G.set_same ..
   rw[e1]; exact hns
  .have e1:ut b=g b:=G.aa _ _ e
   rw[e1]
   exact(si.ok b).keep 0 (sm.toLe.toL 0) (Tr.set (by intro _ z; cases z)) λo z=>hkp b o z
 have R:Run T #[n,hd] (qR D q f cdv) (ps.zip (bO ps.length vs ds)) U (A.deeper ((qR D q f cdv).env L)) L l ut { s with heap:=vk,toks:=s.toks+(ps.zip (bO ps.length args xd)).length }:=by
  refine#[sm.view vw,Si.at si sm.imm ok1,?_,#[_,G.set_same ..,by rw[Fc.Ue _ (λx hx=>hcell x hx)]; exact yq hn hz (rw'.mono sm.imm)],hk]
  have a':=aok.le sm.toLe
  refine#[by have:=aok.depth; show A.depth+1+n<_; dsimp only at this; omega,by have:=aok.units; show A.units+3+10*n+70<_; dsimp only at this; omega,aok.hand,a'.hexc,by show A.frames.map _=_; rw[aok.frames]; rfl,?_]
  intro env he
  rcases acR.mp he with rfl | he
  .exact#[by show D.scope.kind ≠ .module; rw[hk]; decide,L,_,rfl,G.set_same ..]
  .exact a'.fr env he
 have back:∀{g':G},gU L ut g'->Le g g':=λ{g'} k=>#[λa o e=>k.imm a o (sm.imm a o e),λa mm e=>k.frame a mm (λz=>by rw[z,fr]at e; cases e) (sm.frame a mm e),λa e' e=>k.tb a e' (sm.tb a e' e),λa C d e=>k.exc a C d (sm.cell _ _ e),λa o e=>k.own a o (sm.own a o e)]
 refine aaz (h cdv _ L l ut _ R) (λfl s' hf' => ?_) (λv s' hx=>?_)
 .have#[g',m',U',a,r]:=hf'
  cases fl with
  | next=>have#[U'',h1,h2]:=r; exact#[g',.none,U'',back a.le,a.si,λx c e=>a.view x c (h1 x c e),.none,h2]
  | brk=>exact r.elim
  | cont=>exact r.elim
  | ret v=>have#[x,h0,U'',h1,h2]:=r; exact#[g',x,U'',back a.le,a.si,λx c e=>a.view x c (h1 x c e),h0,h2]
 .have#[g',m',U',e,rfl,a,#[C,d,he],U'',h1,h2]:=hx
  have R':=R.Dy a
  refine pL a.si R'.aok rfl he λg'' s'' sm' si' => ?_
  exact#[g'',e,U'',rfl,(back a.le).trans sm'.toLe,si',λx c q=>sm'.cell _ _ (a.view x c (h1 x c q)),#[C,d,sm'.cell _ _ he],h2]
show ∀{T:Tp}{c:Cx}{F:Fc}{m:Lm}{X:Addr->Ψ}{U:Sg}{A:Around}{L:Addr}{l:List Env}{g:G}{s s':Shared}{E:Value->Shared->Prop}{Q:V->Ψ},_
let T3(h:∀ d,bD U d->Q (.ref d) (U.set d (.dict []))):aP T c F m (.Dict [] [] pos) Q X U:=λA L l g s R=>by
 exists wpAny_Dict_empty
 have#[h1,h2,h3,h4]:=jM (c:=.dict []) R.si R.view emptyDict #[[],0,aaX _ rfl,.nil,by simp,by simp[dw]]
 exact#[_,.ref _,_,h1,h2,h3,.ref _,h _ h4]
have ph(T:Tp)(c:Cx)(F:Fc)(m:Lm)(ks:List (Option Expr))(vs:List Expr)(Q:List (V×V)->Ψ)(X:Addr->Ψ)(U:Sg):Prop :=
 ∀ pos A L l g s,Run T c F m U A L l g s->wpAny T.M A (evalPairs (pairTrees ks vs (F.env L) pos)) (λr s' => ∃ g' x U',Le g g'/\T.Si g' s'/\View U' g'/\Tn g' x r/\Q x U') (PX T g X) s
let V2{Q:List (V×V)->Ψ}(h:Q [] U):ph T c F m [] [] Q X U:=λpos A L l g s R=>pairTrees_nil_walk #[g,[],U,Le.refl g,R.si,R.view,.nil,h]
let Tq{Q:List (V×V)->Ψ}(h:aP T c F m k (λkv xb=>aP T c F m v (λvv xc=>ph T c F m ks vs (λr=>Q ((kv,vv)::r)) X xc) X xb) X U):ph T c F m (some k::ks) (v::vs) Q X U:=λpos A L l g s R=>by
 refine pairTrees_cons_walk (h.bind R λa wy ut av xb vy ua wn vm=>Uw vy (vm.bind ua λb wz uu bv xc vz ub wp vn=>?_))
 refine aaz (vn pos A L l uu wz ub) (λr x0 #[uv,x,xf,w7,si3,vw3,rr,q]=>?_) λ_ _ z=>z.le (vy.trans vz)
 exact#[uv,_,xf,(vy.trans vz).trans w7,si3,vw3,.cons ((wn.mono vz.imm).mono w7.imm) (wp.mono w7.imm) rr,q]
let yX:∀{x:List (V×V)} {r:List (Value×Value)} {es:List (Str×V)},Tn g x r->strKeys x=some es->allStrKeys r=true/\KV g es (strPairs r)
 | _,_,_,.nil,h=>by cases h; exact#[rfl,.nil]
 | _,_,_,.cons r1 r2 r3,h=>by
  cases r1 <;> simp only[strKeys]at h <;> try cases h
  have#[es',h1,rfl]:=adR.mp h
  have#[i1,i2]:=yX r3 h1
  exact#[i1,.cons r2 i2]
let RC(hall:ks.all (·.isSome)=true)(hl:ks.length=vs.length)(h0:ks≠[])(hlen:ks.length<=15)(h:ph T c F m ks vs (λx xb=>∃ es,strKeys x=some es/\es.length<=1000/\dw es/\∀ d,bD U d->xb d=none->Q (.ref d) (xb.set d (.dict es))) X U):aP T c F m (.Dict ks vs pos) Q X U:=λA L l g s R=>by
 exists wpAny_Dict_walk (knd:=strKind T.prog T.w) hall hl h0 hlen
 have fr:=R.si.ok.fresh
 let ut:=g.set s.heap.objs.size (.own emptyDict)
 have sm:bG g ut:=bG.fill fr
 have si1:=Si.at (k:=s.toks) R.si sm.imm (R.si.ok.push (aaX _ rfl))
 have ua:=R.le sm.toLe si1 (sm.view R.view)
 refine aaz (h pos A L l ut _ ua) (λr wz #[uu,x,xc,vz,wu,x8,rr,es,h1,h2,h3,h4]=>?_) λ_ _ z=>z.le sm.toLe
 have#[a1,a2]:=yX rr h1
 have own2:=vz.own _ _ (G.set_same ..)
 have hd:wz.heap.get? s.heap.objs.size=some emptyDict:=by have:=wu.ok s.heap.objs.size; rw[own2]at this; exact this
 have hD:wz.heap.DictOf (strKind T.prog T.w) s.heap.objs.size []:=#[_,([].toArray),0,hd,#[rfl,rfl,rfl],rfl,λe he=>by simp at he,.nil,by simp]
 refine display_done_str a1 (by rw[a2.keys]; exact h3) hD λh' hD' hs=>?_
 have#[ds,n,p1,p2,p3]:=CJ hD'
 have ki:∀ a o,uu a = .imm o->(uu.set s.heap.objs.size (.cell (.dict es))) a = .imm o:=λa o z=>gW own2 z (by intro o q; cases q)
 have hn:xc s.heap.objs.size=none:=by
  cases e:xc s.heap.objs.size with
  | none=>rfl
  | some c'=>have:=x8 _ _ e; rw[own2]at this; cases this
 have si3:T.Si (uu.set s.heap.objs.size (.cell (.dict es))) { wz with heap:=h',toks:=wz.toks+r.length } :=
  Si.at wu ki (wu.ok.dY own2 hs.extBut (by intro _ z; cases z) #[ds,n,p1,((a2.aaj p2 p3:dR _ _ _ _)).mono ki,h2,h3])
 have w9:Le g (uu.set s.heap.objs.size (.cell (.dict es))):=by
  have q:=((sm.toLe.trans vz).toL 0).dY (o' := .cell (.dict es)) fr
  exact#[q.imm,λa m z=>gW own2 ((sm.toLe.trans vz).frame _ _ z) (by intro o q; cases q),q.tb,q.exc,q.own]
 exact#[_,.ref _,xc.set s.heap.objs.size (.dict es),w9,si3,x8.set,.ref _,h4 _ (R.view.QV R.si.ok (abW _)) hn]
show ∀{T:Tp}{c:Cx}{F:Fc}{m:Lm}{X:Addr->Ψ}{U:Sg}{Q:V->Ψ}{A:Around}{L:Addr}{l:List Env}{g:G}{s:Shared},_
let gf.acq(x:gf P g h)(f:g I = .free)(e:∀ b o,b≠I->h.get? b=some o->h'.get? b=some o):gf P g h':=λb=>by
 by_cases z:g b = .free
 .rw[z]; trivial
 .exact(x b).keep 0 ((Le.refl g).toL 0) id λo q=>e b o (λw=>z (by rw[w]; exact f)) q
let gf.qT(x:gf P g h)(f:g C = .frame mC)(e:∀ b o,b≠C->h.get? b=some o->h'.get? b=some o):gf P (g.set C .free) h':=λb=>by
 by_cases z:b=C
 .subst z; rw[G.set_same]; trivial
 .rw[G.aa _ _ z]
  have ne:∀ a sl,g a=sl->(∀ q,sl ≠ .frame q)->(g.set C .free) a=sl:=λa sl h1 h2=>by rw[G.aa _ _ (λw=>h2 mC (by rw[← h1,w]; exact f))]; exact h1
  have k:gU C g (g.set C .free):=#[λa o h=>ne a _ h (by intro q w; cases w),λa q n h=>by rw[G.aa _ _ n]; exact h,λa e h=>ne a _ h (by intro q w; cases w),λa D d h=>#[d,ne a _ h (by intro q w; cases w)],λa o h=>ne a _ h (by intro q w; cases w)]
  exact(x b).keep C k (Tr.set (by intro _ w; cases w)) λo q=>e b o z q
let Sg.S6(U:Sg)(a)(x y):(U.set a x).set a y=U.set a y:=by
 funext b
 by_cases h:b=a
 .subst h; rw[Sg.set_same,Sg.set_same]
 .rw[Sg.aa _ _ h,Sg.aa _ _ h,Sg.aa _ _ h]
let zj{RR:Value->Addr->Result->Shared->Prop}{elt iter:Expr}{St:Nat->Heap->Prop}(R:Run T c F m U A L l g s)(hcell:∀ y∈scope.names,y.2 ≠ .cell)(hkind:scope.kind = .function)(hx:scope.names.lookup x=some .local)(W:Walks T.prog T.w A I fp [I] N P St)(hN:N<=100000)(hI:g I = .free)(hIf:I∈fp)(hfp:∀ b∈fp,b<s.heap.objs.size)(hst:St 0 s.heap)(vals:Nat->V)(hP:∀ i v,P i v->Rep g (vals i) v)(tst:Nat->Bool)(row:Nat->V)(helt:∀(C:Addr) (i:Nat) (y:Value) (g':G) (s':Shared) (mC:Str->Option Value) (E':Value->Shared->Prop),i<N->Le g g'->T.Si g' s'->View U g'->s'.heap.Ns C mC->mC x=some y->Rep g' (vals i) y ->
   wpAny T.M A (forIn ifs true λc r=>if r=true then do let ok ← isTrue c (compEnvC scope cl C (F.env L)) (eval c (compEnvC scope cl C (F.env L))); pure (ForInStep.yield ok)else pure (ForInStep.yield r)) (λok s3=>ok=tst i/\∃ tk,s3={ s' with toks:=tk }) E' s' /\
   (tst i=true->∀ tk0,wpAny T.M A (eval elt (compEnvC scope cl C (F.env L))) (λy' s4=>∃ g4 h4 tk,s4={ s' with heap:=h4,toks:=tk }/\bG g' g4/\gf T.w.params g4 h4/\(∀ b,g4 b≠g' b->s'.heap.objs.size<=b)/\(∀ b o,s'.heap.get? b=some o->h4.get? b=some o)/\Rep g4 (row i) y') E' { s' with toks:=tk0 }))(k:∀ D C g' h' tk mC,bD U D->g C = .free->Le g g'->g' C = .frame mC->gf T.w.params g' h'->View (U.set D (.list (((List.range N).filter tst).map row))) g'->RR (.ref D) C (.ok .next) { s with heap:=h',toks:=tk }) :
  wpAny T.M A (newList []) (λacc x0=>wpAny T.M A (newFunctionEnv scope (F.env L).globals cl [] (F.env L).qual none .none (some (F.env L))) (λcenv x5 =>
   codeAny T.M A (.compStart (.ListComp elt [#[.Name x px,iter,ifs,0]] scope pos) 0 (.ref I) acc { cenv with scope:=relabel scope (F.env L) }) (RR acc cenv.locals) x5) E x0) E s:=by
 refine wpAny_newObj_type (wpAny_newFunctionEnv hcell (by intro y hy; simp at hy) (λvm hns1 hsb1=>?_) hkind)
 dsimp only at hns1 hsb1 ⊢
 have#[le2,si2,vw2,frD]:=jM (c:=.list []) R.si R.view { cls:=.type "list",dict:=none,data:=.seq ([]:List Value).toArray } #[[],0,aaX _ rfl,.nil,adD _]
 have hC:(s.heap.push { cls:=.type "list",dict:=none,data:=.seq ([]:List Value).toArray }).objs.size=s.heap.objs.size+1:=ad7 ..
 have fC:=si2.ok.fresh
 generalize hD:s.heap.objs.size=D at *
 generalize hH2:s.heap.push { cls:=.type "list",dict:=none,data:=.seq ([]:List Value).toArray }=H2 at *
 generalize hCC:H2.objs.size=C at *
 generalize hg2:g.set D (.cell (.list []))=g2 at *
 have smC:bG g2 (g2.set C (.frame λx=>([]:List (Str×Value)).reverse.lookup x)):=bG.fill fC
 have ok3:gf T.w.params (g2.set C (.frame λx=>([]:List (Str×Value)).reverse.lookup x)) vm:=by
  intro b
  by_cases e:b=C
  .subst e; rw[G.set_same]; exact hns1
  .rw[G.aa _ _ e]
   exact(si2.ok b).keep 0 (smC.toLe.toL 0) (Tr.set (by intro _ z; cases z)) λo z=>hsb1.extBut b o e (abt _ z)
 have hDC:D≠C:=by rw[hC]; exact adl (ad6 _)
 have hID:=adl (hfp I hIf)
 have hIC:I≠C:=by rw[hC]; exact adl (adX (hfp I hIf))
 have hf:∀ b∈fp,b≠C/\b≠D:=λb hb=>#[by rw[hC]; exact adl (adX (hfp b hb)),adl (hfp b hb)]
 have keep1:=λb o hb e=>hsb1.extBut b o (by rw[hC]; exact adl (adX hb)) (abt _ (by rw[← hH2]; exact abt _ e))
 have hst1:=W.frame _ _ _ hst λb hb o e=>keep1 b o (hfp b hb) e
 have hz1:C<vm.objs.size:=by have#[o,es,ep,ho,_]:=hns1; exact adB ho
 have loop:codeAny T.M A (.compLoop (.ListComp elt [#[.Name x px,iter,ifs,0]] scope pos) 0 (.ref I) (.ref D) (compEnvC scope cl C (F.env L))) (RR (.ref D) C) { s with heap:=vm,toks:=s.toks+([]:List (Str×Value)).length }:=by
  refine codeAny_compLoop_tests (λkk s' => ∃(i:Nat) (g':G) (h':Heap) (tk:Nat),i<=N/\kk=N+1-i/\s'={ s with heap:=h',toks:=tk }/\Le g g'/\g' I = .free/\gf T.w.params g' h'/\View (U.set D (.list (((List.range i).filter tst).map row))) g'/\(∃ mC,g' C = .frame mC)/\St i h') ?_ (N+1)
   #[0,_,vm,_,adD _,rfl,rfl,le2.trans smC.toLe,by rw[G.aa _ _ hIC,← hg2,G.aa _ _ hID]; exact hI,ok3,smC.view vw2,#[_,G.set_same ..],hst1]
  rintro kk s' ⟨i,g',h',tk,hi,rfl,rfl,gY,fI,ok',vw',⟨mC,hCf⟩,hst'⟩
  have vσ:∀{gg:G},View (U.set D (.list (((List.range i).filter tst).map row))) gg->View U gg:=λv a cc q=>v a cc (by rw[Sg.aa _ _ (frD.ne q)]; exact q)
  have hCs:cz T.w.params g' h' C (.frame mC):=by have:=ok' C; rw[hCf]at this; exact this
  by_cases hlt:i<N
  .refine W.item i _ _ _ hlt hst' λv vn tk2 hPv hst2 uz=>?_
   have e2:=λb o n q=>uz b o (by simpa using n) q
   have wi:=ok'.acq fI e2
   have hns2:vn.Ns C mC:=by have:=wi C; rw[hCf]at this; exact this
   refine wpAny_assign_Name (wpAny_storeName_local (lookup_relabel_local hx) hns2 (λvo hns3 hsb3=>?_) (by simp[compEnvC,relabel,hkind]))
   have w9:gU C g' (g'.set C (.frame λz=>if z=x then some v else mC z)):=gU.sG hCf
   have wj:gf T.w.params (g'.set C (.frame λz=>if z=x then some v else mC z)) vo:=wi.sameBut hsb3 C w9 hns3
   have hgC:g C = .free:=by
    have:=fC
    rw[← hg2,G.aa _ _ (Ne.symm hDC)]at this; exact this
   have le3':Le g (g'.set C (.frame λz=>if z=x then some v else mC z)):=by
    have:=(gY.toL C).trans w9
    exact this.toLe λq z=>by rw[hgC]at z; cases z
   have vw3:View (U.set D (.list (((List.range i).filter tst).map row))) (g'.set C (.frame λz=>if z=x then some v else mC z)):=λa cc q=>by
    have:=vw' a cc q
    rw[G.aa _ _ (λz=>by rw[z,hCf]at this; cases this)]; exact this
   have hst3:=W.frame _ _ _ hst2 λb hb o e=>hsb3.extBut b o (hf b hb).1 e
   have fI3:(g'.set C (.frame λz=>if z=x then some v else mC z)) I = .free:=by rw[G.aa _ _ hIC]; exact fI
   generalize hg3:g'.set C (.frame λz=>if z=x then some v else mC z)=uv at le3' wj vw3 fI3
   have hC3:uv C = .frame λz=>if z=x then some v else mC z:=by rw[← hg3]; exact G.set_same ..
   have si3:T.Si uv { s with heap:=vo,toks:=tk2+1 }:=Si.at R.si le3'.imm wj
   have hh:=helt C i v uv { s with heap:=vo,toks:=tk2+1 } (λz=>if z=x then some v else mC z)
   have hD3:D<vo.objs.size:=by
    have:=wj D
    rw[vw3 D _ aq]at this
    have#[_,_,h1,_]:=this
    exact adB h1
   have hI3:=Nat.lt_trans (hfp I hIf) hD3
   have hC3z:C<vo.objs.size:=by have#[o,es,ep,ho,_]:=hns3; exact adB ho
   refine aaz (hh _ hlt le3' si3 (vσ vw3) hns3 (ad9 rfl) ((hP i v hPv).mono le3'.imm)).1 (λok x5 vp=>?_) λ_ _ e=>e
   have#[rfl,tk4,rfl]:=vp
   have rng:(List.range (i+1)).filter tst=(List.range i).filter tst++(if tst i=true then [i]else []):=by
    rw[List.range_succ,List.filter_append]
    by_cases q:tst i=true <;> simp[q]
   by_cases ht:tst i=true
   .rw[ad9 ht]
    refine aaz ((hh _ hlt le3' si3 (vσ vw3) hns3 (ad9 rfl) ((hP i v hPv).mono le3'.imm)).2 ht tk4) (λy' x6 vq=>?_) λ_ _ e=>e
    have#[g5,H5,tk5,rfl,sm5,ok5,new5,kp5,ry]:=vq
    have fI5:g5 I = .free:=by
     by_cases z:g5 I=uv I
     .rw[z]; exact fI3
     .exact absurd (new5 I z) (Nat.not_le.mpr hI3)
    have vw5:=sm5.view vw3
    have qD:=ok5 D
    rw[vw5 D _ aq]at qD
    have#[xs,nn,ho,hr,hl]:=qD
    have si5:T.Si g5 { s with heap:=H5,toks:=tk5 }:=Si.at R.si (λa o z=>sm5.imm a o (le3'.imm a o z)) ok5
    have hlen:(((List.range i).filter tst).map row).length+1<=sizeLine:=by
     rw[ac0]
     have:=List.length_filter_le tst (List.range i)
     rw[List.length_range]at this
     rw[acM]; omega
    have e6:(U.set D (.list (((List.range i).filter tst).map row))) D=some (.list (((List.range i).filter tst).map row)):=aq
    have#[wa,si6,vw6]:=rQ (f:=(·.push y')) si5 vw5 e6 ho (by simp) (hr.append (.cons ry .nil)) (by simpa using hlen)
    refine wpAny_list_append_plain #[_,ho] (λvt hl6 hs6=>?_) (by have:=hr.length; rw[List.size_toArray]; omega)
    refine#[N+1-(i+1),by omega,i+1,g5.set D (.cell (.list (((List.range i).filter tst).map row++[row i]))),vt,tk5,hlt,rfl,rfl,(le3'.trans sm5.toLe).trans wa,?_,?_,?_,#[λz=>if z=x then some v else mC z,?_],?_]
    .rw[G.aa _ _ hID]; exact fI5
    .exists ok5.sameBut hs6 0 (wa.toL 0)
     have#[n6,ho6]:=hl6
     exact#[xs++[y'],n6,by rw[ho6]; simp[Og],(hr.append (.cons ry .nil)).mono wa.imm,by simpa using hlen]
    .rw[Sg.S6]at vw6
     rw[rng,ad9 ht,adH]
     exact vw6
    .rw[G.aa _ _ (Ne.symm hDC)]; exact sm5.frame _ _ hC3
    .exact W.frame _ _ _ hst3 λb hb o e=>hs6.extBut b o (hf b hb).2 (kp5 b o e)
   .rw[ad8 ht]
    refine#[N+1-(i+1),by omega,i+1,uv,vo,tk4,hlt,rfl,rfl,le3',fI3,wj,?_,#[_,hC3],hst3]
    rw[rng,ad8 ht,adL]
    exact vw3
  .have:i=N:=∎
   subst this
   refine W.done _ _ _ hst' λvn tk2 uz=>?_
   have e2:=λb o n q=>uz b o (by simpa using n) q
   have wi:=ok'.acq fI e2
   have hgC:g C = .free:=by
    have:=fC
    rw[← hg2,G.aa _ _ (Ne.symm hDC)]at this; exact this
   exact k D C g' vn tk2 mC frD hgC gY hCf wi vw'
 exact codeAny_compStart_list loop (W.self 0 _ _ _ hst1 loop)
let Le.qT(gY:Le g g')(hgC:g C = .free):Le g (g'.set C .free):=by
 have ne:∀ a sl,g a=sl->sl ≠ .free->a≠C:=λa sl h1 h2 z=>h2 (by rw[← h1,z]; exact hgC)
 exact#[λa o z=>by rw[G.aa _ _ (ne a _ z (by intro w; cases w))]; exact gY.imm a o z,λa o z=>by rw[G.aa _ _ (ne a _ z (by intro w; cases w))]; exact gY.frame a o z,
    λa o z=>by rw[G.aa _ _ (ne a _ z (by intro w; cases w))]; exact gY.tb a o z,λa D' d z=>by have#[d',w]:=gY.exc a D' d z; exact#[d',by rw[G.aa _ _ (ne a _ z (by intro w; cases w))]; exact w],λa o z=>by rw[G.aa _ _ (ne a _ z (by intro w; cases w))]; exact gY.own a o z]
let View.qT(vw':View U g')(hCf:g' C = .frame mC):View U (g'.set C .free):=λa cc q=>by
 have:=vw' a cc q
 rw[G.aa _ _ (λz=>by rw[z,hCf]at this; cases this)]; exact this
let tZ{vs:List V}(si:T.Si g s)(hgC:g C = .free)(gY:Le g g')(hCf:g' C = .frame mC)(ok:gf T.w.params g' h')(vw:View (U.set D (.list vs)) g')(k:Q (.ref D) (U.set D (.list vs))):compPost T.M A (PX T g X) none (PV T g Q) (.ref D) C (.ok .next) { s with heap:=h',toks:=tk }:=by
 have hns:h'.Ns C mC:=by have:=ok C; rw[hCf]at this; exact this
 refine#[mC,hns,λvo hsb3=>?_]
 have leE:=gY.qT hgC
 have siE:T.Si (g'.set C .free) { s with heap:=vo,toks:=tk }:=Si.at si leE.imm (ok.qT hCf λb o n q=>hsb3.extBut b o n q)
 exact#[g'.set C .free,.ref D,_,leE,siE,vw.qT hCf,.ref D,k]
show _
let xY{α β:Type}(ks:List α)(p:α->Bool)(f:α->β)(d:β):∀ n,n<=ks.length->((List.range n).filter λi=>(ks[i]?).elim false p).map (λi=>(ks[i]?).elim d f)=((ks.take n).filter p).map f
 | 0,_=>rfl
 | n+1,h=>by
  have e:=aa1 h
  rw[List.range_succ,List.filter_append,adH,xY ks p f d n (Nat.le_of_succ_le h),List.take_add_one,e]
  simp only[Option.toList_some,List.filter_append,adH]
  congr 1
  by_cases q:p (ks[n]'h)=true
  .simp[e,q,List.filter]
  .simp[e,q,List.filter]
let map_range{β:Type}(f:Nat->β)(n):((List.range n).filter λ_=>true).map f=(List.range n).map f:=by
 rw[List.filter_eq_self.mpr (λ_ _=>rfl)]
show ∀{T:Tp}{c:Cx}{F:Fc}{m:Lm}{X:Addr->Ψ}{U:Sg}{Q:V->Ψ}{A:Around}{L:Addr}{l:List Env}{g:G}{s:Shared},_
let eQ.imp(h:eQ T F m x P)(k:∀ v,P v->P' v):eQ T F m x P':=by
 unfold eQ at *
 show 2
 .show 2
  .exact k _ h
  .show 4
 .show 2
  .exact k _ h
  .show 4
 .show 2
  .exact k _ h
  .show 4
 .show 4
let Ib(hb:fj o=true)(h:wpAny T.M A (eval o env) (λv wy=>wpAny T.M A (getAttr v n true) P E wy) E s):wpAny T.M A (eval (.Attribute o n pos) env) P E s:=by
 have e:eval (.Attribute o n pos) env=(do
   let v ← attributeBase o n env (eval o env)
   standAt pos.atName
   let r ← holding [v] (getAttr v n true)
   letTemporaryGo o v r
   pure r):=rfl
 rw[e,lM hb]
 exact aaw (aaz h (λv wy vm=>aaw (adF (aaw (acW (aaz vm (λr wz vn=>aaw (wpAny_letTemporaryGo (aax vn))) λ_ _ x=>x))))) λ_ _ x=>x)
let Run.cell(R:Run T c F m U A L l g s)(hl:lk x F.sc.names=some .cell)(hm:lk x m=some v):∃ cc o y,F.cl.lookup x=some cc/\g cc = .imm o/\o.data = .cell (some y)/\Rep g v y:=by
 have#[mc,h1,h2]:=R.fr
 have#[y,h3,h4]:=h2 x v hm
 unfold Fc.see at h3
 rw[hl]at h3
 dsimp only at h3
 split at h3
 .rename_i cc hcc
  unfold CK at h3
  split at h3
  .rename_i o ho
   split at h3
   .rename_i vv hvv
    subst h3
    exact#[cc,o,y,hcc,ho,hvv,h4]
   .cases h3
  .cases h3
 .cases h3
let Hc(hn:scope.names=[(d0,.local),(r,.local),(f,.free)])(hc:env.cells.lookup f=some cc):closureFor scope env=pure [(f,cc)]:=by
 simp only[closureFor,hn]
 simp[List.forIn_cons,cellOf,hc]
let nZ(hn:scope.names=[(d0,.local),(r,.local),(f,.free)])(hf0:f≠d0)(hfr:f≠r)(hk:env.scope.kind = .function)(hl:env.kindOf f=some .cell) :
  (relabel scope env).names.lookup f=some .cell:=by
 have e0:(f==d0)=false:=by simpa using hf0
 have e1:(f==r)=false:=by simpa using hfr
 simp[relabel,hn,acY,e0,e1,hk,hl]
let VG{ks:List (Int×List V)}(hsn:scope.names=[(d0,.local),(r,.local),(f,.free)])(hkd:scope.kind = .function)(hf0:f≠d0)(hfr:f≠r)(hr0:r≠d0)(hdr:(r==("__debug__":Str))=false)(hdx:(xs==("__debug__":Str))=false)(hdf:(f==("__debug__":Str))=false)(hl:lk f F.sc.names=some .cell)(hm:lk f m=some (.int lim))(hx:eQ T F m xs λv=>v = .ref a)(hc:c.hd=none)(hσ:U a=some (.list (ks.map λp=>.tup (.int p.1::p.2))))(hz:ks.length<=100000)(k:∀ D,bD U D->Q (.ref D) (U.set D (.list ((ks.filter λp=>decide (p.1<=lim)).map λp=>.tup (.int p.1::p.2))))) :
  aP T c F m (.ListComp (.Name r p1) [#[.Name r p2,.Name xs p3,[.Compare (.Subscript (.Name r p4) (.Constant (.int 0) k0 p5) p6) [.LtE] [.Name f p7] p8],0]] scope pos) Q X U:=λA L l g s R=>by
 rw[eval_ListComp]
 have#[cc,oc,yf,hcc,hgc,hoc,hrf]:=R.cell hl hm
 have hlk:=dq f F.sc.names
 have hkf:=hlk.trans hl
 have hrl:(relabel scope (F.env L)).names.lookup r=some .local:=lookup_relabel_local (by
  rw[hsn]
  have e:(r==d0)=false:=by simpa using hr0
  simp[acY,e])
 have hlr:scope.names.lookup r=some .local:=by
  rw[hsn]
  have e:(r==d0)=false:=by simpa using hr0
  simp[acY,e]
 refine wpAny_comprehension_free rfl (λ_=>rfl) (Hc hsn hcc) hkd (λy hy hl' => ?_) (aaz (iu (Q:=λv U'=>v = .ref a/\U'=U) hdx (hx.imp λv e=>#[e,rfl]) A L l g s R) (λxv wy vm=>?_) λ_ _ e=>e)
 .rw[hsn]at hy
  simp only[acR,acX,or_false]at hy
  rcases hy with rfl | rfl | rfl
  .rw[hsn]; simp
  .exact hlr
  .cases hl'
 have#[ut,xV,xb,le1,si1,vw1,rx,rfl,rfl]:=vm
 cases rx
 have ua:=R.le le1 si1 vw1
 have#[its,il,ir,iz]:=bQ si1 vw1 hσ
 have hN:its.length=ks.length:=by rw[ir.length,ac0]
 exists wpAny_pyIter_list il
 have fI:=si1.ok.fresh
 have ub:Run T c F m xb A L l ut { wy with heap:=wy.heap.push { cls:=.type "list_iterator",data:=.fields ([.ref a,.int 0 0].toArray) },toks:=wy.toks }:=ua.grow λb _ o e=>abt _ e
 have hhand:A.handled=none:=by rw[R.aok.hand,hc]; rfl
 have#[ol,hol,hol']:=id il
 have hlt:=adB hol
 have hne:=adl hlt
 have hzz:(wy.heap.push { cls:=.type "list_iterator",data:=.fields ([.ref a,.int 0 0].toArray) }).objs.size=wy.heap.objs.size+1:=ad7 ..
 have hsz:its.toArray.size=ks.length:=by rw[List.size_toArray,hN]
 refine zj ub (λy hy=>?_) hkd hlr (Walks.list hhand wy.heap.objs.size a hne its.toArray) (by rw[hsz]; exact hz) fI (by simp) (λb hb=>?_)
  #[#[_,aaX _ rfl,rfl,rfl],#[ol,abt _ hol,hol']]
  (λi=>(ks[i]?).elim V.none λp=>.tup (.int p.1::p.2)) (λi v hv=>?_) (λi=>(ks[i]?).elim false λp=>decide (p.1<=lim)) (λi=>(ks[i]?).elim V.none λp=>.tup (.int p.1::p.2)) (λC i y g' s' mC E' hi gY si' vw' hns hmC ry=>?_)
  λD C g' h' tk mC fD hgC gY hCf ok' vw' => ?_
 .rw[hsn]at hy
  simp only[acR,acX,or_false]at hy
  rcases hy with rfl | rfl | rfl <;> (intro z; cases z)
 .simp only[acR,acX,or_false]at hb
  rw[hzz]
  rcases hb with rfl | rfl
  .exact ad6 _
  .exact adX hlt
 .have hi:i<ks.length:=by
   rcases Nat.lt_or_ge i ks.length with z | z
   .exact z
   .rw[Array.getElem?_eq_none (by rw[hsz]; exact z)]at hv; cases hv
  have e1:(ks.map λp=>V.tup (.int p.1::p.2))[i]? = some (.tup (.int (ks[i]'hi).1::(ks[i]'hi).2)):=by rw[acZ,aa1 hi]; rfl
  have#[y,h1,h2]:=ir.get e1
  have:y=v:=by
   have:its.toArray[i]? = some y:=by simpa using h1
   rw[this]at hv; exact Option.some.inj hv
  subst this
  rw[aa1 hi]
  exact h2
 .rw[hsz]at hi
  rw[aa1 hi]at ry
  simp only[aa1 hi,Option.elim_some]
  have hkr:=hrl
  have hkk:=hkd
  have hkf':(compEnvC scope [(f,cc)] C (F.env L)).kindOf f=some .cell:=nZ hsn hf0 hfr R.kind hkf
  have hcell:s'.heap.IsCell cc (some yf):=by
   have:=si'.ok cc
   rw[gY.imm _ _ (le1.imm _ _ hgc)]at this
   exact#[oc,this,hoc]
  have rf':=(hrf.mono le1.imm).mono gY.imm
  refine#[?_,λht tk0=>?_]
  .simp only[List.forIn_cons,List.forIn_nil,if_true]
   refine aaw (aaw ?_)
   refine wpAny_isTrue_Compare1 (Subscript_ (wpAny_Name (wpAny_loadName_local hkk hkr hns hmC (wpAny_Constant_int ?_)) hdr)) rfl
   cases ry with
   | tup h1 h2 h3 =>
   cases h2 with
   | cons q1 q2 =>
   refine Es (Q:=λu=>u = .int (ks[i]'hi).1) rfl si'.tok vw' (.tup h1 (.cons q1 q2) h3) (.int 0 _) ?_ λu y' n ru hu=>?_
   .unfold di idx
    simp
   subst hu
   refine wpAny_Name (wpAny_loadName_cell hkk hkf' (show List.lookup f [(f,cc)]=some cc by simp) hcell ?_) hdf
   refine qQ R.aok.u64 si'.tok vw' ru rf' rfl λt n' ht=>?_
   subst ht
   refine wpAny_truthy_bool (aax (aax #[rfl,_,rfl]))
  .refine wpAny_Name (wpAny_loadName_local hkk hkr hns hmC ?_) hdr
   exact#[g',s'.heap,tk0,rfl,bG.refl g',si'.ok,λb z=>absurd rfl z,λb o e=>e,ry]
 .have e1:((List.range its.toArray.size).filter λi=>(ks[i]?).elim false λp=>decide (p.1<=lim)).map (λi=>(ks[i]?).elim V.none λp=>.tup (.int p.1::p.2))=(ks.filter λp=>decide (p.1<=lim)).map λp=>V.tup (.int p.1::p.2):=by
   rw[hsz,xY ks (λp=>decide (p.1<=lim)) (λp=>V.tup (.int p.1::p.2)) V.none _ (abW _),List.take_length]
  rw[e1]at vw'
  have#[m1,h1,h2]:=tZ (X:=X) (A:=A) ub.si hgC gY hCf ok' vw' (k D fD)
  exact#[m1,h1,λh'' hs''=>(h2 h'' hs'').le le1]
let Nj{K:Addr->Ψ}(hsn:scope.names=[(d0,.local),(w,.local),(p,.globalImplicit),(f,.free)])(hkd:scope.kind = .function)(hw0:w≠d0)(hl:lk f F.sc.names=some .cell)(hm:lk f m=some nv)(hs:∀ x,foldedSetIterable it (F.env L) x=pure x)(hc:c.hd=none)(hi:aP T c F m it (λv U' => ∃ a,v = .ref a/\U' a=some (.list [])/\K a U') X U)(R:Run T c F m U A L l g s)(k:∀ a xb ut wy,Le g ut->Run T c F m xb A L l ut wy->K a xb->∀ D C g' h' tk mC,bD xb D->ut C = .free->Le ut g'->g' C = .frame mC->gf T.w.params g' h'->View (xb.set D (.list [])) g'->compPost T.M A (PX T g X) use Q' (.ref D) C (.ok .next) { wy with heap:=h',toks:=tk }) :
  wpAny T.M A (comprehension (.ListComp elt [#[.Name w p2,it,[],0]] scope pos) scope (F.env L) ip (newList []) false (eval it (F.env L)) use) Q' (PX T g X) s:=by
 have#[cc,oc,yf,hcc,hgc,hoc,hrf]:=R.cell hl hm
 have hlr:scope.names.lookup w=some .local:=by
  rw[hsn]
  have e:(w==d0)=false:=by simpa using hw0
  simp[acY,e]
 have hcl:closureFor scope (F.env L)=pure [(f,cc)]:=by
  have hc':(F.env L).cells.lookup f=some cc:=hcc
  simp only[closureFor,hsn]
  simp[List.forIn_cons,cellOf,hc']
 refine wpAny_comprehension_free rfl hs hcl hkd (λy hy hl' => ?_) (aaz (hi A L l g s R) (λxv wy vm=>?_) λ_ _ e=>e)
 .rw[hsn]at hy
  simp only[acR,acX,or_false]at hy
  rcases hy with rfl | rfl | rfl | rfl
  .rw[hsn]; simp
  .exact hlr
  .cases hl'
  .cases hl'
 have#[ut,xV,xb,le1,si1,vw1,rx,a,rfl,hσ,k0]:=vm
 cases rx
 have ua:=R.le le1 si1 vw1
 have#[its,il,ir,iz]:=bQ si1 vw1 hσ
 cases ir
 exists wpAny_pyIter_list il
 have fI:=si1.ok.fresh
 have ub:Run T c F m xb A L l ut { wy with heap:=wy.heap.push { cls:=.type "list_iterator",data:=.fields ([.ref a,.int 0 0].toArray) },toks:=wy.toks }:=ua.grow λb _ o e=>abt _ e
 have hhand:A.handled=none:=by rw[R.aok.hand,hc]; rfl
 have#[ol,hol,hol']:=id il
 have hlt:=adB hol
 have hne:=adl hlt
 have hzz:(wy.heap.push { cls:=.type "list_iterator",data:=.fields ([.ref a,.int 0 0].toArray) }).objs.size=wy.heap.objs.size+1:=ad7 ..
 refine zj ub (λy hy=>?_) hkd hlr (Walks.list hhand wy.heap.objs.size a hne ([].toArray)) (adD _) fI (by simp) (λb hb=>?_)
  #[#[_,aaX _ rfl,rfl,rfl],#[ol,abt _ hol,hol']]
  (λi=>.none) (λi v hv=>by simp at hv) (λi=>false) (λi=>.none) (λC i y g' s' mC E' hi=>absurd hi (Nat.not_lt_zero i))
  λD C g' h' tk mC fD hgC gY hCf ok' vw' => ?_
 .rw[hsn]at hy
  simp only[acR,acX,or_false]at hy
  rcases hy with rfl | rfl | rfl | rfl <;> (intro z; cases z)
 .simp only[acR,acX,or_false]at hb
  rw[hzz]
  rcases hb with rfl | rfl
  .exact ad6 _
  .exact adX hlt
 .exact k a xb ut _ le1 ub k0 D C g' h' tk mC fD hgC gY hCf ok' vw'
let aat{nv:V}(hsn:scope.names=[(d0,.local),(w,.local),(p,.globalImplicit),(f,.free)])(hkd:scope.kind = .function)(hw0:w≠d0)(hl:lk f F.sc.names=some .cell)(hm:lk f m=some nv)(hs:∀ L x,foldedSetIterable it (F.env L) x=pure x)(hc:c.hd=none)(hi:aP T c F m it (λv U' => ∃ a,v = .ref a/\U' a=some (.list [])/\∀ D,bD U' D->Q (.ref D) (U'.set D (.list []))) X U):aP T c F m (.ListComp elt [#[.Name w p2,it,[],0]] scope pos) Q X U:=λA L l g s R=>by
 rw[eval_ListComp]
 refine Nj hsn hkd hw0 hl hm (hs L) hc hi R λa xb ut wy le1 ua k D C g' h' tk mC fD hgC gY hCf ok' vw' => ?_
 have#[m1,h1,h2]:=tZ (X:=X) (A:=A) ua.si hgC gY hCf ok' vw' (k D fD)
 exact#[m1,h1,λh'' hs''=>(h2 h'' hs'').le le1]
let tX(si:T.Si g s)(vw:View U g)(ldh:∀(k:Nat) (P':Value->Shared->Prop),P' (.ref hA) { s with toks:=k }->wpAny T.M A (eval (.Name hN q2) env) P' E { s with toks:=k })(ldn:∀(k:Nat) (P':Value->Shared->Prop),(∀ y,Rep g (.str key) y->P' y { s with toks:=k })->wpAny T.M A (eval (.Name nN q4) env) P' E { s with toks:=k })(h1:aY U (.ref hA) vN λv=>v = .ref vd)(h2:di T U (.ref vd) (.str key) λv=>v = .ref a)(h3:aY U (.ref a) kN λv=>v=kv)(k:∀ y (n:Nat),Rep g kv y->P y { s with toks:=n }):wpAny T.M A (eval (.Attribute (.Subscript (.Attribute (.Name hN q2) vN q3) (.Name nN q4) q5) kN q6) env) P E s:=by
 refine Ib rfl (Subscript_ (Ib rfl (ldh s.toks _ ?_)))
 refine xq si.tok vw (.ref _) h1 λu y n ru hu=>?_
 subst hu
 cases ru
 refine ldn n _ λy ry=>?_
 refine Es rfl si.tok vw (.ref _) ry h2 λu y' n' ru hu=>?_
 subst hu
 cases ru
 refine xq si.tok vw (.ref _) h3 λu y n ru hu=>?_
 subst hu
 exact k y n ru
let Vn{hN nN d0 vN kN valN wrN:Str}{q1 q2 q3 q4 q5 q6 r2 r3 r4 r5 r6 u2 u3 u4 u5 u6 q7 p2 p3 p4 pos:Pos}{keys:Nat->LN}{av:Nat->Addr}{kv vv wv:Nat->V}(hsn:scope.names=[(d0,.local),(nN,.local),(hN,.free)])(hkd:scope.kind = .function)(hf0:hN≠d0)(hfr:hN≠nN)(hr0:nN≠d0)(hdr:(nN==("__debug__":Str))=false)(hdf:(hN==("__debug__":Str))=false)(hl:lk hN F.sc.names=some .cell)(hm:lk hN m=some (.ref hA))(hc:c.hd=none)(hat:aY U (.ref hA) vN λv=>v = .ref vd)(hσ:U vd=some (.dict es))(hz:es.length<=100000)(he:∀ i,i<es.length->(keys i).length<=sizeLine/\es[i]? = some (Cs (keys i),.ref (av i))/\di T U (.ref vd) (.str (keys i)) (λv=>v = .ref (av i))/\aY U (.ref (av i)) kN (λv=>v=kv i)/\aY U (.ref (av i)) valN (λv=>v=vv i)/\aY U (.ref (av i)) wrN λv=>v=wv i)(k:∀ D,bD U D->Q (.ref D) (U.set D (.list ((List.range es.length).map λi=>.tup [.str (keys i),kv i,vv i,wv i])))) :
  aP T c F m (.ListComp (.Tuple [.Name nN q1,.Attribute (.Subscript (.Attribute (.Name hN q2) vN q3) (.Name nN q4) q5) kN q6,.Attribute (.Subscript (.Attribute (.Name hN r2) vN r3) (.Name nN r4) r5) valN r6,.Attribute (.Subscript (.Attribute (.Name hN u2) vN u3) (.Name nN u4) u5) wrN u6] kk q7)
   [#[.Name nN p2,.Attribute (.Name hN p3) vN p4,[],0]] scope pos) Q X U:=λA L l g s R=>by
 rw[eval_ListComp]
 have#[cc,oc,yf,hcc,hgc,hoc,hrf]:=R.cell hl hm
 cases hrf
 have hlk:=dq hN F.sc.names
 have hkf:=hlk.trans hl
 have hlr:scope.names.lookup nN=some .local:=by
  rw[hsn]
  have e:(nN==d0)=false:=by simpa using hr0
  simp[acY,e]
 have hrl:=lookup_relabel_local (env:=F.env L) hlr
 have hx:eQ T F m hN λv=>v = .ref hA:=by
  unfold eQ
  rw[hl]
  show 1
  rw[hm]
 refine wpAny_comprehension_free rfl (λ_=>rfl) (Hc hsn hcc) hkd (λy hy hl' => ?_)
  (aaz (Lz rfl (iu (Q:=λv xb=>aY xb v vN λu=>u = .ref vd/\xb=U) hdf (hx.imp λv e=>by subst e; exact hat.gj λu e=>#[e,rfl])) A L l g s R) (λxv wy vm=>?_) λ_ _ e=>e)
 .rw[hsn]at hy
  simp only[acR,acX,or_false]at hy
  rcases hy with rfl | rfl | rfl
  .rw[hsn]; simp
  .exact hlr
  .cases hl'
 have#[ut,xV,xb,le1,si1,vw1,rx,rfl,rfl]:=vm
 cases rx
 have ua:=R.le le1 si1 vw1
 have qq:=si1.ok vd
 rw[vw1 vd _ hσ]at qq
 have#[ds,nn,ho,hr,hlz,hnd]:=qq
 have#[kvs,hp1,hp2]:=hr.pairs
 have hD:wy.heap.DictAt (strKind T.prog T.w) vd kvs nn:=#[_,ds.toArray,ho,#[rfl,rfl,rfl],rfl,λe he=>by
   have#[y,t,e1,e2]:=hr.keys e (by simpa using he)
   exact#[y,by rw[e1]; exact strKind_is T.prog T.w y t,e2],by simpa using hp1,by rw[hp2]; exact hnd]
 have hN':kvs.length=es.length:=by have:=congrArg List.length hp2; simpa using this
 exists wpAny_pyIter_dict (wW si1 vw1 hσ) hD
 have fI:=si1.ok.fresh
 have hlt:=adB ho
 have hne:=adl hlt
 have hhand:A.handled=none:=by rw[R.aok.hand,hc]; rfl
 generalize hio:({ cls:=.type "dict_keyiterator",data:=.fields ([.ref vd,.int 0 0,.int kvs.length 0,.int nn 0].toArray) }:Obj)=io
 have hzz:(wy.heap.push io).objs.size=wy.heap.objs.size+1:=ad7 ..
 have ub:Run T c F m xb A L l ut { wy with heap:=wy.heap.push io,toks:=wy.toks }:=ua.grow λb _ o e=>abt _ e
 refine zj ub (λy hy=>?_) hkd hlr (Walks.dictKeys hhand wy.heap.objs.size vd hne kvs nn) (by rw[hN']; exact hz) fI (by simp) (λb hb=>?_)
  #[#[_,aaX _ (by rw[← hio]; rfl),by rw[← hio],by rw[← hio]; rfl],hD.at' λo e=>abt _ e]
  (λi=>.str (keys i)) (λi v hv=>?_) (λ_=>true) (λi=>.tup [.str (keys i),kv i,vv i,wv i]) (λC i y g' s' mC E' hi gY si' vw' hns hmC ry=>?_)
  λD C g' h' tk mC fD hgC gY hCf ok' vw' => ?_
 .rw[hsn]at hy
  simp only[acR,acX,or_false]at hy
  rcases hy with rfl | rfl | rfl <;> (intro z; cases z)
 .simp only[acR,acX,or_false]at hb
  rw[hzz]
  rcases hb with rfl | rfl
  .exact ad6 _
  .exact adX hlt
 .have#[kx,x,hkx,his]:=hv
  have hi:i<es.length:=by
   rcases Nat.lt_or_ge i kvs.length with z | z
   .omega
   .rw[adM z]at hkx; cases hkx
  have#[t,rfl]:=Value.isStrOf_shape his
  have e1:(kvs.map (·.1))[i]? = some kx:=by rw[acZ,hkx]; rfl
  rw[hp2,acZ,(he i hi).2.1]at e1
  cases e1
  exact .str _ _ (he i hi).1
 .rw[hN']at hi
  have hkr:=hrl
  have hkk:=hkd
  have hkf':(compEnvC scope [(hN,cc)] C (F.env L)).kindOf hN=some .cell:=nZ hsn hf0 hfr R.kind hkf
  have hcell:s'.heap.IsCell cc (some (.ref hA)):=by
   have:=si'.ok cc
   rw[gY.imm _ _ (le1.imm _ _ hgc)]at this
   exact#[oc,this,hoc]
  refine#[?_,λht tk0=>?_]
  .simp only[List.forIn_nil]
   exact aax #[rfl,_,rfl]
  .have ldh:∀(q:Pos) (k:Nat) (P':Value->Shared->Prop),P' (.ref hA) { s' with toks:=k }->wpAny T.M A (eval (.Name hN q) (compEnvC scope [(hN,cc)] C (F.env L))) P' E' { s' with toks:=k }:=λq k P' h =>
    wpAny_Name (wpAny_loadName_cell hkk hkf' (show List.lookup hN [(hN,cc)]=some cc by simp) hcell h) hdf
   have ldn:∀(q:Pos) (k:Nat) (P':Value->Shared->Prop),(∀ y,Rep g' (.str (keys i)) y->P' y { s' with toks:=k })->wpAny T.M A (eval (.Name nN q) (compEnvC scope [(hN,cc)] C (F.env L))) P' E' { s' with toks:=k }:=λq k P' h =>
    wpAny_Name (wpAny_loadName_local hkk hkr hns hmC (h _ ry)) hdr
   have#[_,_,i1,i2,i3,i4]:=he i hi
   refine wpAny_Tuple (wpAny_items_cons (ldn _ _ _ λy0 r0=>?_))
   refine wpAny_items_cons (tX si'.tok vw' (λk P' h=>ldh _ k P' h) (λk P' h=>ldn _ k P' h) hat i1 i2 λy1 n1 r1=>?_)
   refine wpAny_items_cons (tX si'.tok vw' (λk P' h=>ldh _ k P' h) (λk P' h=>ldn _ k P' h) hat i1 i3 λy2 n2 r2=>?_)
   refine wpAny_items_cons (tX si'.tok vw' (λk P' h=>ldh _ k P' h) (λk P' h=>ldn _ k P' h) hat i1 i4 λy3 n3 r3=>?_)
   refine wpAny_items_nil #[by rw[acM]; simp,?_]
   have fr:=si'.ok.fresh
   have sm:bG g' (g'.set s'.heap.objs.size (.imm (iK [y0,y1,y2,y3] 0))):=bG.fill fr
   refine#[_,_,_,rfl,sm,si'.ok.push (aaX _ rfl),λb z=>?_,λb o e=>abt _ e,.tup (G.set_same ..) (.cons (r0.mono sm.imm) (.cons (r1.mono sm.imm) (.cons (r2.mono sm.imm) (.cons (r3.mono sm.imm) .nil)))) (by rw[acM]; simp)]
   by_cases w:b=s'.heap.objs.size
   .rw[w]; exact abW _
   .exact absurd (G.aa _ _ w) z
 .rw[hN',map_range]at vw'
  have#[m1,h1,h2]:=tZ (X:=X) (A:=A) ub.si hgC gY hCf ok' vw' (k D fD)
  exact#[m1,h1,λh'' hs''=>(h2 h'' hs'').le le1]
show _
let ak.none{P:Prop}(h:ak none):P:=by have#[l,e,_]:=h; cases e
let ak.aK(h:ak (aK a b)):ak a/\ak b:=by
 have#[l,e,k]:=h
 cases a with
 | none=>cases e
 | some a =>
  cases b with
  | none=>cases e
  | some b =>
   cases e
   exact#[#[a,rfl,λq hq=>k q (ad4 _ hq)],#[b,rfl,λq hq=>k q (adW _ hq)]]
let ak.au{c:Bool}{a:bj}(h:ak (au c a)):c=true/\ak a:=by
 unfold Mine.au at h
 cases c
 .exact h.none
 .exact#[rfl,h]
let ak.one(h:ak (some [(x,y)])):x=y:=by
 have#[l,e,k]:=h
 cases e
 exact k _ (.head _)
let ak.jF{x:Str}{o:Option Str}(h:ak (jF x o)):o=some x:=by
 cases o with
 | none=>exact h.none
 | some y=>rw[show x=y from h.one]
let ak.dn{p R:Prop}[Decidable p]{f:p->bj}(h:ak (if q:p then f q else Option.none))(n:¬p):R:=by
 rw[dif_neg n]at h; exact h.none
let ak.aU(z){C:Expr->Prop}(h:ak (aU z f))(k:∀ x p0,ak (f x)->C (.Name x p0)):C z :=
 if q:z.ctorIdx=23 then @Expr.Name.elim (λz=>ak (Mine.aU z f)->C z) z q k h else h.dn q
let ak.iI(z){C:Expr->Prop}(h:ak (iI z f))(k:∀ c p0 p1,ak (f c)->C (.Constant c p0 p1)):C z :=
 if q:z.ctorIdx=19 then @Expr.Constant.elim (λz=>ak (Mine.iI z f)->C z) z q k h else h.dn q
let ak.Rf(z){C:Expr->Prop}(h:ak (Rf z f))(k:∀ l op r p0,ak (f l op r)->C (.BinOp l op r p0)):C z :=
 if q:z.ctorIdx=2 then @Expr.BinOp.elim (λz=>ak (Mine.Rf z f)->C z) z q k h else h.dn q
let ak.RQ(z:Expr){C:Expr->Prop}(h:ak (RQ z f))(k:∀ op x p0,ak (f op x)->C (.UnaryOp op x p0)):C z :=
 if q:z.ctorIdx=3 then @Expr.UnaryOp.elim (λz=>ak (Mine.RQ z f)->C z) z q k h else h.dn q
let ak.vIf(z:Expr){f:Expr->Expr->Expr->bj}{C:Expr->Prop}(h:ak (vIf z f))(k:∀ t b o p0,ak (f t b o)->C (.IfExp t b o p0)):C z :=
 if q:z.ctorIdx=5 then @Expr.IfExp.elim (λz=>ak (Mine.vIf z f)->C z) z q k h else h.dn q
let ak.yh(z:Expr){f:Expr->(List CmpOp)->(List Expr)->bj}{C:Expr->Prop}(h:ak (yh z f))(k:∀ l ops rs p0,ak (f l ops rs)->C (.Compare l ops rs p0)):C z :=
 if q:z.ctorIdx=15 then @Expr.Compare.elim (λz=>ak (Mine.yh z f)->C z) z q k h else h.dn q
let ak.vBool(z:Expr){f:BoolOp->(List Expr)->bj}{C:Expr->Prop}(h:ak (vBool z f))(k:∀ op es p0,ak (f op es)->C (.BoolOp op es p0)):C z :=
 if q:z.ctorIdx=0 then @Expr.BoolOp.elim (λz=>ak (Mine.vBool z f)->C z) z q k h else h.dn q
let ak.Aw(z:Expr){f:(List Expr)->bj}{C:Expr->Prop}(h:ak (Aw z f))(k:∀ es p0 p1,ak (f es)->C (.Tuple es p0 p1)):C z :=
 if q:z.ctorIdx=25 then @Expr.Tuple.elim (λz=>ak (Mine.Aw z f)->C z) z q k h else h.dn q
let ak.Sh(z:Expr){f:(List Expr)->bj}{C:Expr->Prop}(h:ak (Sh z f))(k:∀ es p0,ak (f es)->C (.List es p0)):C z :=
 if q:z.ctorIdx=24 then @Expr.List.elim (λz=>ak (Mine.Sh z f)->C z) z q k h else h.dn q
let ak.Qg(z:Expr){f:(List (Option Expr))->(List Expr)->bj}{C:Expr->Prop}(h:ak (Qg z f))(k:∀ ks vs p0,ak (f ks vs)->C (.Dict ks vs p0)):C z :=
 if q:z.ctorIdx=6 then @Expr.Dict.elim (λz=>ak (Mine.Qg z f)->C z) z q k h else h.dn q
let ak.jY(z:Expr){f:Expr->Str->Pos->bj}{C:Expr->Prop}(h:ak (jY z f))(k:∀ o n p,ak (f o n p)->C (.Attribute o n p)):C z :=
 if q:z.ctorIdx=20 then @Expr.Attribute.elim (λz=>ak (Mine.jY z f)->C z) z q k h else h.dn q
let ak.jT(z:Expr){f:Expr->Expr->bj}{C:Expr->Prop}(h:ak (jT z f))(k:∀ o i p0,ak (f o i)->C (.Subscript o i p0)):C z :=
 if q:z.ctorIdx=21 then @Expr.Subscript.elim (λz=>ak (Mine.jT z f)->C z) z q k h else h.dn q
let ak.zM(z:Expr){f:(Option Expr)->(Option Expr)->(Option Expr)->bj}{C:Expr->Prop}(h:ak (zM z f))(k:∀ lo hi st p0,ak (f lo hi st)->C (.Slice lo hi st p0)):C z :=
 if q:z.ctorIdx=26 then @Expr.Slice.elim (λz=>ak (Mine.zM z f)->C z) z q k h else h.dn q
let ak.jU(z:Expr){f:Expr->(List Expr)->(List Keyword)->Pos->bj}{C:Expr->Prop}(h:ak (jU z f))(k:∀ f_ es kw p,ak (f f_ es kw p)->C (.Call f_ es kw p)):C z :=
 if q:z.ctorIdx=16 then @Expr.Call.elim (λz=>ak (Mine.jU z f)->C z) z q k h else h.dn q
let ak.Vz(z:Expr){f:Expr->(List Comprehension)->Scope->bj}{C:Expr->Prop}(h:ak (Vz z f))(k:∀ e gs sc p0,ak (f e gs sc)->C (.ListComp e gs sc p0)):C z :=
 if q:z.ctorIdx=8 then @Expr.ListComp.elim (λz=>ak (Mine.Vz z f)->C z) z q k h else h.dn q
let ak.vP(z:Stmt){f:(List Expr)->Expr->bj}{C:Stmt->Prop}(h:ak (vP z f))(k:∀ ts v p0,ak (f ts v)->C (.Assign ts v p0)):C z :=
 if q:z.ctorIdx=5 then @Stmt.Assign.elim (λz=>ak (Mine.vP z f)->C z) z q k h else h.dn q
let ak.Jy(z:Stmt){f:Expr->Operator->Expr->bj}{C:Stmt->Prop}(h:ak (Jy z f))(k:∀ t op v p0,ak (f t op v)->C (.AugAssign t op v p0)):C z :=
 if q:z.ctorIdx=7 then @Stmt.AugAssign.elim (λz=>ak (Mine.Jy z f)->C z) z q k h else h.dn q
let ak.QC(z:Stmt){f:Expr->bj}{C:Stmt->Prop}(h:ak (QC z f))(k:∀ e p0,ak (f e)->C (.Expr e p0)):C z :=
 if q:z.ctorIdx=24 then @Stmt.Expr.elim (λz=>ak (Mine.QC z f)->C z) z q k h else h.dn q
let ak.Lj(z:Stmt){f:(Option Expr)->bj}{C:Stmt->Prop}(h:ak (Lj z f))(k:∀ o p0,ak (f o)->C (.Return o p0)):C z :=
 if q:z.ctorIdx=3 then @Stmt.Return.elim (λz=>ak (Mine.Lj z f)->C z) z q k h else h.dn q
let ak.Uo(z:Stmt){f:Expr->(List Stmt)->(List Stmt)->bj}{C:Stmt->Prop}(h:ak (Uo z f))(k:∀ t b o p0,ak (f t b o)->C (.If t b o p0)):C z :=
 if q:z.ctorIdx=12 then @Stmt.If.elim (λz=>ak (Mine.Uo z f)->C z) z q k h else h.dn q
let ak.Te(z:Stmt){f:Expr->(List Stmt)->(List Stmt)->bj}{C:Stmt->Prop}(h:ak (Te z f))(k:∀ t b o p0,ak (f t b o)->C (.While t b o p0)):C z :=
 if q:z.ctorIdx=11 then @Stmt.While.elim (λz=>ak (Mine.Te z f)->C z) z q k h else h.dn q
let ak.JR(z:Stmt){f:Expr->Expr->(List Stmt)->(List Stmt)->bj}{C:Stmt->Prop}(h:ak (JR z f))(k:∀ t i b o p0,ak (f t i b o)->C (.For t i b o p0)):C z :=
 if q:z.ctorIdx=9 then @Stmt.For.elim (λz=>ak (Mine.JR z f)->C z) z q k h else h.dn q
let ak.UJ(z:Stmt){f:bj}{C:Stmt->Prop}(h:ak (UJ z f))(k:∀ p0,ak (f)->C (.Break p0)):C z :=
 if q:z.ctorIdx=26 then @Stmt.Break.elim (λz=>ak (Mine.UJ z f)->C z) z q k h else h.dn q
let ak.RW(z:Stmt){f:bj}{C:Stmt->Prop}(h:ak (RW z f))(k:∀ p0,ak (f)->C (.Continue p0)):C z :=
 if q:z.ctorIdx=27 then @Stmt.Continue.elim (λz=>ak (Mine.RW z f)->C z) z q k h else h.dn q
let ak.QQ(z:Stmt){f:bj}{C:Stmt->Prop}(h:ak (QQ z f))(k:∀ p0,ak (f)->C (.Pass p0)):C z :=
 if q:z.ctorIdx=25 then @Stmt.Pass.elim (λz=>ak (Mine.QQ z f)->C z) z q k h else h.dn q
let ak.Ry(z:Stmt){f:(Option Expr)->(Option Expr)->bj}{C:Stmt->Prop}(h:ak (Ry z f))(k:∀ e c p0,ak (f e c)->C (.Raise e c p0)):C z :=
 if q:z.ctorIdx=16 then @Stmt.Raise.elim (λz=>ak (Mine.Ry z f)->C z) z q k h else h.dn q
let ak.Ef(z:Stmt){f:(List Stmt)->(List ExceptHandler)->(List Stmt)->(List Stmt)->bj}{C:Stmt->Prop}(h:ak (Ef z f))(k:∀ b h o f_ p0,ak (f b h o f_)->C (.Try b h o f_ p0)):C z :=
 if q:z.ctorIdx=17 then @Stmt.Try.elim (λz=>ak (Mine.Ef z f)->C z) z q k h else h.dn q
let ak.Oz(z:ExceptHandler){f:Option Expr->Option Str->List Stmt->bj}{C:ExceptHandler->Prop}(h:ak (Oz z f))(k:∀ x n b p,ak (f x n b)->C (.ExceptHandler x n b p)):C z:=by
 cases z; exact k _ _ _ _ h
show ∀{α:Type},_
let ak.cJ(z:List α){o:bj}{C:List α->Prop}(h:ak (cJ z o))(k:ak o->C []):C z:=by
 cases z with
 | nil=>exact k h
 | cons _ _=>exact ak.none h
let ak.dg(z:List α){f:α->bj}{C:List α->Prop}(h:ak (dg z f))(k:∀ x,ak (f x)->C [x]):C z:=by
 cases z with
 | nil=>exact ak.none h
 | cons x r=>exact ak.cJ (C:=λr=>C (x::r)) r h (k x)
let ak.qx(z:List α){f:α->α->bj}{C:List α->Prop}(h:ak (qx z f))(k:∀ x y,ak (f x y)->C [x,y]):C z:=by
 cases z with
 | nil=>exact ak.none h
 | cons x r=>exact ak.dg (C:=λr=>C (x::r)) r h (k x)
let ak.fW(z:Option α){o:bj}{C:Option α->Prop}(h:ak (fW z o))(k:ak o->C Option.none):C z:=by
 cases z with
 | none=>exact k h
 | some _=>exact ak.none h
let ak.cY(z:Option α){f:α->bj}{C:Option α->Prop}(h:ak (cY z f))(k:∀ x,ak (f x)->C (some x)):C z:=by
 cases z with
 | none=>exact ak.none h
 | some x=>exact k x h
let ak.cR(z:List α){f:α->List α->bj}{C:List α->Prop}(h:ak (cR z f))(k:∀ x r,ak (f x r)->C (x::r)):C z:=by
 cases z with
 | nil=>exact ak.none h
 | cons x r=>exact k x r h
show _
let ak.Hx(z:Expr){f:Str->Str->Str->Str->bj}{C:Expr->Prop}(h:ak (Hx z f))(k:∀ h p1 v p2 n p3 p4 k p5,ak (f h v n k)->C (.Attribute (.Subscript (.Attribute (.Name h p1) v p2) (.Name n p3) p4) k p5)):C z :=
 ak.jY z h λo kN p5 h=>ak.jT (C:=λo=>C (.Attribute o kN p5)) o h λa i p4 h=>ak.jY (C:=λa=>C (.Attribute (.Subscript a i p4) kN p5)) a h λhh v p2 h=>ak.aU (C:=λhh=>C (.Attribute (.Subscript (.Attribute hh v p2) i p4) kN p5)) hh h λx p1 h=>ak.aU (C:=λi=>C (.Attribute (.Subscript (.Attribute (.Name x p1) v p2) i p4) kN p5)) i h λn p3 h=>k _ _ _ _ _ _ _ _ _ h
let ak.nk{k:NameKind}(p:Str×NameKind){f:Str->bj}{C:Str×NameKind->Prop}(h:ak (nk k p f))(c:∀ x,ak (f x)->C (x,k)):C p:=by
 unfold Mine.nk at h
 have#[x,j]:=p
 by_cases e:j=k
 .subst e
  rw[ad9 rfl]at h
  exact c _ h
 .rw[ad8 e]at h
  exact ak.none h
let ak.scN{t:List (Str×NameKind)}{f:Str->Str->Str->bj}(h:ak (scN t f)):∃ a b c,t=[(a,.local),(b,.local),(c,.free)]/\ak (f a b c) :=
 ak.cR (C:=λt=>∃ a b c,t=[(a,.local),(b,.local),(c,.free)]/\ak (f a b c)) t h λp r h=>ak.nk (C:=λp=>∃ a b c,p::r=[(a,.local),(b,.local),(c,.free)]/\ak (f a b c)) p h λa h =>
  ak.qx (C:=λr=>∃ a' b c,(a,NameKind.local)::r=[(a',.local),(b,.local),(c,.free)]/\ak (f a' b c)) r h λq u h=>ak.nk (C:=λq=>∃ a' b c,[(a,NameKind.local),q,u]=[(a',.local),(b,.local),(c,.free)]/\ak (f a' b c)) q h λb h =>
   ak.nk (C:=λu=>∃ a' b' c,[(a,NameKind.local),(b,.local),u]=[(a',.local),(b',.local),(c,.free)]/\ak (f a' b' c)) u h λc h=>#[a,b,c,rfl,h]
let ak.WL{t:List (Str×NameKind)}{f:Str->Str->Str->bj}(h:ak (WL t f)):∃ a b p c,t=[(a,.local),(b,.local),(p,.globalImplicit),(c,.free)]/\ak (f a b c) :=
 ak.cR (C:=λt=>∃ a b p c,t=[(a,.local),(b,.local),(p,.globalImplicit),(c,.free)]/\ak (f a b c)) t h λp r h=>ak.nk (C:=λp=>∃ a b w c,p::r=[(a,.local),(b,.local),(w,.globalImplicit),(c,.free)]/\ak (f a b c)) p h λa h =>
  ak.cR (C:=λr=>∃ a' b w c,(a,NameKind.local)::r=[(a',.local),(b,.local),(w,.globalImplicit),(c,.free)]/\ak (f a' b c)) r h λq r h=>ak.nk (C:=λq=>∃ a' b w c,(a,NameKind.local)::q::r=[(a',.local),(b,.local),(w,.globalImplicit),(c,.free)]/\ak (f a' b c)) q h λb h =>
   ak.qx (C:=λr=>∃ a' b' w c,(a,NameKind.local)::(b,.local)::r=[(a',.local),(b',.local),(w,.globalImplicit),(c,.free)]/\ak (f a' b' c)) r h λu w h=>ak.nk (C:=λu=>∃ a' b' w' c,[(a,NameKind.local),(b,.local),u,w]=[(a',.local),(b',.local),(w',.globalImplicit),(c,.free)]/\ak (f a' b' c)) u h λp h =>
    ak.nk (C:=λw=>∃ a' b' w' c,[(a,NameKind.local),(b,.local),(p,.globalImplicit),w]=[(a',.local),(b',.local),(w',.globalImplicit),(c,.free)]/\ak (f a' b' c)) w h λc h=>#[a,b,p,c,rfl,h]
let isZero_eq(h:isZero k=true):k = .int 0:=by
 cases k <;> first | cases h | rw[aaD (show decide (_=(0:Int))=true from h)]
let cT(h:(a&&b)=true):a=true/\b=true:=by
 cases a <;> cases b <;> first | exact#[rfl,rfl] | cases h
let ak.aai(b:UnaryOp){a:UnaryOp}{o:bj}{C:UnaryOp->Prop}(h:ak (Mine.au (Mine.WW a b) o))(k:ak o->C a):C b:=by
 have h1:=h.au.1
 have h2:=k h.au.2
 cases a <;> cases b <;> first | exact h2 | cases h1
let ak.Rg{α:Type}[DecidableEq α](b:α){a:α}{c:Bool}{o:bj}{C:α->Prop}(h:ak (Mine.au (decide (a=b)&&c) o))(k:c=true->ak o->C a):C b :=
 (aaD (cT h.au.1).1)▸k (cT h.au.1).2 h.au.2
let ak.Ye{α:Type}[DecidableEq α](b:α){a:α}{o:bj}{C:α->Prop}(h:ak (Mine.au (decide (a=b)) o))(k:ak o->C a):C b :=
 (aaD h.au.1)▸k h.au.2
let ak.nm(x:Str){y:Str}{o:bj}{C:Str->Prop}(h:ak (Mine.aK (some [(x,y)]) o))(k:ak o->C y):C x :=
 h.aK.1.one▸k h.aK.2
let pF(h1:o.isSome=true)(h2:o.map (List.map Prod.fst)=o.map (List.map Prod.snd)):ak o:=by
 cases o with
 | none=>cases h1
 | some l =>
  refine#[l,rfl,?_]
  have e:l.map Prod.fst=l.map Prod.snd:=by simpa using h2
  clear h1 h2
  induction l with
  | nil=>intro q hq; cases hq
  | cons a l ih =>
   rw[acS,acS]at e
   injection e with e1 e2
   intro q hq
   rcases acR.mp hq with rfl | hq
   .exact e1
   .exact ih e2 q hq
have gD(F:Fc):Prop:=(F.sc.names.map (·.1)).Nodup
let cD:∀{i:Nat} {x:Str} {k:NameKind},(nm.map (·.1)).Nodup->nm[i]? = some (x,k)->lk x nm=some k:=by
 induction nm with
 | nil=>intro i x k _ h; simp at h
 | cons a nm ih =>
  intro i x k nd h
  have#[y,k']:=a
  have nd':=adm.mp nd
  unfold lk
  cases i with
  | zero=>simp at h; have#[rfl,rfl]:=h; rw[ad9 rfl]
  | succ i =>
   rw[ad8 (λe=>nd'.1 (by rw[← e]; exact adw.mpr #[_,aaQ h,rfl]))]
   exact ih nd'.2 h
let dX(h:rZ nm i=some x):nm[i]? = some (x,.local):=by
 unfold rZ at h
 show 2
 .rename_i y e; cases h; exact e
 .cases h
let qG(h:Zn nm i=some x):nm[i]? = some (x,.cell):=by
 unfold Zn at h
 show 2
 .rename_i y e; cases h; exact e
 .cases h
let Nr(h:Y7 nm i=some x):nm[i]? = some (x,.local)∨nm[i]? = some (x,.cell):=by
 unfold Y7 at h
 show 2
 .rename_i y e; cases h; exact .inl e
 .rename_i y e; cases h; exact .inr e
 .cases h
let aag(h:rZ nm i=some x):Y7 nm i=some x:=by
 unfold Y7
 rw[dX h]
let LK(h:nmG nm i=some x):nm[i]? = some (x,.globalImplicit):=by
 unfold nmG at h
 show 2
 .rename_i y e; cases h; exact e
 .cases h
let toLm_mem:∀{O:cZ} {x:Str} {v:V},lk x (toLm nm O)=some v->x∈nm.map (·.1):=by
 induction nm with
 | nil=>intro O x v h; simp[toLm,lk]at h
 | cons a nm ih =>
  intro O x v h
  have#[y,k]:=a
  cases O with
  | nil=>simp[toLm,lk]at h
  | cons u O =>
   cases u with
   | none=>exact .tail _ (ih h)
   | some u =>
    unfold toLm lk at h
    show 2
    .rename_i e; rw[e]; exact .head _
    .exact .tail _ (ih h)
let gC:∀{O:cZ} {i:Nat} {x:Str} {k:NameKind},(nm.map (·.1)).Nodup->nm[i]? = some (x,k)->lk x (toLm nm O)=rd O i:=by
 induction nm with
 | nil=>intro O i x k _ h; simp at h
 | cons a nm ih =>
  intro O i x k nd h
  have#[y,k']:=a
  have nd':=adm.mp nd
  have off:x=y->i=0:=by
   intro e
   cases i with
   | zero=>rfl
   | succ i =>
    rw[List.getElem?_cons_succ]at h
    exact absurd (show y∈nm.map (·.1)from e▸adw.mpr #[_,aaQ h,rfl]) nd'.1
  cases O with
  | nil=>simp[toLm,lk,rd]
  | cons u O =>
   cases i with
   | zero =>
    have h0:(y,k')=(x,k):=by simpa using h
    cases h0
    cases u with
    | none =>
     show lk x (toLm nm O)=none
     cases e:lk x (toLm nm O)with
     | none=>rfl
     | some v=>exact absurd (toLm_mem e) nd'.1
    | some u=>show lk x ((x,u)::toLm nm O)=some u; unfold lk; rw[ad9 rfl]
   | succ i =>
    have hne:x≠y:=λe=>by have:=off e; cases this
    cases u with
    | none=>exact ih nd'.2 h
    | some u =>
     show lk x ((y,u)::toLm nm O)=rd O i
     unfold lk
     rw[ad8 hne]
     exact ih nd'.2 h
let dG:∀(O:cZ) (i:Nat) (v:Option V),rd (wr O i v) i=v
 | [],0,v=>rfl
 | [],n+1,v=>by show rd (wr [] n v) n=v; exact dG [] n v
 | _::r,0,v=>rfl
 | _::r,n+1,v=>by show rd (wr r n v) n=v; exact dG r n v
let Er(i):rd [] i=none:=by cases i <;> rfl
let fX:∀(O:cZ) {i j:Nat} (v:Option V),j≠i->rd (wr O i v) j=rd O j
 | [],0,0,v,h=>absurd rfl h
 | [],0,j+1,v,h=>by show rd [] j=rd [] (j+1); rw[Er,Er]
 | [],n+1,0,v,h=>rfl
 | [],n+1,j+1,v,h=>by
  show rd (wr [] n v) j=rd [] (j+1)
  rw[fX [] v ∎,Er,Er]
 | _::r,0,0,v,h=>absurd rfl h
 | _::r,0,j+1,v,h=>rfl
 | _::r,n+1,0,v,h=>rfl
 | _::r,n+1,j+1,v,h=>by show rd (wr r n v) j=rd r j; exact fX r v ∎
let Jf(nd:(nm.map (·.1)).Nodup)(h:∀ i x k v,nm[i]? = some (x,k)->rd O i=some v->lk x m=some v):bI (toLm nm O) m:=λx v e=>by
 have#[#[y,k],hm,rfl]:=adw.mp (toLm_mem e)
 have#[i,hi]:=List.mem_iff_getElem?.mp hm
 rw[gC nd hi]at e
 exact h i y k v hi e
let get_inj{nm:xj}{i j:Nat}{x:Str}{k k':NameKind}(nd:(nm.map (·.1)).Nodup)(hi:nm[i]? = some (x,k))(hj:nm[j]? = some (x,k')):i=j:=by
 have h1:(nm.map (·.1))[i]? = some x:=by rw[acZ,hi]; rfl
 have h2:(nm.map (·.1))[j]? = some x:=by rw[acZ,hj]; rfl
 exact(List.getElem?_inj (adU.mp h1).1 nd).mp (h1.trans h2.symm)
let m7{nm:xj}{O:cZ}{i:Nat}{x:Str}{k:NameKind}{v:V}{m:Lm}(nd:(nm.map (·.1)).Nodup)(hi:nm[i]? = some (x,k))(hm:bI (toLm nm O) m):bI (toLm nm (wr O i (some v))) (up x v m):=by
 refine Jf nd λj y k' u hj hu=>?_
 by_cases e:j=i
 .subst e
  rw[dG]at hu
  cases hu
  rw[hi]at hj; cases hj
  exact jb _ _ _
 .rw[fX _ _ e]at hu
  have hne:y≠x:=λz=>by subst z; exact e (get_inj nd hj hi)
  rw[qJ _ hne]
  exact hm _ _ (by rw[gC nd hj]; exact hu)
let YT{nm:xj}{O:cZ}{i:Nat}{x:Str}{k:NameKind}{m:Lm}(nd:(nm.map (·.1)).Nodup)(hi:nm[i]? = some (x,k))(hm:bI (toLm nm O) m):bI (toLm nm (wr O i none)) (dl x m):=by
 refine Jf nd λj y k' u hj hu=>?_
 by_cases e:j=i
 .subst e
  rw[dG]at hu
  cases hu
 .rw[fX _ _ e]at hu
  have hne:y≠x:=λz=>by subst z; exact e (get_inj nd hj hi)
  have q:=hm _ _ (show lk y (toLm nm O)=some u by rw[gC nd hj]; exact hu)
  clear hm
  unfold dl
  induction m with
  | nil=>simp[lk]at q
  | cons a m ih =>
   have#[z,w]:=a
   rw[List.filter_cons]
   unfold lk at q
   by_cases ez:z=x
   .subst ez
    rw[ad8 hne]at q
    simp only[bne_self_eq_false,adC,if_false]
    exact ih q
   .have:(z != x)=true:=by simpa using ez
    rw[this,ad9 rfl]
    unfold lk
    by_cases ey:y=z
    .rw[ad9 ey]at q ⊢; exact q
    .rw[ad8 ey]at q ⊢; exact ih q
let bI.refl(m):bI m m:=λ_ _ h=>h
let bI.trans{a b c:Lm}(x:bI a b)(y:bI b c):bI a c:=λn v h=>y n v (x n v h)
let aO.refl(U):aO U U:=λ_ _ h=>h
show ∀{T:Tp}{c:Cx}{F:Fc}{m:Lm}{X:Addr->Ψ}{U:Sg},_
let aP.mono(h:aP T c F m e Q X U)(k:∀ v U',Q v U'->Q' v U'):aP T c F m e Q' X U:=λA L l g s R =>
 aaz (h A L l g s R) (λv s' #[g',x,U',a,b,c,d,q]=>#[g',x,U',a,b,c,d,k _ _ q]) λ_ _ x=>x
let ie.mono(h:ie T c F m es Q X U)(k:∀ v U',Q v U'->Q' v U'):ie T c F m es Q' X U:=λp A L l g s R =>
 aaz (h p A L l g s R) (λv s' #[g',x,U',a,b,c,d,q]=>#[g',x,U',a,b,c,d,k _ _ q]) λ_ _ x=>x
let j4.mono(h:j4 T c F m e Q X U)(k:∀ v U',Q v U'->Q' v U'):j4 T c F m e Q' X U:=λA L l g s R =>
 aaz (h A L l g s R) (λv s' #[g',U',a,b,c,q]=>#[g',U',a,b,c,k _ _ q]) λ_ _ x=>x
let m9.mono(h:m9 T c F m op es Q X U)(k:∀ v U',Q v U'->Q' v U'):m9 T c F m op es Q' X U:=λA L l g s R =>
 aaz (h A L l g s R) (λv s' #[g',U',a,b,c,q]=>#[g',U',a,b,c,k _ _ q]) λ_ _ x=>x
let zJ.mono(h:zJ T c F m op es Q X U)(k:∀ v U',Q v U'->Q' v U'):zJ T c F m op es Q' X U:=λp A L l g s R =>
 aaz (h p A L l g s R) (λv s' #[g',x,U',a,b,c,d,q]=>#[g',x,U',a,b,c,d,k _ _ q]) λ_ _ x=>x
let ph.mono(h:ph T c F m ks vs Q X U)(k:∀ v U',Q v U'->Q' v U'):ph T c F m ks vs Q' X U:=λp A L l g s R =>
 aaz (h p A L l g s R) (λv s' #[g',x,U',a,b,c,d,q]=>#[g',x,U',a,b,c,d,k _ _ q]) λ_ _ x=>x
let fU.mono(h:fU v U Q)(k:∀ b,Q b->Q' b):fU v U Q':=by
 unfold fU at *
 show 2
 all_goals first | exact k _ h | skip
 .show 2
  .exact k _ h
  .show 4
 .show 4
let Um.mono(h:Um a b U Q)(k:∀ b,Q b->Q' b):Um a b U Q':=by
 rcases h with⟨n,hn,h,q⟩ | ⟨x,y,h1,h2,q⟩ | ⟨vs,l,h1,h2,q⟩
 .exact .inl #[n,hn,h,k _ q]
 .exact .inr (.inl #[x,y,h1,h2,k _ q])
 .exact .inr (.inr #[vs,l,h1,h2,k _ q])
let RJ.mono(h:RJ a b U Q)(k:∀ b,Q b->Q' b):RJ a b U Q':=by
 rcases h with⟨n,hn,h,q⟩ | ⟨vs,l,h1,h2,q⟩
 .exact .inl #[n,hn,h,k _ q]
 .exact .inr #[vs,l,h1,h2,k _ q]
let Ih.mono{P P':α->Prop}(h:Ih o P)(k:∀ x,P x->P' x):Ih o P':=by
 cases o with
 | none=>exact h
 | some x=>exact k x h
let xP.mono(h:xP x P)(k:∀ x,P x->P' x):xP x P':=by
 rcases x with _ | ⟨x,_ | ⟨y,r⟩⟩
 .exact h
 .exact k x h
 .exact h
let Ae.mono{c:Option Cell}(h:Ae c P N)(k:∀ x,P x->P' x)(k':N->N'):Ae c P' N':=by
 rcases c with _ | (vs | es | _ | _)
 .exact h
 .cases vs with
  | nil=>exact k' h
  | cons _ _=>exact h
 .exact k _ h
 .exact h
 .exact h
let dctP.mono{c:Option Cell}(h:dctP c P)(k:∀ x,P x->P' x):dctP c P':=by
 rcases c with _ | (vs | es | _ | _)
 .exact h
 .exact h
 .exact k _ h
 .exact h
 .exact h
let b8.mono(h:b8 op a b U Q)(k:∀ b,Q b->Q' b):b8 op a b U Q':=by
 have ord:∀{R:Int->Int->Bool},FQ R a b Q->FQ R a b Q':=λ{R} h=>by
  cases a with
  | int i=>cases b with
   | int j=>exact k _ h
   | _=>exact h
  | _=>exact h
 have is:∀{u:Bool},XX b (Q u)->XX b (Q' u):=λ{u} h=>by
  cases b with
  | none=>exact k _ h
  | _=>exact h
 cases op with
 | Eq =>
  replace h:EqP a b U Q:=h
  show EqP a b U Q'
  unfold EqP at *
  show 2
  .exact k _ h
  .exact k _ h
  .exact h.mono k
 | NotEq =>
  replace h:NeP a b U Q:=h
  show NeP a b U Q'
  unfold NeP at *
  show 2
  .exact k _ h
  .exact k _ h
  .exact h.mono k
 | In =>
  cases b with
  | tup vs=>cases a with
   | str x=>exact Ih.mono h λ_=>k _
   | int x=>exact Ih.mono h λ_=>k _
   | _=>exact h
  | str l=>cases a with
   | str x=>exact xP.mono h λ_=>k _
   | _=>exact h
  | ref r=>cases a with
   | str x=>exact dctP.mono h λ_=>k _
   | _=>exact h
  | _=>exact h
 | NotIn =>
  cases b with
  | tup vs=>cases a with
   | str x=>exact Ih.mono h λ_=>k _
   | _=>exact h
  | str l=>cases a with
   | str x=>exact xP.mono h λ_=>k _
   | _=>exact h
  | ref r=>cases a with
   | str x=>exact Ae.mono h (λ_=>k _) (k _)
   | _=>exact h
  | _=>exact h
 | Is=>exact is h
 | IsNot=>exact is h
 | _=>exact ord h
let MethP.mono(h:MethP U v n P)(k:∀ f fs,P f fs->P' f fs):MethP U v n P':=by
 unfold MethP at *
 show 2
 .show 2
  .exact k _ _ h
  .show 4
 .show 2
  .skip
   show 2
   .exact k _ _ h
   .show 4
  .skip
   show 2
   .exact k _ _ h
   .show 4
  .skip
   show 2
   .exact#[h.1,k _ _ h.2]
   .show 4
  .show 4
 .show 4
let rG.mono(h:rG v n P)(k:∀ f,P f->P' f):rG v n P':=by
 unfold rG at *
 show 2
 .exact#[h.1,k _ h.2]
 .exact#[h.1,k _ h.2]
 .show 4
let Xz(h:(f,q,D,dv)∈gh):FZ T (.ref f):=by
 have#[oc,od,pm,an,cdv,ct,kV,doc,osl,hK,_]:=T.fn_ok f q D dv h
 show keepIn T.K (.ref f)=true
 unfold keepIn
 have:=hK
 simp only[this,fnOf]
let wH(h:uQ f=true):FZ T f:=by
 unfold uQ at h
 show 2
 .rename_i a
  have h':a∈JG:=by simpa using h
  rcases ado.mp h' with h1 | h1
  .have#[#[f,q,D,dv],h2,rfl]:=adw.mp h1
   exact Xz h2
  .exact T.keep_ok a h1
 .trivial
 .trivial
 .cases h
let W5:∀ p∈Kv,JG.contains p.2.2=true:=⋯
let MethP.cal(h:MethP U v n P):MethP U v n λf fs=>FZ T f/\P f fs:=by
 unfold MethP at *
 show 2
 .show 2
  .exact#[trivial,h]
  .show 4
 .show 2
  .skip
   show 2
   .exact#[trivial,h]
   .show 4
  .skip
   show 2
   .exact#[trivial,h]
   .show 4
  .skip
   show 2
   .rename_i e1 e2
    refine#[h.1,wH ?_,h.2]
    exact W5 _ (Fg e2)
   .show 4
  .show 4
 .show 4
let rG.cal(h:rG v n P):rG v n λf=>FZ T f/\P f:=by
 unfold rG at *
 show 2
 .exact#[h.1,wH ⋯,h.2]
 .exact#[h.1,trivial,h.2]
 .show 4
let T6(h:Uh u v=true):u=v:=by
 unfold Uh at h
 show 2
 .exact congrArg V.ref (by simpa using h)
 .exact congrArg V.typ (by simpa using h)
 .exact congrArg V.bi (by simpa using h)
 .cases h
let NB:∀ i:Nat,∀ p,tE[i]? = some p->gl p.1=some p.2:=by
 have h:(tE.map (·.1)).Nodup:=⋯
 intro i p hp
 unfold gl
 generalize tE=l at h hp
 induction l generalizing i with
 | nil=>simp at hp
 | cons a l ih =>
  have#[y,u]:=a
  have nd:=adm.mp h
  unfold lk
  cases i with
  | zero=>simp at hp; subst hp; rw[ad9 rfl]
  | succ i =>
   rw[ad8 λe=>nd.1 (by rw[← e]; exact adw.mpr #[p,aaQ hp,rfl])]
   exact ih i nd.2 hp
let Gz:∀ p∈tE,(p.1==("__debug__":Str))=false:=⋯
show ∀{T:Tp}{c:Cx}{F:Fc},_
let yK{m:Lm}{x:Str}{i:Nat}{O:cZ}{v:V}{Q:V->Prop}(nd:gD F)(h:Y7 (names F) i=some x)(hv:rd O i=some v)(q:Q v):eQ T F (toLm (names F) O) x Q:=by
 unfold eQ
 rcases Nr h with hi | hi
 .rw[cD nd hi]
  show 1
  rw[gC nd hi,hv]
  exact q
 .rw[cD nd hi]
  show 1
  rw[gC nd hi,hv]
  exact q
let jP{m:Lm}{x:Str}{i:Nat}{O:cZ}{v:V}{Q:V->Prop}(nd:gD F)(h:rZ (names F) i=some x)(hv:rd O i=some v)(q:Q v):eQ T F (toLm (names F) O) x Q:=yK (m:=m) nd (aag h) hv q
let Bs{m:Lm}{x y:Str}{i j:Nat}{v:V}{Q:V->Prop}(nd:gD F)(h:nmG (names F) j=some x)(hg:tE[i]? = some (y,v))(e:x=y)(q:Q v):eQ T F m x Q:=by
 have hi:=LK h
 subst e
 unfold eQ
 rw[cD nd hi]
 show 1
 rw[NB i _ hg]
 exact q
let MJ{x y:Str}{i:Nat}{v:V}(hg:tE[i]? = some (y,v))(e:x=y):(x==("__debug__":Str))=false:=by
 subst e; exact Gz _ (aaQ hg)
have bw(F:Fc):Prop:=∀ p∈F.sc.names,(p.1==("__debug__":Str))=false
let RV{x:Str}{i:Nat}(nb:bw F)(h:Y7 (names F) i=some x):(x==("__debug__":Str))=false:=by
 rcases Nr h with hi | hi <;> exact nb _ (aaQ hi)
let xr{x:Str}{i:Nat}(nb:bw F)(h:rZ (names F) i=some x):(x==("__debug__":Str))=false:=nb _ (aaQ (dX h))
let pY{n:Nat}(h:n<=1000):n<=sizeLine:=by rw[acM]; omega
let wZ{e:Expr}{es:List Expr}(h:(e::es).all noStar=true):noStar e=true/\es.all noStar=true:=by
 rw[List.all_cons,acV]at h; exact h
let ak.mem{l:List (Str×Str)}(h:ak (some l)):∀ q∈l,q.1=q.2:=by
 have#[l',e,h]:=h
 cases e; exact h
let ak.abu{x1 x2 x3 x4 y1 y2 y3 y4:Str}(h:ak (some [(x1,y1),(x2,y2),(x3,y3),(x4,y4)])):x1=y1/\x2=y2/\x3=y3/\x4=y4 :=
 #[h.mem _ (.head _),h.mem _ (.tail _ (.head _)),h.mem _ (.tail _ (.tail _ (.head _))),h.mem _ (.tail _ (.tail _ (.tail _ (.head _))))]
let ak.JP{x1 x2 x3 x4 y1 y2 y3 y4:Str}{l:List (Str×Str)}(h:ak (some ((x1,y1)::(x2,y2)::(x3,y3)::(x4,y4)::l))):(x1=y1/\x2=y2/\x3=y3/\x4=y4)/\ak (some l) :=
 #[#[h.mem _ (.head _),h.mem _ (.tail _ (.head _)),h.mem _ (.tail _ (.tail _ (.head _))),h.mem _ (.tail _ (.tail _ (.tail _ (.head _))))],l,rfl,λq hq=>h.mem q (.tail _ (.tail _ (.tail _ (.tail _ hq))))]
let ak.j0{nm:xj}{j i:Nat}{v:V}{x:Str}{k:bj}(h:ak (j0 nm j i v x k)):tE[i]? = some (x,v)/\nmG nm j=some x/\ak k:=by
 unfold Mine.j0 at h
 cases hg:tE[i]? with
 | none=>rw[hg]at h; exact ak.none h
 | some p =>
  rw[hg]at h
  have#[h1,h2]:=ak.au h
  have#[h3,h4]:=h2.aK
  have#[h5,h6]:=h4.aK
  have#[y,u]:=p
  have e1:x=y:=h5.one
  have e2:u=v:=T6 h1
  rw[e2]at *
  exact#[by rw[e1],ak.jF h3,h6]
let aaW{b:Bool}(h:(!b)=true):b=false:=by cases b <;> first | rfl | cases h
let GD{k:ScopeKind}{f d0 r:Str}(h:(k == .function&&decide (f≠d0)&&decide (f≠r)&&decide (r≠d0) && !(r==("__debug__":Str)))=true):k = .function/\f≠d0/\f≠r/\r≠d0/\(r==("__debug__":Str))=false:=by
 have#[a,b]:=cT h
 have#[a,c]:=cT a
 have#[a,d]:=cT a
 have#[a,e]:=cT a
 exact#[(by cases k <;> first | rfl | cases a),aaD e,aaD d,aaD c,aaW b]
let rdQ{o:Option V}{P:V->Prop}(h:match o with | some v=>P v | none=>False):∃ v,o=some v/\P v:=by
 cases o with
 | none=>show 4
 | some v=>exact#[v,rfl,h]
let Di{v:V}{k:Const}{n:Nat}{pos:Pos}{m:Lm}{Q:V->Ψ}{X:Addr->Ψ}{U:Sg}(hc:ak (R8 v k))(h:Q v U):aP T c F m (.Constant k n pos) Q X U:=by
 unfold R8 at hc
 split at hc
 .exact Xh (k:=none) h
 .split at hc
  .rename_i e; subst e; exact Wb h
  .exact hc.none
 .split at hc
  .rename_i e; subst e; exact Yr h
  .exact hc.none
 .rename_i l x
  split at hc
  .rename_i hl
   have hl':l.length<=1000:=aaD hl
   have ex:=hc.one
   subst ex
   refine Z8 (x:=#[l.toArray]) ?_ h
   rw[f9]; exact pY hl'
  .exact hc.none
 .exact hc.none
let Df(nd:gD F)(nb:bw F){i j:Nat}(z:Expr)(hc:ak (QK (names F) (.emp i j) z)):∃ elt it w f p d0 p2 pos,∃ scope:Scope,z = .ListComp elt [#[.Name w p2,it,[],0]] scope pos/\scope.names=[(d0,.local),(w,.local),(p,.globalImplicit),(f,.free)]/\scope.kind = .function/\w≠d0/\(names F)[j]? = some (f,.cell)/\(∀ env x,foldedSetIterable it env x=pure x) /\
  ∀{O:cZ} {K:Addr->Ψ} {X:Addr->Ψ} {U:Sg} {a:Addr} {u v:V},rd O i=some (.ref a)->U a=some (.list [u,v])->(∀ r,bD U r->K r (U.set r (.list [])))->aP T c F (toLm (names F) O) it (λv U' => ∃ a,v = .ref a/\U' a=some (.list [])/\K a U') X U:=by
 apply ak.Vz z hc; intro e gs sc p0 hc
 apply ak.dg gs hc; intro#[tg,it,fs,as] hc
 apply ak.aU tg hc; intro w p2 hc
 apply ak.jT it hc; intro o sl p3 hc
 apply ak.aU o hc; intro x p4 hc
 apply ak.zM sl hc; intro lo hi st p5 hc
 apply ak.fW st hc; intro hc
 apply ak.cY lo hc; intro lo hc
 apply ak.cY hi hc; intro hi hc
 apply ak.iI lo hc; intro k1 p6 p7 hc
 apply ak.RQ hi hc; intro op h' p8 hc
 apply ak.iI h' hc; intro k2 p9 p10 hc
 have#[d0,w2,p,f,hsn,hc]:=ak.WL hc
 have#[h0,hc]:=hc.au
 have#[h1,hc]:=hc.au
 have#[h2,hc]:=hc.au
 have#[h3,hc]:=hc.aK
 have#[h4,h5]:=h3.aK
 have#[h6,hc]:=hc.aK
 have#[h7,hc]:=hc.aK
 have hx:=ak.jF h6
 have hf:=qG (ak.jF h7)
 have q:=hc.one
 have#[z1,z2]:=cT h0
 have#[z3,z4]:=cT h1
 have hu:op = .USub:=by cases op <;> first | rfl | cases h2
 have hk:sc.kind = .function:=by revert z3; cases sc.kind <;> first | exact λ_=>rfl | exact λz=>nomatch z
 have hfs:fs=[]:=List.isEmpty_iff.mp z1
 rw[q]at hsn
 rw[show as=0 from aaD z2,hfs,hu]
 refine#[_,_,_,_,_,_,_,_,_,rfl,hsn,hk,aaD z4,hf,λ_ _=>rfl,λ{O K X U a u v} y1 y4 y5=>?_]
 refine qU (iu (xr nb hx) (jP (m:=[]) nd hx y1 ?_))
 refine(Di h4 (Q:=λlv xc=>yU T c F (toLm (names F) O) (some (.UnaryOp .USub (.Constant k2 p9 p10) p8)) (λhv xf=>lE xf (.ref a) lv hv λv U' => ∃ a,v = .ref a/\U' a=some (.list [])/\K a U') X xc) ?_)
 refine Th (Di h5 (Q:=λw xb=>match w with | .int i=>lE xb (.ref a) (.int 1) (.int (-i)) (λv U' => ∃ a,v = .ref a/\U' a=some (.list [])/\K a U') | _=>False) ?_)
 show lE U (.ref a) (.int 1) (.int (-1)) _
 unfold lE
 show 1
 rw[y4]
 intro r fr
 rw[show(cut [u,v] (some 1) (some (-1)):List V)=[]from rfl]
 exact#[r,rfl,aq,y5 r fr]
let adV(nd:gD F)(nb:bw F){O:cZ}{Q:V->Ψ}{X:Addr->Ψ}{U:Sg}(z:Expr):∀{r:Raw},ak (QK (names F) r z)->wR c r O Q U->aP T c F (toLm (names F) O) z Q X U
 | .filt i j,hc,h=>by
  apply ak.Vz z hc; intro e gs sc p0 hc
  apply ak.aU e hc; intro r p1 hc
  apply ak.dg gs hc; intro#[tg,it,fs,as] hc
  apply ak.aU tg hc; intro r1 p2 hc
  apply ak.aU it hc; intro x p3 hc
  apply ak.dg fs hc; intro q hc
  apply ak.yh q hc; intro l ops rs p4 hc
  apply ak.jT l hc; intro o ix p5 hc
  apply ak.aU o hc; intro r2 p6 hc
  apply ak.iI ix hc; intro k p7 p8 hc
  apply ak.dg ops hc; intro op hc
  apply ak.dg rs hc; intro rr hc
  apply ak.aU rr hc; intro f p9 hc
  have#[d0,r3,f2,hsn,hc]:=ak.scN hc
  have#[h0,hc]:=hc.au
  have#[h1,h2]:=hc.au
  have#[h3,h4]:=h2.aK
  have#[h5,h6]:=h4.aK
  have hx:=ak.jF h3
  have hf:=qG (ak.jF h5)
  have#[q1,q2,q3,q4]:=h6.abu
  have#[k1,k2,k3,k4,k5]:=GD h1
  have#[a,lim,ks,y1,y2,y3,y4,y5,y6]:=h
  have#[z1,z2]:=cT h0
  have#[z1,z3]:=cT z1
  rw[q3,q4]at hsn
  rw[isZero_eq z1,aaD z3,show as=0 from aaD z2,q1,q2]
  exact VG hsn k1 k2 k3 k4 k5 (xr nb hx) (nb _ (aaQ hf)) (cD nd hf) (by rw[gC nd hf,y2]) (jP (m:=[]) nd hx y1 rfl) y3 y4 y5 y6
 | .vars i,hc,h=>by
  apply ak.Vz z hc; intro e gs sc p0 hc
  apply ak.Aw e hc; intro es p1 p2 hc
  apply ak.cR es hc; intro e1 es1 hc
  apply ak.cR es1 hc; intro e2 es2 hc
  apply ak.qx es2 hc; intro e3 e4 hc
  apply ak.aU e1 hc; intro n p3 hc
  apply ak.Hx e2 hc; intro h1 a1 v1 a2 n1 a3 a4 k1 a5 hc
  apply ak.Hx e3 hc; intro h2 b1 v2 b2 n2 b3 b4 k2 b5 hc
  apply ak.Hx e4 hc; intro h3 c1 v3 c2 n3 c3 c4 k3 c5 hc
  apply ak.dg gs hc; intro#[tg,it,fs,as] hc
  apply ak.aU tg hc; intro n4 p4 hc
  apply ak.jY it hc; intro hh v4 p5 hc
  apply ak.aU hh hc; intro hN p6 hc
  have#[d0,n5,h5,hsn,hc]:=ak.scN hc
  have#[z0,hc]:=hc.au
  have#[z1,hc]:=hc.au
  have#[z2,hc]:=hc.aK
  have hf:=qG (ak.jF z2)
  have#[#[q1,q2,q3,q4],hc]:=hc.JP
  have#[#[q5,q6,q7,q8],hc]:=hc.JP
  have#[#[q9,q10,q11,q12],hc]:=hc.JP
  have#[q13,q14,q15,q16]:=hc.abu
  have#[k1,k2,k3,k4,k5]:=GD z1
  have#[hA,vd,es,keys,av,kv,vv,wv,y1,y2,y3,y4,y5,y6,y7]:=h
  have#[z3,z4]:=cT z0
  rw[q5,q9]at hsn
  rw[show fs=[]from List.isEmpty_iff.mp z3,show as=0 from aaD z4,q1,q2,q3,q4,q6,q7,q8,q10,q11,q12,q13,q14,q15,q16]
  exact Vn hsn k1 k2 k3 k4 k5 (nb _ (aaQ hf)) (cD nd hf) (by rw[gC nd hf,y1]) y2 y3 y4 y5 (λi hi=>#[(y6 i hi).1,(y6 i hi).2.1,(y6 i hi).2.2.1 T,(y6 i hi).2.2.2]) y7
 | .emp i j,hc,h=>by
  have#[elt,it,w,f,p,d0,p2,pos,scope,rfl,h1,h2,h3,h4,h5,h6]:=Df nd nb z hc
  have#[a,u,v,nv,y1,y2,y3,y4,y5]:=h
  exact aat h1 h2 h3 (cD nd h4) (by rw[gC nd h4,y2]) (λ_=>h5 _) y3 (h6 (K:=λr U' => ∀ D,bD U' D->Q (.ref D) (U'.set D (.list []))) y1 y4 y5)
let ne_nil{α:Type}{l:List α}(h:(!l.isEmpty)=true):l≠[]:=λz=>by rw[z]at h; cases h
let Mg{o:Expr}{ap pos:Pos}{es:List Expr}(h:QX o ap pos es=true):(fj o=true/\(ap.endLine==pos.line)=true)/\decide (es.length<30)=true/\es.all noStar=true :=
 #[cT (cT (cT h).1).1,(cT (cT h).1).2,(cT h).2]
let rec cA(nd:gD F)(nb:bw F):∀(p:PE) {z:Expr} {O:cZ} {Q:V->Ψ} {X:Addr->Ψ} {U:Sg},ak (cF (names F) p z)->wE T c p O Q X U->aP T c F (toLm (names F) O) z Q X U
 | .loc i,z,O,Q,X,U,hc,h=>by
  apply ak.aU z hc; intro x p hc
  have#[v,hv,h]:=rdQ (o:=rd O i) (P:=λv=>Q v U) h
  exact iu (RV nb (ak.jF hc)) (yK (m:=[]) nd (ak.jF hc) hv h)
 | .glo j i v,z,O,Q,X,U,hc,h=>by
  apply ak.aU z hc; intro x p hc
  exact iu (MJ hc.j0.1 rfl) (Bs nd hc.j0.2.1 hc.j0.1 rfl h)
 | .kon v,z,O,Q,X,U,hc,h=>by
  apply ak.iI z hc; intro k n p hc
  exact Di hc h
 | .bin op l r,z,O,Q,X,U,hc,h=>by
  apply ak.Rf z hc; intro l' op' r' p hc
  apply ak.Ye op' hc; intro hc
  exact UG ((cA nd nb l hc.aK.1 h).mono λa xb q=>cA nd nb r hc.aK.2 q)
 | .neg x,z,O,Q,X,U,hc,h=>by
  apply ak.RQ z hc; intro op x' p hc
  apply ak.aai op hc; intro hc
  exact Th (cA nd nb x hc h)
 | .not x,z,O,Q,X,U,hc,h=>by
  apply ak.RQ z hc; intro op x' p hc
  apply ak.aai op hc; intro hc
  exact Zq (cA nd nb x hc h)
 | .ife t b o,z,O,Q,X,U,hc,h=>by
  apply ak.vIf z hc; intro t' b' o' p hc
  exact Rp ((J9 nd nb t hc.aK.1 h).mono λq xb z=>match q,z with
   | false,z=>cA nd nb o hc.aK.2.aK.2 z
   | true,z=>cA nd nb b hc.aK.2.aK.1 z)
 | .cmp op l r,z,O,Q,X,U,hc,h=>by
  apply ak.yh z hc; intro l' ops rs p hc
  apply ak.dg ops hc; intro op' hc
  apply ak.dg rs hc; intro r' hc
  apply ak.Rg op' hc; intro h1 hc
  exact Ku h1 ((cA nd nb l hc.aK.1 h).mono λa xb q=>cA nd nb r hc.aK.2 q)
 | .bo op es,z,O,Q,X,U,hc,h=>by
  apply ak.vBool z hc; intro op' es' p hc
  apply ak.Rg op' hc; intro h1 hc
  exact OJ (abO nd nb op es (ne_nil h1) hc h)
 | .tup es,z,O,Q,X,U,hc,h=>by
  apply ak.Aw z hc; intro es' p1 p2 hc
  exact Uv ((My nd nb es (cT hc.au.1).1 hc.au.2 h).mono λvs xb q=>#[q.1.symm▸pY (aaD (cT hc.au.1).2),q.2])
 | .lst es,z,O,Q,X,U,hc,h=>by
  apply ak.Sh z hc; intro es' p1 hc
  exact VV ((My nd nb es (cT hc.au.1).1 hc.au.2 h).mono λvs xb q=>#[q.1.symm▸pY (aaD (cT hc.au.1).2),q.2])
 | .dct .nil,z,O,Q,X,U,hc,h=>ak.Qg (C:=λz=>aP T c F _ z Q X U) z hc λks vs p hc=>ak.cJ (C:=λks=>aP T c F _ (.Dict ks vs p) Q X U) ks hc.au.2 λhc=>ak.cJ (C:=λvs=>aP T c F _ (.Dict [] vs p) Q X U) vs hc λ_=>T3 h
 | .dct (.cons k v ps),z,O,Q,X,U,hc,h=>by
  apply ak.Qg z hc; intro ks vs p hc
  exact RC (cT (cT hc.au.1).1).1 (aaD (cT (cT hc.au.1).1).2) (ak.cR (C:=λz=>z≠[]) ks hc.au.2 λ_ _ _ q=>nomatch q) (aaD (cT hc.au.1).2) (Yj nd nb (.cons k v ps) hc.au.2 h)
 | .att o n,z,O,Q,X,U,hc,h=>by
  apply ak.jY z hc; intro o' n' p hc
  have h1:=hc.au.1
  apply ak.nm n' hc.au.2; intro hc
  exact Lz h1 (cA nd nb o hc h)
 | .itm o i,z,O,Q,X,U,hc,h=>by
  apply ak.jT z hc; intro o' i' p hc
  exact Wd hc.au.1 ((cA nd nb o hc.au.2.aK.1 h).mono λa xb q=>cA nd nb i hc.au.2.aK.2 q)
 | .sli o lo hi,z,O,Q,X,U,hc,h=>by
  apply ak.jT z hc; intro o' s p hc
  apply ak.zM s hc; intro l1 l2 l3 p' hc
  apply ak.fW l3 hc; intro hc
  apply ak.cY l1 hc; intro x hc
  apply ak.cY l2 hc; intro y hc
  exact qU ((cA nd nb o hc.aK.1 h).mono λa xb q=>(cA nd nb lo hc.aK.2.aK.1 q).mono λb xc q=>cA nd nb hi hc.aK.2.aK.2 q)
 | .sliL o lo,z,O,Q,X,U,hc,h=>by
  apply ak.jT z hc; intro o' s p hc
  apply ak.zM s hc; intro l1 l2 l3 p' hc
  apply ak.fW l3 hc; intro hc
  apply ak.fW l2 hc; intro hc
  apply ak.cY l1 hc; intro x hc
  exact qU ((cA nd nb o hc.aK.1 h).mono λa xb q=>(cA nd nb lo hc.aK.2 q).mono λb xc q=>q)
 | .sliH o hi,z,O,Q,X,U,hc,h=>by
  apply ak.jT z hc; intro o' s p hc
  apply ak.zM s hc; intro l1 l2 l3 p' hc
  apply ak.fW l3 hc; intro hc
  apply ak.fW l1 hc; intro hc
  apply ak.cY l2 hc; intro x hc
  exact qU ((cA nd nb o hc.aK.1 h).mono λa xb q=>cA nd nb hi hc.aK.2 q)
 | .call j i f es,z,O,Q,X,U,hc,h=>by
  apply ak.jU z hc; intro z' es' kw p hc
  apply ak.cJ kw hc; intro hc
  apply ak.aU z' hc; intro x p' hc
  exact Mq rfl (iu (MJ hc.au.2.j0.1 rfl) (Bs nd hc.au.2.j0.2.1 hc.au.2.j0.1 rfl #[wH (cT hc.au.1).1,xK nd nb es (cT hc.au.1).2 hc.au.2.j0.2.2 h]))
 | .calv i es,z,O,Q,X,U,hc,h=>by
  apply ak.jU z hc; intro z' es' kw p hc
  apply ak.cJ kw hc; intro hc
  apply ak.aU z' hc; intro x p' hc
  have#[v,hv,h]:=rdQ (o:=rd O i) (P:=λf=>uQ f=true/\wEs T c es O (λvs xc=>aj T c f vs Q X xc) X U) h
  have hx:=ak.jF hc.au.2.aK.1
  exact Mq rfl (iu (xr nb hx) (jP (m:=[]) nd hx hv #[wH h.1,xK nd nb es hc.au.1 hc.au.2.aK.2 h.2]))
 | .mth o n es,z,O,Q,X,U,hc,h=>by
  apply ak.jU z hc; intro z' es' kw p hc
  apply ak.cJ kw hc; intro hc
  apply ak.jY z' hc; intro o' n' ap hc
  have h1:=Mg hc.au.1
  apply ak.nm n' hc.au.2; intro hc
  exact Xx h1.1.1 h1.1.2 h1.2.1 h1.2.2 ((cA nd nb o hc.aK.1 h).mono λa xb q=>q.cal.mono λf fs z=>#[z.1,xK nd nb es h1.2.2 hc.aK.2 z.2])
 | .mtc o n es,z,O,Q,X,U,hc,h=>by
  apply ak.jU z hc; intro z' es' kw p hc
  apply ak.cJ kw hc; intro hc
  apply ak.jY z' hc; intro o' n' ap hc
  have h1:=Mg hc.au.1
  apply ak.nm n' hc.au.2; intro hc
  exact Sv h1.1.1 h1.1.2 h1.2.1 h1.2.2 ((cA nd nb o hc.aK.1 h).mono λa xb q=>q.cal.mono λf z=>#[z.1,xK nd nb es h1.2.2 hc.aK.2 z.2])
 | .raw r,z,O,Q,X,U,hc,h=>adV nd nb z hc h
 | .bad,z,O,Q,X,U,hc,h=>False.elim h,
My(nd:gD F)(nb:bw F):∀(p:PEs) {z:List Expr} {O:cZ} {Q:List V->Ψ} {X:Addr->Ψ} {U:Sg},z.all noStar=true->ak (my (names F) p z)->wEs T c p O Q X U->ie T c F (toLm (names F) O) z (λvs U'=>vs.length=p.len/\Q vs U') X U
 | .nil,z,O,Q,X,U,hs,hc,h=>ak.cJ (C:=λz=>ie T c F _ z _ X U) z hc λ_=>Ls #[rfl,h]
 | .cons p ps,z,O,Q,X,U,hs,hc,h=>by
  exact ak.cR z (C:=λz=>z.all noStar=true->ie T c F (toLm (names F) O) z (λvs U'=>vs.length=ps.len+1/\Q vs U') X U) hc (λe r hc hs =>
   zy (wZ hs).1 ((cA nd nb p hc.aK.1 h).mono λv xb q=>(My nd nb ps (wZ hs).2 hc.aK.2 q).mono λvs xc z=>#[congrArg (· + 1) z.1,z.2])) hs,
xK(nd:gD F)(nb:bw F):∀(p:PEs) {z:List Expr} {O:cZ} {Q:List V->Ψ} {X:Addr->Ψ} {U:Sg},z.all noStar=true->ak (my (names F) p z)->wEs T c p O Q X U->pR T c F (toLm (names F) O) z Q X U
 | .nil,z,O,Q,X,U,hs,hc,h=>ak.cJ (C:=λz=>pR T c F _ z Q X U) z hc λ_=>h
 | .cons p ps,z,O,Q,X,U,hs,hc,h=>by
  exact ak.cR (C:=λz=>z.all noStar=true->pR T c F (toLm (names F) O) z Q X U) z hc (λe r hc hs =>
   #[hs,zy (wZ hs).1 ((cA nd nb p hc.aK.1 h).mono λv xb q=>(My nd nb ps (wZ hs).2 hc.aK.2 q).mono λvs xc z=>z.2)]) hs,
abO(nd:gD F)(nb:bw F)(op:BoolOp):∀(p:PEs) {z:List Expr} {O:cZ} {Q:V->Ψ} {X:Addr->Ψ} {U:Sg},z≠[]->ak (my (names F) p z)->wB T c op p O Q X U->zJ T c F (toLm (names F) O) op z Q X U
 | .nil,z,O,Q,X,U,hs,hc,h=>h.elim
 | .cons p .nil,z,O,Q,X,U,hs,hc,h=>ak.cR (C:=λz=>zJ T c F _ op z Q X U) z hc λe r hc=>ak.cJ (C:=λr=>zJ T c F (toLm (names F) O) op (e::r) Q X U) r hc.aK.2 λ_=>aaf (cA nd nb p hc.aK.1 h)
 | .cons p (.cons p' ps),z,O,Q,X,U,hs,hc,h=>by
  apply ak.cR z hc; intro e r hc
  have h3:=hc.aK.1
  refine ak.cR (C:=λr=>ak (my (names F) (.cons p' ps) r)->zJ T c F (toLm (names F) O) op (e::r) Q X U) r hc.aK.2 (λe' r' _ h4=>?_) hc.aK.2
  refine Wq ((cA nd nb p h3 h).mono λv xb q=>fU.mono q λb z=>?_)
  split
  .rename_i hb; rw[ad9 hb]at z; exact z
  .rename_i hb; rw[ad8 hb]at z; exact abO nd nb op (.cons p' ps) (λz=>nomatch z) h4 z;done,
Yj(nd:gD F)(nb:bw F):∀(p:PKs) {z:List (Option Expr)} {y:List Expr} {O:cZ} {Q:List (V×V)->Ψ} {X:Addr->Ψ} {U:Sg},ak (Ul (names F) p z y)->wKs T c p O Q X U->ph T c F (toLm (names F) O) z y Q X U
 | .nil,z,y,O,Q,X,U,hc,h=>ak.cJ (C:=λz=>ph T c F _ z y Q X U) z hc λhc=>ak.cJ (C:=λy=>ph T c F _ [] y Q X U) y hc λ_=>V2 h
 | .cons k v ps,z,y,O,Q,X,U,hc,h=>by
  apply ak.cR z hc; intro k' ks hc
  apply ak.cR y hc; intro v' vs hc
  apply ak.cY k' hc; intro k' hc
  exact Tq ((cA nd nb k hc.aK.1 h).mono λa xb q=>(cA nd nb v hc.aK.2.aK.1 q).mono λb xc q=>Yj nd nb ps hc.aK.2.aK.2 q);done,
J9(nd:gD F)(nb:bw F):∀(p:PT) {z:Expr} {O:cZ} {Q:Bool->Ψ} {X:Addr->Ψ} {U:Sg},ak (Ks (names F) p z)->wT T c p O Q X U->j4 T c F (toLm (names F) O) z Q X U
 | .val p,z,O,Q,X,U,hc,h=>S7 (ak.au hc).1 (cA nd nb p (ak.au hc).2 h)
 | .not t,z,O,Q,X,U,hc,h=>by
  apply ak.RQ z hc; intro op x' p hc
  apply ak.aai op hc; intro hc
  exact aac (J9 nd nb t hc h)
 | .cmp op l r,z,O,Q,X,U,hc,h=>by
  apply ak.yh z hc; intro l' ops rs p hc
  apply ak.dg ops hc; intro op' hc
  apply ak.dg rs hc; intro r' hc
  apply ak.Rg op' hc; intro h1 hc
  exact Lh h1 ((cA nd nb l hc.aK.1 h).mono λa xb q=>cA nd nb r hc.aK.2 q)
 | .cm2 l o1 r o2 r',z,O,Q,X,U,hc,h=>by
  apply ak.yh z hc; intro l' ops rs p hc
  apply ak.qx ops hc; intro op1 op2 hc
  apply ak.qx rs hc; intro r1 r2 hc
  have#[h7,n2]:=cT hc.au.1
  have#[h8,n1]:=cT h7
  have#[e1,e2]:=cT h8
  rw[← aaD e1,← aaD e2]
  refine Ht n1 n2 ((cA nd nb l hc.au.2.aK.1 h).mono λa xb q=>(cA nd nb r hc.au.2.aK.2.aK.1 q).mono λb xc q=>q.mono λt z=>?_)
  cases t
  .exact z
  .exact cA nd nb r' hc.au.2.aK.2.aK.2 z
 | .all op ts,z,O,Q,X,U,hc,h=>by
  apply ak.vBool z hc; intro op' es' p hc
  apply ak.Ye op' hc; intro hc
  exact PL (Zz nd nb op ts hc h);done,
Zz(nd:gD F)(nb:bw F)(op:BoolOp):∀(p:PTs) {z:List Expr} {O:cZ} {Q:Bool->Ψ} {X:Addr->Ψ} {U:Sg},ak (QW (names F) p z)->wA T c op p O Q X U->m9 T c F (toLm (names F) O) op z Q X U
 | .nil,z,O,Q,X,U,hc,h=>ak.cJ (C:=λz=>m9 T c F _ op z Q X U) z hc λ_=>all_nil h
 | .cons t ts,z,O,Q,X,U,hc,h=>by
  apply ak.cR z hc; intro e r hc
  cases op with
  | And =>
   refine VH ((J9 nd nb t hc.aK.1 h).mono λb xb z=>?_)
   cases b
   .exact z
   .exact Zz nd nb .And ts hc.aK.2 z
  | Or =>
   refine Zo ((J9 nd nb t hc.aK.1 h).mono λb xb z=>?_)
   cases b
   .exact Zz nd nb .Or ts hc.aK.2 z
   .exact z
show ∀{T:Tp}{c:Cx}{F:Fc}{m:Lm}{X:Addr->Ψ}{U:Sg}{A:Around}{L:Addr}{l:List Env}{g:G}{s:Shared},_
let Qf{i:Nat}(hσ:U a=some (.list vs))(hc:c.hd=none)(h:match vs[i]? with
   | some v=>oU F (.Tuple elts kt pt) (.tup [.int i,v]) m λm'=>dU T c F b m' { P with nxt:=λm'' U''=>Il T c F (.Tuple elts kt pt) a (i+1) b m'' P U'',cnt:=λm'' U''=>Il T c F (.Tuple elts kt pt) a (i+1) b m'' P U'',brk:=P.nxt } U
   | none=>P.nxt m U):Il T c F (.Tuple elts kt pt) a i b m P U:=λA L l g s e it g0 R vx fe0 fi0 hne #[old,he] #[oi,hi] hit=>by
 exists codeAny_of_tree
 exists wpAny_noted
 simp only[forTurn]
 refine aaw (adF (aaw (wpAny_onRaise ?_)))
 have heO:IsEnum s.heap e it i old:=by have:=R.si.ok e; rw[he]at this; exact this
 have#[xs,l1,l2,l3]:=bQ R.si R.view hσ
 have hhand:A.handled=none:=by rw[R.aok.hand,hc]; rfl
 have#[mc,hL,hmL]:=R.fr
 have nL:∀{o:Slot},(∀ q,o ≠ .frame q)->∀{b:Addr},g b=o->b≠L:=λho b hb z=>ho mc (by rw[← hb,z]; exact hL)
 have eL:=nL (by intro q z; cases z) he
 have iL:=nL (by intro q z; cases z) hi
 show 2
 .rename_i v hv
  have#[x,hx,rx]:=l2.get hv
  refine wpAny_pyNext_enum_item heO hit l1 (by simpa using hx) hne λh' he' hit' hT hsz hk=>?_
  show 1
  refine aaw (wpAny_letOwnedTupleGo_enum he' λvn ux vj=>?_)
  have fT:=R.si.ok.fresh
  have hel:=adB heO
  have hil:it<s.heap.objs.size:=by have#[o,ho,_]:=hit; exact adB ho
  have neT:=adl hel
  have niT:=adl hil
  have#[oi',hoi',hoi2]:=hit'
  have vc:=vj.extBut it _ (Ne.symm hne) hoi'
  let uu:G:=((g.set s.heap.objs.size (.imm (iK [.int i s.toks,x] 0))).set e (.own (zc it ((i:Int)+1) x))).set it (.own oi')
  have g2o:∀ b,b≠s.heap.objs.size->b≠e->b≠it->uu b=g b:=λb n1 n2 n3=>by
   show(((g.set _ _).set e _).set it _) b=g b
   rw[G.aa _ _ n3,G.aa _ _ n2,G.aa _ _ n1]
  have g2T:uu s.heap.objs.size = .imm (iK [.int i s.toks,x] 0):=by
   show(((g.set _ _).set e _).set it _) _=_
   rw[G.aa _ _ (Ne.symm niT),G.aa _ _ (Ne.symm neT),G.set_same]
  have g2e:uu e = .own (zc it ((i:Int)+1) x):=by
   show(((g.set _ _).set e _).set it _) _=_
   rw[G.aa _ _ hne,G.set_same]
  have g2i:uu it = .own oi':=G.set_same ..
  have keep:∀ b sl,g b=sl->sl ≠ .free->(∀ o,sl ≠ .own o)->uu b=sl:=λb sl hb n1 n2=>by
   rw[g2o b (λz=>n1 (by rw[← hb,z]; exact fT)) (λz=>n2 _ (by rw[← hb,z]; exact he)) (λz=>n2 _ (by rw[← hb,z]; exact hi))]; exact hb
  have ki:∀ a o,g a = .imm o->uu a = .imm o:=λa o z=>keep a _ z (by intro w; cases w) (by intro _ w; cases w)
  have kown:∀ b o,b≠e->b≠it->g b = .own o->uu b = .own o:=λb o n2 n3 hb=>by
   rw[g2o b (λz=>by rw[z,fT]at hb; cases hb) n2 n3]; exact hb
  have up:=λb o n1 n2 q=>vj.extBut b o n1 (hk b o n1 n2 q)
  have kk:gU L g0 uu:=by
   have lift:∀ b sl,g0 b=sl->sl ≠ .free->g b=sl->uu b=sl:=λb sl h0 n1 hb=>by
    rw[g2o b (λz=>n1 (by rw[← hb,z]; exact fT)) (λz=>n1 (by rw[← h0,z]; exact fe0)) (λz=>n1 (by rw[← h0,z]; exact fi0))]; exact hb
   exact#[λa o z=>lift a _ z (by intro w; cases w) (vx.imm a o z),λa mm n z=>lift a _ z (by intro w; cases w) (vx.frame a mm n z),λa e' z=>lift a _ z (by intro w; cases w) (vx.tb a e' z),
    λa C d z=>by have#[d',w]:=vx.exc a C d z; exact#[d',keep a _ w (by intro q; cases q) (by intro _ q; cases q)],λa o z=>lift a _ z (by intro w; cases w) (vx.own a o z)]
  have noTb:∀ b,Tr uu b->Tr g b:=λb #[t,ht]=>by
   by_cases n1:t=s.heap.objs.size
   .rw[n1,g2T]at ht; cases ht
   .by_cases n2:t=e
    .rw[n2,g2e]at ht; cases ht
    .by_cases n3:t=it
     .rw[n3,g2i]at ht; cases ht
     .rw[g2o t n1 n2 n3]at ht; exact#[t,ht]
  have kex:∀ a C d,g a = .cell (.exc C d)->uu a = .cell (.exc C d):=λa C d z=>keep a _ z (by intro w; cases w) (by intro _ w; cases w)
  have ktb:∀ a e',g a = .tb e'->uu a = .tb e':=λa e' z=>keep a _ z (by intro w; cases w) (by intro _ w; cases w)
  have wi:gf T.w.params uu vn:=by
   intro b
   by_cases n1:b=s.heap.objs.size
   .rw[n1,g2T]; exact vj.extBut _ _ (Ne.symm neT) hT
   .by_cases n2:b=e
    .rw[n2,g2e]; exact ux
    .by_cases n3:b=it
     .rw[n3,g2i]; exact vc
     .rw[g2o b n1 n2 n3]
      have q:=R.si.ok b
      cases hb:g b with
      | free=>trivial
      | imm o=>rw[hb]at q; exact up b o n2 n3 q
      | cell cc=>rw[hb]at q; exact iU.XQ ki ktb kex (noTb b) (λo z=>up b o n2 n3 z) q
      | frame mm=>rw[hb]at q; exact Heap.Ns.at' q λo z=>up b o n2 n3 z
      | tb e'=>rw[hb]at q; have#[#[o,ts,ho,r],q]:=q; exact#[#[o,ts,up b o n2 n3 ho,r],q]
      | own o=>rw[hb]at q; exact up b o n2 n3 q
  have ua:Run T c F m U A L l uu { s with heap:=vn,toks:=s.toks+1 }:=by
   refine#[λa cc q=>keep a _ (R.view a cc q) (by intro w; cases w) (by intro _ w; cases w),Si.at R.si ki wi,#[R.aok.depth,R.aok.units,R.aok.hand,λx hx=>?_,R.aok.frames,λenv henv=>?_],#[mc,keep L _ hL (by intro w; cases w) (by intro _ w; cases w),(hmL.mono ki).imp (F.iM ki)],R.kind]
   .have#[C,d,q]:=R.aok.hexc x hx
    exact#[C,d,kex _ _ _ q]
   .have#[h1,L',mm,h2,h3]:=R.aok.fr env henv
    exact#[h1,L',mm,h2,keep L' _ h3 (by intro w; cases w) (by intro _ w; cases w)]
  have rt:Rep uu (.tup [.int i,v]) (.ref s.heap.objs.size):=.tup g2T (.cons (.int _ _) (.cons (rx.mono ki) .nil)) (by rw[acM]; simp)
  refine aaw (oE ua rt h λuv x0 m3 ug vo=>?_)
  have uc:=ua.Dy ug
  have bad:∀{v:Value} {s':Shared},PY T F L uv P.exc v s'->notedBy T.M A (F.env L) (λe s'=>iW T F L g0 P (.error e) s') v s':=λz=>aaz (dW (E:=λ_ _=>False) uc.tG z) (λ_ _ q=>q.le (kk.trans ug.le)) λ_ _ q=>q.elim
  refine aaw (aaz (vo A L l uv x0 uc) (λf x5 vp=>?_) λv x5 z=>bad z)
  have#[uw,m4,xg,uh,vp]:=vp
  have ud:=uc.Dy uh
  have own4:=uh.le.own _ _ (ug.le.own _ _ g2e)
  have own4i:=uh.le.own _ _ (ug.le.own _ _ g2i)
  have hit4:x5.heap.IsListIter it a (i+1):=#[oi',by have:=ud.si.ok it; rw[own4i]at this; exact this,hoi2]
  have w8:=(kk.trans ug.le).trans uh.le
  have oe:∃ old,uw e = .own (zc it ((i+1:Nat):Int) old):=#[x,own4]
  cases f with
  | next=>exact aax #[rfl,vp A L l uw x5 e it g0 ud w8 fe0 fi0 hne oe #[_,own4i] hit4]
  | cont=>exact aax #[rfl,vp A L l uw x5 e it g0 ud w8 fe0 fi0 hne oe #[_,own4i] hit4]
  | brk=>exact aax #[uw,m4,xg,#[w8,uh.si,uh.view,uh.fr],vp]
  | ret v=>exact aax #[uw,m4,xg,#[w8,uh.si,uh.view,uh.fr],vp]
 .rename_i hv
  have hlen:=l2.length
  rw[List.getElem?_eq_none_iff]at hv
  refine wpAny_pyNext_enum_end hhand heO hit l1 (by simp; omega) λh' hk=>?_
  have ua:Run T c F m U A L l (g.set it .free) { s with heap:=h',toks:=s.toks }:=R.dY hi hk (by intro _ z; cases z) trivial
  exact aax #[rfl,codeAny_block (wpAny_execs_nil #[_,m,U,#[vx.dY fi0,ua.si,ua.view,ua.fr],h])]
let Wa(hde:(en==("__debug__":Str))=false)(hdl:(lg==("__debug__":Str))=false)(hen:eQ T F m en λv=>v = .typ "enumerate")(hlg:eQ T F m lg λv=>v = .ref a)(hσ:U a=some (.list vs))(h:Il T c F (.Tuple elts kt pt) a 0 b m P U):vQ T c F (.For (.Tuple elts kt pt) (.Call (.Name en p1) [.Name lg p2] [] p3) b [] pos) m P U:=λA L l g s R=>by
 refine wpAny_For ?_ (λ_=>rfl)
 have e:eval (.Call (.Name en p1) [.Name lg p2] [] p3) (F.env L)=(do
   callWith p3 (← eval (.Name en p1) (F.env L)) [] (backTo p3 (starEach [.Name lg p2] (F.env L))) (backToKw p3 (keywordEach [] (F.env L)))):=rfl
 rw[e]
 refine aaw (aaz (iu (X:=λ_ _=>False) (Q:=λv U'=>v = .typ "enumerate"/\U'=U) hde (hen.imp λv e=>#[e,rfl]) A L l g s R) (λfv wy vm=>?_) λ_ _ z=>by have#[_,_,_,_,_,_,_,_,z]:=z; exact z.elim)
 have#[ut,V1,xb,le1,si1,vw1,wn,rfl,rfl]:=vm
 cases wn
 have ua:=R.le le1 si1 vw1
 exists callWith_of (P:=T.K.In) (by rfl) (pC (g:=ut) (.typ _) trivial)
 have h':=ie.bind (es:=[.Name lg p2]) (pos:=p3) (Q:=λus U'=>us=[.ref a]/\U'=xb) (zy rfl (iu (Q:=λv U'=>ie T c F m [] (λvs U''=>v::vs=[.ref a]/\U''=xb) (λ_ _=>False) U') hdl (hlg.imp λv e=>by subst e; exact Ls #[rfl,rfl]))) ua
  (P:=λvs' s'=>T.K.In s'.heap/\wpAny T.M A (call (.type "enumerate") ([]++vs') []) (λxval wz=>wpAny T.M A (pyIter xval) (λit wz=>codeAny T.M A (.forLoop (.Tuple elts kt pt) it b [] (F.env L)) (λr s'=>match r with | .ok f=>PF T F L g P f s' | .error e=>cameBackBy T.M A (F.env L) (PY T F L g P.exc) e s') wz) (PY T F L g P.exc) wz) (PY T F L g P.exc) s')
  λus wz uu uV xc vz ub wp wm=>?_
 .refine evalArgs_plain (aaz h' (λ_ _ z=>z) λ_ _ z=>by have#[_,_,_,_,_,_,_,_,z]:=z; exact z.elim)
 have#[rfl,rfl]:=wm
 cases wp with
 | cons ra rn =>
 cases ra
 cases rn
 refine#[ub.si.K T.inK,?_]
 have qa:=ub.si.ok a
 rw[ub.view a _ hσ]at qa
 have#[xs,nn,ho,hr,hz]:=qa
 refine call_enumerate_1 ho λvo uy hit3 hsz3 kp3=>?_
 exists wpAny_pyIter_enum uy
 have fI:=ub.si.ok.fresh
 have fE:=ub.si.ok.Ke (adp _)
 have#[oi,hoi,hoi2]:=hit3
 have ww:bG uu (uu.set wz.heap.objs.size (.own oi)):=bG.fill fI
 have nIE:wz.heap.objs.size+1≠wz.heap.objs.size:=Nat.succ_ne_self _
 have wx:bG (uu.set wz.heap.objs.size (.own oi)) ((uu.set wz.heap.objs.size (.own oi)).set (wz.heap.objs.size+1) (.own (zc wz.heap.objs.size 0 .none))):=bG.fill (by rw[G.aa _ _ nIE]; exact fE)
 have sm:=ww.trans wx
 generalize hg3:(uu.set wz.heap.objs.size (.own oi)).set (wz.heap.objs.size+1) (.own (zc wz.heap.objs.size 0 .none))=uv at sm
 have g3e:uv (wz.heap.objs.size+1) = .own (zc wz.heap.objs.size 0 .none):=by rw[← hg3]; exact G.set_same ..
 have g3i:uv wz.heap.objs.size = .own oi:=by rw[← hg3,G.aa _ _ (Ne.symm nIE)]; exact G.set_same ..
 have wj:gf T.w.params uv vo:=by
  intro b
  by_cases n1:b=wz.heap.objs.size+1
  .rw[n1,g3e]; exact uy
  .by_cases n2:b=wz.heap.objs.size
   .rw[n2,g3i]; exact hoi
   .have:uv b=uu b:=by rw[← hg3,G.aa _ _ n1,G.aa _ _ n2]
    rw[this]
    refine(ub.si.ok b).keep 0 (sm.toLe.toL 0) (λ#[t,ht]=>?_) λo z=>kp3 b o z
    by_cases n3:t=wz.heap.objs.size+1
    .rw[n3,g3e]at ht; cases ht
    .by_cases n4:t=wz.heap.objs.size
     .rw[n4,g3i]at ht; cases ht
     .have:uv t=uu t:=by rw[← hg3,G.aa _ _ n3,G.aa _ _ n4]
      rw[this]at ht; exact#[t,ht]
 have uc:=ub.le sm.toLe (Si.at (k:=wz.toks) ub.si sm.imm wj) (sm.view ub.view)
 refine codeAny_mono (h A L l uv _ (wz.heap.objs.size+1) wz.heap.objs.size uu uc (sm.toLe.toL L) fE fI nIE #[.none,g3e] #[_,g3i] #[oi,hoi,hoi2]) λr s' z=>?_
 cases r with
 | ok f=>exact z.le ((le1.trans vz).toL L)
 | error e=>exact oK (PYT.le ((le1.trans vz).toL L) z)
show ∀{T:Tp}{c:Cx}{F:Fc}{m:Lm}{U:Sg},_
let PF.mono(le:P.Le P')(h:PF T F L g P f s'):PF T F L g P' f s':=by
 have#[g',m',U',a,r]:=h
 refine#[g',m',U',a,?_]
 cases f with
 | next=>exact le.nxt _ _ r
 | brk=>exact le.brk _ _ r
 | cont=>exact le.cnt _ _ r
 | ret v=>have#[x,h1,h2]:=r; exact#[x,h1,le.ret _ _ _ h2]
let PY.mono(le:∀ e m U,Y e m U->Y' e m U)(h:PY T F L g Y v s'):PY T F L g Y' v s':=by
 have#[g',m',U',e,h1,h2,h3,h4]:=h
 exact#[g',m',U',e,h1,h2,h3,le _ _ _ h4]
let PYT.mono(le:∀ e m U,Y e m U->Y' e m U)(h:PYT T F L g Y v s'):PYT T F L g Y' v s':=by
 have#[g',m',U',e,h1,h2,h3,h5,h4]:=h
 exact#[g',m',U',e,h1,h2,h3,h5,le _ _ _ h4]
let vQ.mono{st:Stmt}(h:vQ T c F st m P U)(le:P.Le P'):vQ T c F st m P' U:=λA L l g s R =>
 aaz (h A L l g s R) (λ_ _ x=>x.mono le) λ_ _ x=>x.mono le.exc
let dU.mono{st:List Stmt}(h:dU T c F st m P U)(le:P.Le P'):dU T c F st m P' U:=λA L l g s R =>
 aaz (h A L l g s R) (λ_ _ x=>x.mono le) λ_ _ x=>x.mono le.exc
let iW.mono(le:P.Le P')(h:iW T F L g P r s'):iW T F L g P' r s':=by
 cases r with
 | ok f=>exact PF.mono le h
 | error e=>exact PYT.mono le.exc h
let nD.mono(h:nD T c F t b m P U)(le:P.Le P'):nD T c F t b m P' U:=λA L l g s R=>codeAny_mono (h A L l g s R) λ_ _ x=>x.mono le
let Run.weak(R:Run T c F m U A L l g s)(hm:bI m' m)(hs:aO U' U):Run T c F m' U' A L l g s :=
 #[λa c q=>R.view a c (hs a c q),R.si,R.aok,let#[mc,h1,h2]:=R.fr; #[mc,h1,λx v q=>h2 x v (hm x v q)],R.kind]
let nD.weak{m':Lm}(hm:bI m' m)(h:nD T c F t b m' P U):nD T c F t b m P U:=λA L l g s R=>h A L l g s (R.weak hm (aO.refl U))
let uF.weak{m':Lm}(hm:bI m' m)(h:uF T c F t src i b m' P U):uF T c F t src i b m P U:=λA L l g s it g0 R=>h A L l g s it g0 (R.weak hm (aO.refl U))
let gq(nd:gD F)(h:rZ (names F) i=some x):isLocal F x:=cD nd (dX h)
let Mr(nd:(nm.map (·.1)).Nodup):∀{xs:List Str} {is:LN} {vs:List V} {O:cZ} {m:Lm},(∀ p∈xs.zip is,rZ nm p.2=some p.1)->xs.length=is.length->is.length=vs.length->bI (toLm nm O) m->bI (toLm nm (Y6 O is vs)) (putAll xs vs m)
 | [],is,vs,O,m,_,h1,h2,h=>by
  cases is with
  | cons _ _=>simp at h1
  | nil=>cases vs <;> exact h
 | x::xs,[],vs,O,m,_,h1,_,h=>by simp at h1
 | x::xs,i::is,[],O,m,_,_,h2,h=>by simp at h2
 | x::xs,i::is,v::vs,O,m,hz,h1,h2,h=>by
  have hx:=hz (x,i) (by rw[adG]; exact .head _)
  exact Mr (m:=up x v m) nd (λp hp=>hz p (by rw[adG]; exact List.mem_cons_of_mem _ hp)) (by simpa using h1) (by simpa using h2) (m7 nd (dX hx) h)
let Ia:∀{l:List (Str×Nat)},ak (l.foldr (λp r=>aK (jF p.1 (rZ nm p.2)) r) (some []))->∀ p∈l,rZ nm p.2=some p.1
 | [],_,p,hp=>by cases hp
 | q::l,h,p,hp=>by
  have#[h1,h2]:=ak.aK h
  rcases acR.mp hp with rfl | hp
  .exact ak.jF h1
  .exact Ia h2 p hp
let UT{xs:List Str}{is:LN}(h:xs.length=is.length):∀ x∈xs,∃ i,(x,i)∈xs.zip is:=by
 intro x hx
 have#[i,hi]:=List.mem_iff_getElem?.mp hx
 have hl:=(adU.mp hi).1
 exact#[is[i],aaQ (by rw[List.getElem?_zip_eq_some]; exact#[hi,aa1 ∎])]
let fK.gj(h:fK U v n u P)(k:∀ U',P U'->P' U'):fK U v n u P':=by
 unfold fK at *
 show 2
 .show 2
  .refine#[h.1,?_]
   have#[_,h]:=h
   show 2
   .exact#[h.1,k _ h.2]
   .show 4
  .refine#[h.1,?_]
   have#[_,h]:=h
   show 2
   .exact#[h.1,k _ h.2]
   .show 4
  .exact#[h.1,λd hd=>k _ (h.2 d hd)]
  .show 4
 .show 4
let yW.gj(h:yW U o i v P)(k:∀ U',P U'->P' U'):yW U o i v P':=by
 unfold yW at *
 show 2
 .show 2
  .exact#[h.1,k _ h.2]
  .show 4
 .show 4
let Il.weak{m':Lm}(hm:bI m' m)(h:Il T c F t a i b m' P U):Il T c F t a i b m P U:=λA L l g s e it g0 R=>h A L l g s e it g0 (R.weak hm (aO.refl U))
let tupQ{v:V}{P:List V->Prop}(h:match v with | .tup vs=>P vs | _=>False):∃ vs,v = .tup vs/\P vs:=by
 cases v <;> first | exact h.elim | exact#[_,rfl,h]
let Mx(nd:gD F)(hl:is.length=vs.length)(hc:ak (zf (names F) (.tup is) (.Tuple es k pos)))(h:∀ m',bI (toLm (names F) (Y6 O is vs)) m'->Q m') :
  oU F (.Tuple es k pos) (.tup vs) (toLm (names F) O) Q:=by
 have hc:ak (match dj es with
  | none=>none
  | some xs=>au (decide (xs.length=is.length)) ((xs.zip is).foldr (λp r=>aK (jF p.1 (rZ (names F) p.2)) r) (some []))):=hc
 unfold oU
 show 1
 cases hx:dj es with
 | none=>rw[hx]at hc; exact ak.none hc
 | some xs =>
  rw[hx]at hc
  have h3:=Ia hc.au.2
  have hl2:=aaD hc.au.1
  refine#[hl2.trans hl,λx hx=>?_,h _ (Mr nd h3 hl2 hl (bI.refl _))]
  have#[i,hi]:=UT hl2 x hx
  exact gq nd (h3 _ hi)
let Mi(nd:gD F):∀{t:TG} {z:Expr},(∀ o n,t ≠ .att o n)->(∀ o i,t ≠ .itm o i)->ak (zf (names F) t z)->wG T c t v O Q X U ->
  oU F z v (toLm (names F) O) λm' => ∃ O',bI (toLm (names F) O') m'/\Q O' U
 | .loc i,z,_,_,hc,h =>
  ak.aU (C:=λz=>oU F z v (toLm (names F) O) λm' => ∃ O',bI (toLm (names F) O') m'/\Q O' U) z hc λx p hc=>#[gq nd (ak.jF hc),_,m7 nd (dX (ak.jF hc)) (bI.refl _),h]
 | .tup is,z,_,_,hc,h=>by
  have#[vs,rfl,h1,h2]:=tupQ h
  refine ak.Aw (C:=λz=>ak (zf (names F) (.tup is) z)->oU F z _ _ _) z hc (λes k p _ hc=>?_) hc
  exact Mx nd h1 hc λm' hm=>#[_,hm,h2]
 | .att o n,z,hpl,_,_,_=>absurd rfl (hpl o n)
 | .itm o i,z,_,hpi,_,_=>absurd rfl (hpi o i)
let aaP(nd:gD F)(nb:bw F):∀{t:TG} {z:Expr},ak (zf (names F) t z)->wG T c t v O Q X U ->
  Ge T c F z v (toLm (names F) O) (λm' U' => ∃ O',bI (toLm (names F) O') m'/\Q O' U') X U
 | .loc i,z,hc,h=>Gk (Mi nd (by intro _ _ e; cases e) (by intro _ _ e; cases e) hc h)
 | .tup is,z,hc,h=>Gk (Mi nd (by intro _ _ e; cases e) (by intro _ _ e; cases e) hc h)
 | .att o n,z,hc,h=>by
  apply ak.jY z hc; intro o' n' p hc
  apply ak.nm n' hc; intro hc
  exact Xi ((cA nd nb o hc h).mono λov xb q=>q.gj λxc z=>#[O,bI.refl _,z])
 | .itm o i,z,hc,h=>by
  apply ak.jT z hc; intro o' i' p hc
  exact YL ((cA nd nb o hc.au.2.aK.1 h).mono λov xb q=>(cA nd nb i hc.au.2.aK.2 q).mono λiv xc q=>q.gj λxf z=>#[O,bI.refl _,z])
let PX.mono(k:∀ e U',X e U'->X' e U')(h:PX T g X v s'):PX T g X' v s':=by
 have#[g',e,U',h1,h2,h3,h4,h5,h6]:=h
 exact#[g',e,U',h1,h2,h3,h4,h5,k _ _ h6]
let aP.gM(h:aP T c F m e Q X U)(k:∀ e U',X e U'->X' e U'):aP T c F m e Q X' U:=λA L l g s R=>aaz (h A L l g s R) (λ_ _ x=>x) λ_ _ x=>x.mono k
let j4.gM(h:j4 T c F m e Q X U)(k:∀ e U',X e U'->X' e U'):j4 T c F m e Q X' U:=λA L l g s R=>aaz (h A L l g s R) (λ_ _ x=>x) λ_ _ x=>x.mono k
let Ge.gM(h:Ge T c F t v m Q X U)(k:∀ e U',X e U'->X' e U'):Ge T c F t v m Q X' U:=λA L l g s y R r=>aaz (h A L l g s y R r) (λ_ _ x=>x) λ_ _ x=>x.mono k
let JB{P:PP}:∀ e U',P.exc e O U'->(P.up nm).exc e (toLm nm O) U':=λe U' q=>#[O,λ_ _ h=>h,q]
let M8(h:La t v=true):swappedStores [t] v env=pure none:=by
 cases t <;> first | rfl | cases h | (cases v <;> first | rfl | cases h)
let Vg(L)(t v):swappedStores [t] v (F.env L)=swappedStores [t] v (envOf Str.empty F.sc 0 0 .none):=rfl
let NK(h:BW F.sc t v=some r)(L):swappedStores [t] v (F.env L)=pure r:=by
 rw[Vg]
 unfold BW at h
 show 2
 .rename_i x e; cases h; exact e
 .cases h
let Oa(h:mV it=true)(L)(x):foldedSetIterable it (F.env L) x=pure x:=by
 cases it <;> first | rfl | cases h
let Vu(h:i≠j)(k):rd (wr (wr O i a) j b) k=rd (wr (wr O j b) i a) k:=by
 by_cases e1:k=j
 .subst e1; rw[dG,fX _ _ (Ne.symm h),dG]
 .rw[fX _ _ e1]
  by_cases e2:k=i
  .subst e2; rw[dG,dG]
  .rw[fX _ _ e2,fX _ _ e2,fX _ _ e1]
let Y0(nd:(nm.map (·.1)).Nodup)(h:∀ k,rd O k=rd O' k):bI (toLm nm O) (toLm nm O') :=
 Jf nd λi x k v hi hv=>by rw[gC nd hi,← h]; exact hv
let Yx{P:PP}(k:∀ O m U,bI (toLm nm O) m->Q O U->Q' m U):({ P with nxt:=Q }:PP).up nm |>.Le { P.up nm with nxt:=Q' } :=
 #[λm U #[O,h1,h2]=>k O m U h1 h2,λ_ _ _ h=>h,λ_ _ h=>h,λ_ _ h=>h,λ_ _ _ h=>h]
let Iw(h:(D==84||D==63)=true):cH D:=by
 rw[Bool.or_eq_true]at h
 rcases h with h | h
 .rw[show D=84 from by simpa using h]; exact#[81,by decide]
 .rw[show D=63 from by simpa using h]; exact#[35,by decide]
let Kl(nd:gD F)(h:ak (j0 (names F) j i v x k)):(lk x F.sc.names=some .globalImplicit/\gl x=some v/\(x==("__debug__":Str))=false)/\ak k :=
 #[#[cD nd (LK h.j0.2.1),NB i _ h.j0.1,Gz _ (aaQ h.j0.1)],h.j0.2.2]
let XD(nd:gD F)(h:ak (Z3 (names F) n x)):∀ y,x=some y->isLocal F y:=by
 intro y e
 subst e
 cases n with
 | none=>exact h.none
 | some i=>exact gq nd (ak.jF h)
let Ww(nd:gD F)(h:ak (Z3 (names F) n x))(hm:bI (toLm (names F) O) m):bI (toLm (names F) (nIn n e O)) (aav x e m):=by
 cases n with
 | none=>cases x with
  | none=>exact hm
  | some y=>exact h.none
 | some i=>cases x with
  | none=>exact h.none
  | some y=>exact m7 nd (dX (ak.jF h)) hm
let nQ(nd:gD F)(h:ak (Z3 (names F) n x))(hm:bI (toLm (names F) O) m):bI (toLm (names F) (PQ n O)) (Bt x m):=by
 cases n with
 | none=>cases x with
  | none=>exact hm
  | some y=>exact h.none
 | some i=>cases x with
  | none=>exact h.none
  | some y=>exact YT nd (dX (ak.jF h)) hm
let YZ(nd:gD F)(h:ak (Z3 (names F) n x))(P:PP):((P.out n).up (names F)).Le ((P.up (names F)).out x) :=
 #[λm U #[O,h1,h2]=>#[_,nQ nd h h1,h2],λv m U #[O,h1,h2]=>#[_,nQ nd h h1,h2],λm U #[O,h1,h2]=>#[_,nQ nd h h1,h2],λm U #[O,h1,h2]=>#[_,nQ nd h h1,h2],λe m U #[O,h1,h2]=>#[_,nQ nd h h1,h2]]
let dU.at(h:dU T c F sts (toLm (names F) O) P U)(hm:bI (toLm (names F) O) m):dU T c F sts m P U:=Xd hm (aO.refl U) h
let Rv:∀{t:TG} {z:Expr},ak (zf nm t z)->noStar z=true
 | .loc _,z,h=>ak.aU (C:=λz=>noStar z=true) z h λ_ _ _=>rfl
 | .tup _,z,h=>ak.Aw (C:=λz=>noStar z=true) z h λ_ _ _ _=>rfl
 | .att _ _,z,h=>ak.jY (C:=λz=>noStar z=true) z h λ_ _ _ _=>rfl
 | .itm _ _,z,h=>ak.jT (C:=λz=>noStar z=true) z h λ_ _ _ _=>rfl
let xQ(h:isTup t=true):∃ es k p,t = .Tuple es k p:=by
 cases t <;> first | exact#[_,_,_,rfl] | cases h
let VN(h:ak (Zm F.sc i j t v)):BW F.sc t v=some none∨∃ x y,BW F.sc t v=some (some [x,y])/\rZ (names F) i=some x/\rZ (names F) j=some y:=by
 unfold Zm at h
 cases e:BW F.sc t v with
 | none=>rw[e]at h; exact ak.none h
 | some o =>
  rw[e]at h
  cases o with
  | none=>exact .inl rfl
  | some l=>exact ak.qx (C:=λl=>some (some l)=some Option.none∨∃ x y,some (some l)=some (some [x,y])/\rZ (names F) i=some x/\rZ (names F) j=some y) l h λx y h=>.inr #[x,y,rfl,ak.jF h.aK.1,ak.jF h.aK.2]
let XS{v:V}{P:V->V->Prop}(h:match v with | .tup [a,b]=>P a b | _=>False):∃ a b,v = .tup [a,b]/\P a b:=by
 cases v <;> try show 4
 rename_i l
 rcases l with _ | ⟨a,_ | ⟨b,_ | ⟨c,l⟩⟩⟩ <;> first | exact h.elim | exact#[_,_,rfl,h]
let ab8{P:Addr->Option Addr->Prop}{o:Option Cell}(h:match o with | some (.exc C d)=>P C d | _=>False):∃ C d,o=some (.exc C d)/\P C d:=by
 cases o with
 | none=>show 4
 | some c=>cases c <;> first | exact h.elim | exact#[_,_,rfl,h]
let ac9{v:V}{P:Addr->Prop}(h:match v with | .ref e=>P e | _=>False):∃ e,v = .ref e/\P e:=by
 cases v <;> first | exact h.elim | exact#[_,rfl,h]
have PP.fn1(T:Tp)(F:Fc)(f:PSs)(c:Cx)(P:PP):PP:=#[λO1 xb=>wSs T F f c O1 P xb,λv O1 xb=>wSs T F f c O1 { P with nxt:=P.ret v } xb,λO1 xb=>wSs T F f c O1 { P with nxt:=P.brk } xb,λO1 xb=>wSs T F f c O1 { P with nxt:=P.cnt } xb,λe O1 xb=>wSs T F f { c with hd:=some e } O1 { P with nxt:=P.exc e } xb]
let T7{P:PP}(h:∀{c:Cx} {O:cZ} {P:PP} {U:Sg},wSs T F f c O P U->dU T c F f' (toLm (names F) O) (P.up (names F)) U):((P.fn1 T F f c).up (names F)).Le ((P.up (names F)).fin T c F f') :=
 #[λm xb #[O1,hm,q]=>(h q).at hm,λv m xb #[O1,hm,q]=>((h q).at hm).mono #[λ_ _ z=>z,λ_ _ _ z=>z,λ_ _ z=>z,λ_ _ z=>z,λ_ _ _ z=>z],λm xb #[O1,hm,q]=>((h q).at hm).mono #[λ_ _ z=>z,λ_ _ _ z=>z,λ_ _ z=>z,λ_ _ z=>z,λ_ _ _ z=>z],λm xb #[O1,hm,q]=>((h q).at hm).mono #[λ_ _ z=>z,λ_ _ _ z=>z,λ_ _ z=>z,λ_ _ z=>z,λ_ _ _ z=>z],λe m xb #[O1,hm,q]=>((h q).at hm).mono #[λ_ _ z=>z,λ_ _ _ z=>z,λ_ _ z=>z,λ_ _ z=>z,λ_ _ _ z=>z]]
let M4{P:PP}(nd:gD F)(h5:ak (Z3 (names F) n x))(le:(P.up (names F)).Le P')(hm:bI (toLm (names F) O1) m)(snd:∀{c:Cx} {O:cZ} {P:PP} {U:Sg},wSs T F hh c O P U->dU T c F h' (toLm (names F) O) (P.up (names F)) U)(q:match U e with
   | some (.exc C d)=>cH C/\if C=D then wSs T F hh { c with hd:=some e } (nIn n e O1) (P.out n) U else P.exc e O1 U
   | _=>False):Oo c T F D x h' P' e m U:=by
 have#[C,d,hσ,q1,q2]:=ab8 q
 unfold Oo
 rw[hσ]
 refine#[q1,?_]
 split at q2
 .rename_i hCD
  rw[ad9 hCD]
  exact(((snd q2).at (Ww nd h5 hm)).mono (YZ nd h5 P)).mono #[λm U z=>le.nxt _ _ z,λv m U z=>le.ret _ _ _ z,λm U z=>le.brk _ _ z,λm U z=>le.cnt _ _ z,λe m U z=>le.exc _ _ _ z]
 .rename_i hCD
  rw[ad8 hCD]
  exact le.exc _ _ _ #[O1,hm,q2]
let tK.Le.refl(P:tK):P.Le P:=#[λ_ _ z=>z,λ_ _ _ z=>z,λ_ _ z=>z,λ_ _ z=>z,λ_ _ _ z=>z]
let wF{l:List Stmt}(h:(!l.isEmpty)=true):∃ a r,l=a::r:=by
 cases l with
 | nil=>cases h
 | cons a r=>exact#[a,r,rfl]
let aa3(h:yx op=true):op = .Add∨op = .Sub:=by
 cases op <;> first | exact .inl rfl | exact .inr rfl | cases h
let gJ.gj(h:gJ op a b Q)(k:∀ v,Q v->Q' v):gJ op a b Q':=by
 unfold gJ at *
 show 2
 all_goals first | exact k _ h | exact#[h.1,k _ h.2] | show 4
let rec ab5(nd:gD F)(nb:bw F):∀(p:PS) {c:Cx} {z:Stmt} {O:cZ} {P:PP} {U:Sg},ak (Zb F.sc p z)->wS T F p c O P U->vQ T c F z (toLm (names F) O) (P.up (names F)) U
 | .asg t e,c,z,O,P,U,hc,h=>by
  apply ak.vP z hc; intro ts e' p hc
  apply ak.dg ts hc; intro t' hc
  exact Cy (cT hc.au.1).1 (Rv hc.au.2.aK.1) (λL=>M8 (cT hc.au.1).2) (((cA nd nb e hc.au.2.aK.2 h).mono λv xb q=>((aaP nd nb hc.au.2.aK.1 q).gM JB)).gM JB)
 | .sw i j e,c,z,O,P,U,hc,h=>by
  apply ak.vP z hc; intro ts e' p hc
  apply ak.dg ts hc; intro t' hc
  have#[h1,hij]:=cT hc.au.1
  have#[#[es,k,p1,rfl],#[vs,k',p2,rfl]]:=And.intro (xQ (cT h1).1) (xQ (cT h1).2)
  have h3:=hc.au.2.aK.1
  have h6:=hc.au.2.aK.2.aK.2
  have hij:=aaD hij
  rcases VN hc.au.2.aK.2.aK.1 with hsw | ⟨x,y,hsw,lx,ly⟩
  .refine Cy rfl rfl (λL=>NK hsw L) (((cA nd nb e h6 h).mono λv xb q=>?_).gM JB)
   have#[a,b,rfl,q]:=XS q
   have q':wG T c (.tup [i,j]) (.tup [a,b]) O P.nxt (λe U'=>P.exc e O U') xb:=#[rfl,q]
   exact(aaP nd nb h3 q').gM JB
  .refine Ir rfl (λz hz=>?_) (λL=>NK hsw L) (((cA nd nb e h6 h).mono λv xb q=>?_).gM JB)
   .rcases acR.mp hz with rfl | hz
    .exact gq nd lx
    .rw[adk.mp hz]; exact gq nd ly
   .have#[a,b,rfl,q]:=XS q
    refine#[rfl,wr (wr O i (some a)) j (some b),?_,q]
    exact bI.trans (Y0 nd (Vu hij)) (m7 nd (dX lx) (m7 nd (dX ly) (bI.refl _)))
 | .aug i op e,c,z,O,P,U,hc,h=>by
  apply ak.Jy z hc; intro t op' e' p hc
  apply ak.aU t hc; intro x p' hc
  apply ak.Rg op' hc; intro h1 hc
  have lx:=ak.jF hc.aK.1
  have h2:=hc.aK.2
  have#[a,ha,h]:=rdQ h
  exact YH (aa3 h1) (jP (m:=[]) nd lx ha (((cA nd nb e h2 h).mono λv xb q=>#[gq nd lx,q.gj λu z=>#[_,m7 nd (dX lx) (bI.refl _),z]]).gM JB))
 | .augA o n op e,c,z,O,P,U,hc,h=>by
  apply ak.Jy z hc; intro t op' e' p hc
  apply ak.jY t hc; intro o' n' p' hc
  apply ak.Rg op' hc; intro h1 hc
  apply ak.nm n' hc; intro hc
  exact WN (aa3 h1) (((cA nd nb o hc.aK.1 h).mono λov xb q=>q.gj λa q=>((cA nd nb e hc.aK.2 q).mono λb xc q=>q.gj λu q=>q.gj λxf z=>#[O,bI.refl _,z]).gM JB).gM JB)
 | .exp e,c,z,O,P,U,hc,h=>by
  apply ak.QC z hc; intro e' p hc
  exact Vt hc.au.1 (((cA nd nb e hc.au.2 h).mono λv xb q=>#[O,bI.refl _,q]).gM JB)
 | .ret e,c,z,O,P,U,hc,h=>by
  apply ak.Lj z hc; intro o p hc
  apply ak.cY o hc; intro e' hc
  exact Qj (((cA nd nb e hc h).mono λv xb q=>#[O,bI.refl _,q]).gM JB)
 | .retN,c,z,O,P,U,hc,h=>by
  apply ak.Lj z hc; intro o p hc
  apply ak.fW o hc; intro hc
  exact J6 #[O,bI.refl _,h]
 | .ife t b o,c,z,O,P,U,hc,h=>by
  apply ak.Uo z hc; intro t' b' o' p hc
  refine ab9 (((J9 nd nb t hc.aK.1 h).mono λq xb z=>?_).gM JB)
  cases q
  .exact eG nd nb o hc.aK.2.aK.2 z
  .exact eG nd nb b hc.aK.2.aK.1 z
 | .whl t b,c,z,O,P,U,hc,h=>by
  apply ak.Te z hc; intro t' b' o' p hc
  apply ak.cJ o' hc; intro hc
  exact Q9 (h _ _ hc.aK.1 hc.aK.2)
 | .for t e b,c,z,O,P,U,hc,h=>by
  apply ak.JR z hc; intro t' e' b' o' p hc
  apply ak.cJ o' hc; intro hc
  exact aau (Oa hc.au.1) (((cA nd nb e hc.au.2.aK.2.aK.1 h).mono λv xb #[src,q1,q2]=>#[src,q1,q2 _ _ hc.au.2.aK.1 hc.au.2.aK.2.aK.2]).gM JB)
 | .forE is j i k b,c,z,O,P,U,hc,h=>by
  apply ak.JR z hc; intro t' e' b' o' p hc
  apply ak.cJ o' hc; intro hc
  have#[es,k',p1,rfl]:=xQ hc.au.1
  have hc:=hc.au.2
  apply ak.jU e' hc; intro f as kw p2 hc
  apply ak.cJ kw hc; intro hc
  apply ak.dg as hc; intro l hc
  apply ak.aU f hc; intro x p3 hc
  apply ak.aU l hc; intro y p4 hc
  have#[#[g1,g2,g3],hc]:=Kl nd hc
  have hy:=ak.jF hc.aK.1
  have#[a,vs,h1,h2,h3]:=h
  refine Wa g3 (xr nb hy) ?_ (jP (m:=[]) nd hy h1 rfl) h2 (h3 _ _ _ _ hc.aK.2.aK.1 hc.aK.2.aK.2)
  unfold eQ
  rw[g1]
  show 1
  rw[g2]
 | .brk,c,z,O,P,U,hc,h=>by
  apply ak.UJ z hc; intro p hc
  exact Uy #[O,bI.refl _,h]
 | .cnt,c,z,O,P,U,hc,h=>by
  apply ak.RW z hc; intro p hc
  exact HB #[O,bI.refl _,h]
 | .pas,c,z,O,P,U,hc,h=>by
  apply ak.QQ z hc; intro p hc
  exact V5 #[O,bI.refl _,h]
 | .rai e,c,z,O,P,U,hc,h=>by
  apply ak.Ry z hc; intro o co p hc
  apply ak.fW co hc; intro hc
  apply ak.cY o hc; intro e' hc
  refine Su (((cA nd nb e hc h).mono λv xb q=>?_).gM JB)
  have#[x,rfl,q]:=ac9 q
  have#[C,d,hσ,q]:=ab8 q
  show 1
  rw[hσ]
  exact#[q.1,q.2.1,O,bI.refl _,q.2.2]
 | .tryE b j i D n hh,c,z,O,P,U,hc,h=>by
  apply ak.Ef z hc; intro b' hs o f p hc
  apply ak.cJ o hc; intro hc
  apply ak.cJ f hc; intro hc
  apply ak.dg hs hc; intro hd hc
  apply ak.Oz hd hc; intro x n' h' p' hc
  apply ak.cY x hc; intro x hc
  apply ak.aU x hc; intro x p' hc
  have#[#[g1,g2,g3],k]:=Kl nd hc.au.2
  have#[b0,hb,rfl]:=wF (cT hc.au.1).1
  refine XC (Iw (cT hc.au.1).2) g3 g1 g2 (XD nd k.aK.1) ((eG nd nb b k.aK.2.aK.1 h).mono #[λ_ _ z=>z,λ_ _ _ z=>z,λ_ _ z=>z,λ_ _ z=>z,λe m xb #[O1,hm,q]=>?_])
  exact M4 nd k.aK.1 (tK.Le.refl _) hm (eG nd nb hh k.aK.2.aK.2) q
 | .tryF b f,c,z,O,P,U,hc,h=>by
  apply ak.Ef z hc; intro b' hs o f' p hc
  apply ak.cJ o hc; intro hc
  apply ak.cJ hs hc; intro hc
  have hc2:=hc.au.2
  have#[f0,fb,rfl]:=wF hc.au.1
  exact VL ((eG nd nb b hc2.aK.1 h).mono (T7 (eG nd nb f hc2.aK.2)))
 | .tryEF b j i D n hh f,c,z,O,P,U,hc,h=>by
  apply ak.Ef z hc; intro b' hs o f' p hc
  apply ak.cJ o hc; intro hc
  apply ak.dg hs hc; intro hd hc
  apply ak.Oz hd hc; intro x n' h' p' hc
  apply ak.cY x hc; intro x hc
  apply ak.aU x hc; intro x p' hc
  have#[#[g1,g2,g3],k]:=Kl nd hc.au.2
  have#[h1,hD]:=cT hc.au.1
  have#[b0,hb,rfl]:=wF (cT h1).1
  have#[f0,fb,rfl]:=wF (cT h1).2
  have le:=T7 (c:=c) (P:=P) (eG nd nb f k.aK.2.aK.2.aK.2)
  refine Rq (Iw hD) g3 g1 g2 (XD nd k.aK.1) ((eG nd nb b k.aK.2.aK.1 h).mono #[le.nxt,le.ret,le.brk,le.cnt,λe m xb #[O1,hm,q]=>?_])
  exact M4 nd k.aK.1 le hm (eG nd nb hh k.aK.2.aK.2.aK.1) q
 | .bad,c,z,O,P,U,hc,h=>False.elim h,
eG(nd:gD F)(nb:bw F):∀(p:PSs) {c:Cx} {z:List Stmt} {O:cZ} {P:PP} {U:Sg},ak (dH F.sc p z)->wSs T F p c O P U->dU T c F z (toLm (names F) O) (P.up (names F)) U
 | .nil,c,z,O,P,U,hc,h=>ak.cJ (C:=λz=>dU T c F z _ _ U) z hc λ_=>Z6 #[O,bI.refl _,h]
 | .cons p ps,c,z,O,P,U,hc,h=>by
  apply ak.cR z hc; intro s ss hc
  exact Np ((ab5 nd nb p hc.aK.1 h).mono (Yx λO1 m xb hm q=>(eG nd nb ps hc.aK.2 q).at hm))
show ∀{T:Tp}{c:Cx}{F:Fc}{U:Sg},_
let oU.gj(h:oU F t v m P)(k:∀ m',P m'->P' m'):oU F t v m P':=by
 unfold oU at *
 show 2
 .exact#[h.1,k _ h.2]
 .show 2
  .exact#[h.1,h.2.1,k _ h.2.2]
  .show 4
 .show 4
let bT(nd:gD F)(nb:bw F)(h:wT T c t O (λq xb=>if q=true then wSs T F b c O { P with nxt:=λO' U'=>Gm T F t b c O' P U',cnt:=λO' U'=>Gm T F t b c O' P U',brk:=P.nxt } xb else P.nxt O xb) (λe U'=>P.exc e O U') U) :
  Gm T F t b c O P U:=λt' b' h1 h2=>by
 refine GP (((J9 nd nb t h1 h).mono λq xb z=>?_).gM JB)
 cases q
 .exact#[O,bI.refl _,z]
 .refine(eG nd nb b h2 z).mono #[λm U' #[O',hm,q]=>(q t' b' h1 h2).weak hm,λ_ _ _ z=>z,λ_ _ z=>z,λm U' #[O',hm,q]=>(q t' b' h1 h2).weak hm,λ_ _ _ z=>z]
let bU(nd:gD F)(nb:bw F)(hpl:∀ o n,t ≠ .att o n)(hpi:∀ o i,t ≠ .itm o i)(hs:src.ok c U)(h:match src.item U i with
   | some v=>wG T c t v O (λO1 xb=>wSs T F b c O1 { P with nxt:=λO' U'=>mD T F t src (i+1) b c O' P U',cnt:=λO' U'=>mD T F t src (i+1) b c O' P U',brk:=P.nxt } xb) (λ_ _=>False) U
   | none=>P.nxt O U):mD T F t src i b c O P U:=λt' b' h1 h2=>by
 exists HR hs
 cases hv:src.item U i with
 | none=>rw[hv]at h; exact#[O,bI.refl _,h]
 | some v =>
  rw[hv]at h
  refine oU.gj (Mi nd hpl hpi h1 h) λm' #[O',hm,z]=>?_
  exact((eG nd nb b h2 z).at hm).mono #[λm U' #[O',hm,q]=>(q t' b' h1 h2).weak hm,λ_ _ _ z=>z,λ_ _ z=>z,λm U' #[O',hm,q]=>(q t' b' h1 h2).weak hm,λ_ _ _ z=>z]
let Zk(hk:rd O k=some (.ref a))(hσ:U a=some (.list vs))(h:Bx T F is a 0 b c O P U):wS T F (.forE is j i k b) c O P U:=#[a,vs,hk,hσ,h]
let zb(nd:gD F)(nb:bw F){i:Nat}(hσ:U a=some (.list vs))(hc:c.hd=none)(h:match vs[i]? with
   | some v=>is.length=2/\wSs T F b c (Y6 O is [.int i,v]) { P with nxt:=λO' U'=>Bx T F is a (i+1) b c O' P U',cnt:=λO' U'=>Bx T F is a (i+1) b c O' P U',brk:=P.nxt } U
   | none=>P.nxt O U):Bx T F is a i b c O P U:=λelts k p b' h1 h2=>by
 exists Qf hσ hc
 cases hv:vs[i]? with
 | none=>rw[hv]at h; exact#[O,bI.refl _,h]
 | some v =>
  rw[hv]at h
  exact Mx nd h.1 h1 λm' hm=>((eG nd nb b h2 h.2).at hm).mono #[λm U' #[O',hm,q]=>(q _ _ _ b' h1 h2).weak hm,λ_ _ _ z=>z,λ_ _ z=>z,λm U' #[O',hm,q]=>(q _ _ _ b' h1 h2).weak hm,λ_ _ _ z=>z]
have Qm(D:bc):List Str:=D.params.args.map (·.arg)
have aB(D:bc)(N:Nat)(b:PSs):Prop:=∃ ps,ps.length=N/\FnQ D ps b
have fnB(D:bc)(N:Nat)(b:PSs):Bool:=D.params.posonlyargs.isEmpty&&(D.params.vararg.isNone&&(D.params.kwonlyargs.isEmpty&&(D.params.kwarg.isNone&&(Nat.beq (Qm D).length N&&(oH D (Qm D)&&(decide (Qm D).Nodup&&(decide (D.scope.names.map (·.1)).Nodup&&(D.scope.names.all (λp=>!(p.1==("__debug__":Str)))&&(decide ((D.scope.names.map (·.1)).take (Qm D).length=Qm D)&&(dH D.scope b D.body).isSome)))))))))
let cg(h:fnB D N b=true:=by kernel_rfl)(e:(dH D.scope b D.body).map (List.map Prod.fst)=(dH D.scope b D.body).map (List.map Prod.snd):=by kernel_rfl):aB D N b:=by
 unfold fnB at h
 simp only[acV]at h
 have#[h1,h2,h3,h4,h5,h6,h7,h8,h9,h10,h11]:=h
 exact#[Qm D,Nat.eq_of_beq_eq_true h5,#[List.isEmpty_iff.mp h1,Option.isNone_iff_eq_none.mp h2,List.isEmpty_iff.mp h3,Option.isNone_iff_eq_none.mp h4,rfl],h6,aaD h7,aaD h8,λp hp=>by simpa using ac4.mp h9 p hp,aaD h10,pF h11 e]
let toLm_zip:∀(nm:xj) (vs:List V),toLm nm (vs.map some)=(nm.map (·.1)).zip vs
 | [],vs=>by cases vs <;> rfl
 | (x,k)::nm,[]=>rfl
 | (x,k)::nm,v::vs=>by show(x,v)::toLm nm (vs.map some)=_; rw[toLm_zip nm vs]; rfl
let iJ{α β:Type}:∀(a:List α) (b:List β),a.zip b=(a.take b.length).zip b
 | [],b=>by simp
 | x::a,[]=>by simp
 | x::a,y::b=>by simp[iJ a b]
let cu(K:aB D N b)(hf:(f,q,D,none)∈gh)(hl:N=vs.length)(h:∀ F,gD F->bw F->wSs T F b #[n,hd] (vs.map some) (PP.fn Q X) U):gR T #[n+1,hd] (.ref f) vs Q X U:=by
 have#[ps,rfl,K]:=K
 refine code_def hf K.plain K.scope K.nodup hl λcd=>?_
 have qq:=eG (F:=qR D q f cd) K.nd K.nb b K.Dc (h _ K.nd K.nb)
 have e:toLm (names (qR D q f cd)) (vs.map some)=ps.zip vs:=by
  show toLm D.scope.names (vs.map some)=_
  rw[toLm_zip,iJ,← hl,K.pre]
 rw[e]at qq
 exact qq.mono #[λm U #[_,_,z]=>z,λv m U #[_,_,z]=>z,λm U #[_,_,z]=>z,λm U #[_,_,z]=>z,λv m U #[_,_,z]=>z]
let qZ(K:aB D N b)(hf:(f,q,D,some t)∈gh)(ht:(t,ds)∈qi)(hl:ds.length<=N)(hv:vs.length<=N)(hge:N<=vs.length+ds.length)(h:∀ F,gD F->bw F->wSs T F b #[n,hd] ((bO N vs ds).map some) (PP.fn Q X) U):gR T #[n+1,hd] (.ref f) vs Q X U:=by
 have#[ps,rfl,K]:=K
 refine CQ hf ht K.plain K.scope K.nodup hl hv hge λcd=>?_
 have qq:=eG (F:=qR D q f cd) K.nd K.nb b K.Dc (h _ K.nd K.nb)
 have e:toLm (names (qR D q f cd)) ((bO ps.length vs ds).map some)=ps.zip (bO ps.length vs ds):=by
  show toLm D.scope.names _=_
  have hz:(bO ps.length vs ds).length=ps.length:=by unfold bO; rw[aaG,List.length_drop]; omega
  rw[toLm_zip,iJ,hz,K.pre]
 rw[e]at qq
 exact qq.mono #[λm U #[_,_,z]=>z,λv m U #[_,_,z]=>z,λm U #[_,_,z]=>z,λm U #[_,_,z]=>z,λv m U #[_,_,z]=>z]
open Lean Meta Elab Tactic in show _
letI mkS(s:String):Lean.Expr:=toExpr (s.toList.map (·.toNat))
letI dnm(p:String):TacticM String:=do
 let some (.str _ d) ← Term.getDeclName? | failure
 return(d.drop p.length).toString
letI nmM:TacticM Unit:=do closeMainGoalUsing `x λ_ _=>return mkApp (mkConst ``Cs) (mkS (← dnm "n_"))
letI lit(e:Lean.Expr):String:=match e.find? λx=>x matches .lit (.strVal _)with
 | some (.lit (.strVal s))=>s
 | _=>""
letI fld(e:Lean.Expr):String:=if e.getAppFn.isConst then e.getAppFn.constName!.getString! else ""
letI lis:Nat->Lean.Expr->MetaM (List Lean.Expr)
 | 0,_=>failure
 | n+1,e=>do
  let e ← whnf e
  if fld e="cons" then return e.appFn!.appArg! :: (← lis n e.appArg!)else return []
letI fH(s:String)(as:List Lean.Expr):Lean.Expr:=mkAppN (mkConst (`Mine++s.toName)) as.toArray
letI BX.pos(x:BX)(s:String):Lean.Expr:=mkNatLit (x.nm.findIdx (·.1=s))
letI BX.knd(x:BX)(s:String):String:=(x.nm.find? (·.1=s)).elim "" (·.2)
letI BX.gi(x:BX)(s:String):Lean.Expr:=mkNatLit (x.gs.findIdx (·.1=s))
letI BX.gv(x:BX)(s:String):Lean.Expr:=(x.gs.find? (·.1=s)).elim (mkNatLit 0) (·.2)
letI us(s:String):String :=
 let t:=String.ofList ((s.toList.dropWhile (· == '_')).reverse.dropWhile (· == '_')).reverse
 (if s.startsWith "__" then "n__" else "n_")++t
letI BX.go(x:BX):Nat->String->Lean.Expr->MetaM Lean.Expr
 | 0,_,_=>failure
 | n+1,k,e=>do
  let e ← whnf e
  let f:=fld e
  let a:=e.getAppArgs
  let r (k:String) (i:Nat):MetaM Lean.Expr:=x.go n k a[i]!
  let l (i:Nat):MetaM (List Lean.Expr):=lis 1000 a[i]!
  let nam (i:Nat):Lean.Expr:=fH (us (lit a[i]!)) []
  let nat (s:List Lean.Expr):MetaM Lean.Expr:=mkListLit (mkConst ``Nat) s
  if k="PTs"||k="PEs"||k="PSs" then
   if f="nil" then return fH (k++".nil") []
   return fH (k++".cons") [← r (k.dropEnd 1).toString 1,← r k 2]
  if k="PT" then
   if f="UnaryOp"&&fld (← whnf a[0]!)="Not" then return fH "PT.not" [← r "PT" 1]
   if f="BoolOp" then return fH "PT.all" [a[0]!,← r "PTs" 1]
   if f="Compare" then
    match ← l 1,← l 2 with
    | [o],[y]=>return fH "PT.cmp" [o,← r "PE" 0,← x.go n "PE" y]
    | [o,p],[y,z]=>return fH "PT.cm2" [← r "PE" 0,o,← x.go n "PE" y,p,← x.go n "PE" z]
    | _,_=>failure
   return fH "PT.val" [← x.go n "PE" e]
  if k="TG" then
   match f with
   | "Name"=>return fH "TG.loc" [x.pos (lit a[0]!)]
   | "Tuple"=>return fH "TG.tup" [← nat ((← l 0).map λy=>x.pos (lit y))]
   | "Attribute"=>return fH "TG.att" [← r "PE" 0,nam 1]
   | _=>return fH "TG.itm" [← r "PE" 0,← r "PE" 1]
  if k="PE" then
   match f with
   | "Name" =>
    let s:=lit a[0]!
    if x.knd s="globalImplicit" then return fH "PE.glo" [x.pos s,x.gi s,x.gv s]
    return fH "PE.loc" [x.pos s]
   | "Constant" =>
    let c ← whnf a[0]!
    return fH "PE.kon" [match fld c with
     | "none"=>fH "V.none" []
     | "str"=>fH "V.str" [mkS (lit c)]
     | s=>fH ("V."++s) [c.appArg!]]
   | "BinOp"=>return fH "PE.bin" [a[1]!,← r "PE" 0,← r "PE" 2]
   | "UnaryOp"=>return fH (if fld (← whnf a[0]!)="Not" then "PE.not" else "PE.neg") [← r "PE" 1]
   | "IfExp"=>return fH "PE.ife" [← r "PT" 0,← r "PE" 1,← r "PE" 2]
   | "Compare"=>return fH "PE.cmp" [(← l 1)[0]!,← r "PE" 0,← x.go n "PE" (← l 2)[0]!]
   | "BoolOp"=>return fH "PE.bo" [a[0]!,← r "PEs" 1]
   | "Tuple"=>return fH "PE.tup" [← r "PEs" 0]
   | "List"=>return fH "PE.lst" [← r "PEs" 0]
   | "Dict" =>
    let es ← ((← l 0).zip (← l 1)).mapM λ(p,q)=>return(← x.go n "PE" (← whnf p).appArg!,← x.go n "PE" q)
    return fH "PE.dct" [es.foldr (λ(p,q) t=>fH "PKs.cons" [p,q,t]) (fH "PKs.nil" [])]
   | "ListComp" =>
    let it:=lit ((← whnf (← l 1)[0]!).getAppArgs[1]!)
    return fH "PE.raw" [match fld (← whnf a[0]!)with
     | "Call"=>fH "Raw.emp" [x.pos "words",x.pos "names"]
     | "Tuple"=>fH "Raw.vars" [x.pos "host"]
     | _=>fH "Raw.filt" [x.pos it,x.pos "fuel"]]
   | "Attribute"=>return fH "PE.att" [← r "PE" 0,nam 1]
   | "Subscript" =>
    let b ← whnf a[1]!
    if fld b="Slice" then
     let b:=b.getAppArgs
     let lo ← whnf b[0]!
     let hi ← whnf b[1]!
     if fld hi="none" then return fH "PE.sliL" [← r "PE" 0,← x.go n "PE" lo.appArg!]
     if fld lo="none" then return fH "PE.sliH" [← r "PE" 0,← x.go n "PE" hi.appArg!]
     return fH "PE.sli" [← r "PE" 0,← x.go n "PE" lo.appArg!,← x.go n "PE" hi.appArg!]
    return fH "PE.itm" [← r "PE" 0,← r "PE" 1]
   | "Call" =>
    let b ← whnf a[0]!
    let s:=lit b.getAppArgs[0]!
    if fld b="Name" then
     if x.knd s="globalImplicit" then return fH "PE.call" [x.pos s,x.gi s,x.gv s,← r "PEs" 1]
     return fH "PE.calv" [x.pos s,← r "PEs" 1]
    let c ← whnf b.getAppArgs[0]!
    return fH (if fld c="Name"&&(lit c="Host"||lit c="Exception")then "PE.mtc" else "PE.mth") [← x.go n "PE" c,fH (us (lit b.getAppArgs[1]!)) [],← r "PEs" 1]
   | _=>failure
  match f with
  | "Assign" =>
   let t ← whnf (← l 0)[0]!
   if fld t="Tuple"&&fld (← whnf a[1]!)="Tuple" then
    match ← lis 9 t.getAppArgs[0]! with
    | [p,q]=>return fH "PS.sw" [x.pos (lit p),x.pos (lit q),← r "PE" 1]
    | _=>failure
   return fH "PS.asg" [← x.go n "TG" t,← r "PE" 1]
  | "AugAssign" =>
   let t ← whnf a[0]!
   let b:=t.getAppArgs
   if fld t="Name" then return fH "PS.aug" [x.pos (lit t),a[1]!,← r "PE" 2]
   return fH "PS.augA" [← x.go n "PE" b[0]!,fH (us (lit b[1]!)) [],a[1]!,← r "PE" 2]
  | "Expr"=>return fH "PS.exp" [← r "PE" 0]
  | "Return" =>
   let b ← whnf a[0]!
   if fld b="none" then return fH "PS.retN" []
   return fH "PS.ret" [← x.go n "PE" b.appArg!]
  | "If"=>return fH "PS.ife" [← r "PT" 0,← r "PSs" 1,← r "PSs" 2]
  | "While"=>return fH "PS.whl" [← r "PT" 0,← r "PSs" 1]
  | "For" =>
   let t ← whnf a[1]!
   let s:="enumerate"
   if fld t="Call"&&lit t.getAppArgs[0]! = s then
    return fH "PS.forE" [← nat ((← lis 9 (← whnf a[0]!).getAppArgs[0]!).map λy=>x.pos (lit y)),x.pos s,x.gi s,x.pos (lit t.getAppArgs[1]!),← r "PSs" 2]
   return fH "PS.for" [← r "TG" 0,← r "PE" 1,← r "PSs" 2]
  | "Break"=>return fH "PS.brk" []
  | "Continue"=>return fH "PS.cnt" []
  | "Pass"=>return fH "PS.pas" []
  | "Raise" =>
   let t ← whnf (← whnf a[0]!).appArg!
   if fld t="Call"&&lit t.getAppArgs[0]! = "Misused" then return fH "PS.bad" []
   return fH "PS.rai" [← x.go n "PE" t]
  | _ =>
   let fin:=fld (← whnf a[3]!)="cons"
   match ← l 1 with
   | []=>return fH "PS.tryF" [← r "PSs" 0,← r "PSs" 3]
   | h::_ =>
    let h:=(← whnf h).getAppArgs
    let s:=lit h[0]!
    let nn ← whnf h[1]!
    let nn:=if fld nn="none" then mkApp (mkConst ``Option.none [0]) (mkConst ``Nat)else mkApp2 (mkConst ``Option.some [0]) (mkConst ``Nat) (x.pos (lit nn))
    let as:=[← r "PSs" 0,x.pos s,x.gi s,(← whnf (x.gv s)).appArg!,nn,← x.go n "PSs" h[2]!]
    if fin then return fH "PS.tryEF" (as++[← r "PSs" 3])
    return fH "PS.tryE" as
letI bdE(fn:Lean.Expr):MetaM Lean.Expr:=do
 let pr (e:Lean.Expr):MetaM (String×Lean.Expr):=do
  let e ← whnf e
  return(lit e.appFn!.appArg!,← whnf e.appArg!)
 let nm ← (← lis 1000 (mkApp (mkConst ``PySem.Scope.names) (mkApp (mkConst ``bc.scope) fn))).mapM pr
 let gs ← (← lis 1000 (mkConst ``tE)).mapM pr
 BX.go ⟨nm.map λ(a,b)=>(a,fld b),gs⟩ 1000 "PSs" (mkApp (mkConst ``bc.body) fn)
letI bdM:TacticM Unit:=do
 let v ← bdE (fH ("fn_"++(← dnm "b_")) [])
 closeMainGoalUsing `x λ_ _=>return v
show _
have n__init:Str:=Cs [95,95,105,110,105,116,95,95]
have n_append:Str:=f!"append"
have n_begin:Str:=f!"begin"
have n_call:Str:=f!"call"
have n_endswith:Str:=f!"endswith"
have n_extend:Str:=f!"extend"
have n_find:Str:=f!"find"
have n_finish:Str:=f!"finish"
have n_index:Str:=f!"index"
have n_join:Str:=f!"join"
have n_leave:Str:=f!"leave"
have n_lower:Str:=f!"lower"
have n_outcome:Str:=f!"outcome"
have n_place:Str:=f!"place"
have n_pop:Str:=f!"pop"
have n_put:Str:=f!"put"
have n_read:Str:=f!"read"
have n_read_var:Str:=f!"read_var"
have n_remove:Str:=f!"remove"
have n_rfind:Str:=f!"rfind"
have n_run:Str:=f!"run"
have n_run_global:Str:=f!"run_global"
have n_spend:Str:=f!"spend"
have n_split:Str:=f!"split"
have n_startswith:Str:=f!"startswith"
have n_tool:Str:=f!"tool"
have n_upper:Str:=f!"upper"
have n_write:Str:=f!"write"
have n_write_var:Str:=f!"write_var"
have b_aeR:PSs:=by show 3
have b_ae5:PSs:=by show 3
have b_afx:PSs:=by show 3
have b_agq:PSs:=by show 3
have b_agE:PSs:=by show 3
have b_agw:PSs:=by show 3
have b_afV:PSs:=by show 3
have b_afu:PSs:=by show 3
have b_afP:PSs:=by show 3
have b_afQ:PSs:=by show 3
have b_agu:PSs:=by show 3
have b_aeZ:PSs:=by show 3
have b_af5:PSs:=by show 3
have b_agg:PSs:=by show 3
have b_afI:PSs:=by show 3
have b_agk:PSs:=by show 3
have b_afy:PSs:=by show 3
have b_aeL:PSs:=by show 3
have b_aeG:PSs:=by show 3
have b_afw:PSs:=by show 3
have b_afX:PSs:=by show 3
have b_af1:PSs:=by show 3
have b_agl:PSs:=by show 3
have b_ae4:PSs:=by show 3
have b_afq:PSs:=by show 3
have b_ae6:PSs:=by show 3
have b_agy:PSs:=by show 3
have b_afs:PSs:=by show 3
have b_aeX:PSs:=by show 3
have b_ae0:PSs:=by show 3
have b_afk:PSs:=by show 3
have b_age:PSs:=by show 3
have b_af7:PSs:=by show 3
have b_agr:PSs:=by show 3
have b_afK:PSs:=by show 3
have b_agz:PSs:=by show 3
have b_ae8:PSs:=by show 3
have b_agn:PSs:=by show 3
have b_afE:PSs:=by show 3
have b_afM:PSs:=by show 3
have b_agj:PSs:=by show 3
have b_afO:PSs:=by show 3
have b_ago:PSs:=by show 3
have b_afr:PSs:=by show 3
have b_afm:PSs:=by show 3
have b_afJ:PSs:=by show 3
have b_afL:PSs:=by show 3
have b_afi:PSs:=by show 3
have b_af3:PSs:=by show 3
have b_aeF:PSs:=by show 3
have b_afA:PSs:=by show 3
have b_ae9:PSs:=by show 3
have b_afj:PSs:=by show 3
have b_ae1:PSs:=by show 3
have b_agm:PSs:=by show 3
have b_afB:PSs:=by show 3
have b_agD:PSs:=by show 3
have b_aeK:PSs:=by show 3
have b_aeD:PSs:=by show 3
have b_aez:PSs:=by show 3
have b_aey:PSs:=by show 3
have b_aeN:PSs:=by show 3
have b_aeE:PSs:=by show 3
have b_aeS:PSs:=by show 3
have b_aeB:PSs:=by show 3
have b_aeH:PSs:=by show 3
have b_aga:PSs:=by show 3
have b_aeV:PSs:=by show 3
have b_ae3:PSs:=by show 3
have b_aeT:PSs:=by show 3
have b_afa:PSs:=by show 3
have b_agp:PSs:=by show 3
have b_afD:PSs:=by show 3
have b_agt:PSs:=by show 3
have b_afN:PSs:=by show 3
have b_afH:PSs:=by show 3
have b_afd:PSs:=by show 3
have b_afG:PSs:=by show 3
have b_afY:PSs:=by show 3
have b_afF:PSs:=by show 3
have b_ae2:PSs:=by show 3
have b_afT:PSs:=by show 3
have b_agb:PSs:=by show 3
have b_afz:PSs:=by show 3
have b_afn:PSs:=by show 3
have b_aeY:PSs:=by show 3
have b_afg:PSs:=by show 3
have b_afZ:PSs:=by show 3
have b_af0:PSs:=by show 3
have b_ae7:PSs:=by show 3
have b_af6:PSs:=by show 3
have b_af8:PSs:=by show 3
have b_af9:PSs:=by show 3
have b_agd:PSs:=by show 3
have b_af4:PSs:=by show 3
have b_agc:PSs:=by show 3
have b_afU:PSs:=by show 3
have b_afR:PSs:=by show 3
have b_agh:PSs:=by show 3
have b_af2:PSs:=by show 3
have b_afW:PSs:=by show 3
have b_afc:PSs:=by show 3
have b_aeQ:PSs:=by show 3
have b_agJ:PSs:=by show 3
let vO:aB fn_aeR 2 b_aeR:=cg
let jz:aB fn_ae5 6 b_ae5:=cg
let GZ:aB fn_afx 5 b_afx:=cg
let Ws:aB fn_agq 2 b_agq:=cg
let aa4:aB fn_agE 2 b_agE:=cg
let Yw:aB fn_agw 2 b_agw:=cg
let Kr:aB fn_afV 2 b_afV:=cg
let Ez:aB fn_afu 1 b_afu:=cg
let Ju:aB fn_afP 2 b_afP:=cg
let Lp:aB fn_afQ 1 b_afQ:=cg
let WX:aB fn_agu 1 b_agu:=cg
let xN:aB fn_aeZ 2 b_aeZ:=cg
let J8:aB fn_af5 1 b_af5:=cg
let Oh:aB fn_agg 1 b_agg:=cg
let Gp:aB fn_afI 1 b_afI:=cg
let Ut:aB fn_agk 1 b_agk:=cg
let Hz:aB fn_afy 2 b_afy:=cg
let tR:aB fn_aeL 2 b_aeL:=cg
let rN:aB fn_aeG 2 b_aeG:=cg
let G4:aB fn_afw 2 b_afw:=cg
let Lr:aB fn_afX 2 b_afX:=cg
let Jh:aB fn_af1 2 b_af1:=cg
let QT:aB fn_agl 2 b_agl:=cg
let Bo:aB fn_ae4 3 b_ae4:=cg
let Du:aB fn_afq 1 b_afq:=cg
let Am:aB fn_ae6 2 b_ae6:=cg
let Z1:aB fn_agy 3 b_agy:=cg
let qW:aB fn_afs 3 b_afs:=cg
let zH:aB fn_aeX 2 b_aeX:=cg
let yO:aB fn_ae0 2 b_ae0:=cg
let En:aB fn_afk 1 b_afk:=cg
let Pu:aB fn_age 2 b_age:=cg
let Qn:aB fn_af7 2 b_af7:=cg
let Wi:aB fn_agr 2 b_agr:=cg
let Gd:aB fn_afK 1 b_afK:=cg
let ZW:aB fn_agz 1 b_agz:=cg
let Ao:aB fn_ae8 1 b_ae8:=cg
let SM:aB fn_agn 1 b_agn:=cg
let GR:aB fn_afE 1 b_afE:=cg
let Jq:aB fn_afM 1 b_afM:=cg
let O9:aB fn_agj 2 b_agj:=cg
let Lf:aB fn_afO 2 b_afO:=cg
let W7:aB fn_ago 4 b_ago:=cg
let Dt:aB fn_afr 2 b_afr:=cg
let Dj:aB fn_afm 1 b_afm:=cg
let G9:aB fn_afJ 3 b_afJ:=cg
let Iu:aB fn_afL 2 b_afL:=cg
let DQ:aB fn_afi 1 b_afi:=cg
let JM:aB fn_af3 2 b_af3:=cg
let rE:aB fn_aeF 2 b_aeF:=cg
let Hq:aB fn_afA 2 b_afA:=cg
let Al:aB fn_ae9 2 b_ae9:=cg
let Ei:aB fn_afj 2 b_afj:=cg
let zx:aB fn_ae1 2 b_ae1:=cg
let GJ:aB fn_agm 2 b_agm:=cg
let GK:aB fn_afB 3 b_afB:=cg
let abj:aB fn_agD 4 b_agD:=cg
let tV:aB fn_aeK 3 b_aeK:=cg
let jn:aB fn_aeD 2 b_aeD:=cg
let nj:aB fn_aez 3 b_aez:=cg
let mF:aB fn_aey 4 b_aey:=cg
let tQ:aB fn_aeN 2 b_aeN:=cg
let qX:aB fn_aeE 3 b_aeE:=cg
let vH:aB fn_aeS 4 b_aeS:=cg
let pJ:aB fn_aeB 2 b_aeB:=cg
let rJ:aB fn_aeH 2 b_aeH:=cg
let Ob:aB fn_aga 1 b_aga:=cg
let vV:aB fn_aeV 1 b_aeV:=cg
let mR:aB fn_ae3 1 b_ae3:=cg
let vW:aB fn_aeT 3 b_aeT:=cg
let Be:aB fn_afa 2 b_afa:=cg
let W6:aB fn_agp 2 b_agp:=cg
let m5:aB fn_afD 2 b_afD:=cg
let W4:aB fn_agt 2 b_agt:=cg
let JL:aB fn_afN 2 b_afN:=cg
let Hl:aB fn_afH 2 b_afH:=cg
let Ai:aB fn_afd 2 b_afd:=cg
let HX:aB fn_afG 3 b_afG:=cg
let Kc:aB fn_afY 3 b_afY:=cg
let G7:aB fn_afF 2 b_afF:=cg
let yj:aB fn_ae2 2 b_ae2:=cg
let yr:aB fn_afT 2 b_afT:=cg
let Bw:aB fn_agb 2 b_agb:=cg
let IV:aB fn_afz 2 b_afz:=cg
let Ff:aB fn_afn 5 b_afn:=cg
let Dp:aB fn_afg 2 b_afg:=cg
let KD:aB fn_afZ 2 b_afZ:=cg
let Js:aB fn_af0 1 b_af0:=cg
let Bp:aB fn_ae7 1 b_ae7:=cg
let Py:aB fn_af8 3 b_af8:=cg
let O5:aB fn_af9 2 b_af9:=cg
let Px:aB fn_agd 2 b_agd:=cg
let KC:aB fn_af4 2 b_af4:=cg
let OD:aB fn_agc 2 b_agc:=cg
let Jz:aB fn_afU 3 b_afU:=cg
let Jv:aB fn_afR 2 b_afR:=cg
let Qe:aB fn_agh 2 b_agh:=cg
let Lb:aB fn_af2 4 b_af2:=cg
let Jr:aB fn_afW 2 b_afW:=cg
let Ad:aB fn_afc 1 b_afc:=cg
let acE:aB fn_agJ 1 b_agJ:=cg
let fm(i:Nat)(h:gh[i]? = some p:=by rfl):p∈gh:=aaQ h
show ∀{T:Tp}{F:Fc}{c:Cx}{O:cZ}{P:PP}{U:Sg}{X:Addr->Ψ},_
let acg(h:P.nxt O U):wSs T F .nil c O P U:=h
have PP.loop(P:PP)(A:cZ->Ψ):PP:={ P with nxt:=A,cnt:=A,brk:=P.nxt }
let aae(h:wS T F s c O (PP.seq T F c ss P) U):wSs T F (.cons s ss) c O P U:=h
let abM(h:wE T c e O (λv xb=>wG T c t v O P.nxt (λe U'=>P.exc e O U') xb) (λe U'=>P.exc e O U') U):wS T F (.asg t e) c O P U:=h
let ac6(h:wE T c e O (λv xb=>match v with | .tup [a,b]=>P.nxt (wr (wr O i (some a)) j (some b)) xb | _=>False) (λe U'=>P.exc e O U') U):wS T F (.sw i j e) c O P U:=h
let aa5(ha:rd O i=some a)(h:wE T c e O (λb xb=>gJ op a b λv=>P.nxt (wr O i (some v)) xb) (λe U'=>P.exc e O U') U):wS T F (.aug i op e) c O P U:=by
 unfold wS; rw[ha]; exact h
let Zh(h:wE T c o O (λov xb=>aY xb ov n λa=>wE T c e O (λb xc=>gJ op a b λv=>fK xc ov n v λxf=>P.nxt O xf) (λe U'=>P.exc e O U') xb) (λe U'=>P.exc e O U') U):wS T F (.augA o n op e) c O P U:=h
let ab0(h:wE T c e O (λ_ xb=>P.nxt O xb) (λe U'=>P.exc e O U') U):wS T F (.exp e) c O P U:=h
let aaU(h:wE T c e O (λv xb=>P.ret v O xb) (λe U'=>P.exc e O U') U):wS T F (.ret e) c O P U:=h
let Z4(h:P.ret .none O U):wS T F .retN c O P U:=h
let ac5(h:wT T c t O (λq xb=>if q=true then wSs T F b c O P xb else wSs T F o c O P xb) (λe U'=>P.exc e O U') U):wS T F (.ife t b o) c O P U:=h
let abE(h:Gm T F t b c O P U):wS T F (.whl t b) c O P U:=h
let aca(h:wE T c e O (λv xb=>∃ src,srcOf xb v=some src/\mD T F t src 0 b c O P xb) (λe U'=>P.exc e O U') U):wS T F (.for t e b) c O P U:=h
let aa6(h:P.brk O U):wS T F .brk c O P U:=h
let abw(h:P.cnt O U):wS T F .cnt c O P U:=h
let acB(h:P.nxt O U):wS T F .pas c O P U:=h
have YS(c:Cx)(O:cZ)(P:PP)(v:V)(xb:Sg):Prop:=match v with
   | .ref e=>(match xb e with | some (.exc C d)=>cH C/\(∀ h,c.hd=some h->h<=e)/\P.exc e O xb | _=>False)
   | _=>False
let abI(h:wE T c e O (YS c O P) (λe U'=>P.exc e O U') U):wS T F (.rai e) c O P U:=h
let vI(h:U e=some (.exc C d))(hC:C=84∨C=63)(hh:∀ h,c.hd=some h->h<=e)(k:P.exc e O U):YS c O P (.ref e) U:=by
 unfold YS
 show 1
 rw[h]
 refine#[?_,hh,k]
 rcases hC with rfl | rfl
 .exact#[81,by decide]
 .exact#[35,by decide]
have Jo(T:Tp)(F:Fc)(c:Cx)(P:PP)(D:Addr)(n:Option Nat)(h:PSs)(e:Addr)(O1:cZ)(xb:Sg):Prop:=match xb e with
   | some (.exc C d)=>cH C/\if C=D then wSs T F h { c with hd:=some e } (nIn n e O1) (P.out n) xb else P.exc e O1 xb
   | _=>False
let Z9(k:wSs T F b c O { P with exc:=Jo T F c P D n h } U):wS T F (.tryE b j i D n h) c O P U:=k
let Yu(k:wSs T F b c O (PP.fin T F f c P) U):wS T F (.tryF b f) c O P U:=k
let Wz(k:wSs T F b c O { (PP.fin T F f c P)with exc:=Jo T F c (PP.fin T F f c P) D n h } U):wS T F (.tryEF b j i D n h f) c O P U:=k
let lu(hD:D=84∨D=63)(he:U e=some (.exc D d))(k:wSs T F h { c with hd:=some e } (nIn n e O) (P.out n) U):Jo T F c P D n h e O U:=by
 unfold Jo
 rw[he]
 refine#[?_,by rw[ad9 rfl]; exact k]
 rcases hD with rfl | rfl
 .exact#[81,by decide]
 .exact#[35,by decide]
let jc(hC:C=84∨C=63)(ne:C≠D)(he:U e=some (.exc C d))(k:P.exc e O U):Jo T F c P D n h e O U:=by
 unfold Jo
 rw[he]
 refine#[?_,by rw[ad8 ne]; exact k]
 rcases hC with rfl | rfl
 .exact#[81,by decide]
 .exact#[35,by decide]
show ∀{T:Tp}{F:Fc}{c:Cx}{O:cZ}{P:PP}{U:Sg}{X:Addr->Ψ}{Q:V->Ψ},_
let X7(hv:rd O i=some v)(h:Q v U):wE T c (.loc i) O Q X U:=by unfold wE; rw[hv]; exact h
let abZ(h:Q v U):wE T c (.glo j i v) O Q X U:=h
let abV(h:Q v U):wE T c (.kon v) O Q X U:=h
let acF(h:wE T c l O (λa xb=>wE T c r O (λb xc=>gJ op a b λv=>Q v xc) X xb) X U):wE T c (.bin op l r) O Q X U:=h
have ZV(v:V)(Q:V->Prop):Prop:=match v with | .int i=>Q (.int (-i)) | _=>False
let aaI(h:wE T c x O (λa xb=>ZV a λv=>Q v xb) X U):wE T c (.neg x) O Q X U:=h
let adu{Q:V->Prop}(h:Q (.int (-i))):ZV (.int i) Q:=h
let abT(h:wE T c x O (λa xb=>fU a xb λb=>Q (.bool !b) xb) X U):wE T c (.not x) O Q X U:=h
let abJ(h:wT T c t O (λq xb=>if q=true then wE T c b O Q X xb else wE T c o O Q X xb) X U):wE T c (.ife t b o) O Q X U:=h
let abG(h:wE T c l O (λa xb=>wE T c r O (λb xc=>b8 op a b xc λt=>Q (.bool t) xc) X xb) X U):wE T c (.cmp op l r) O Q X U:=h
let adE(h:wB T c op es O Q X U):wE T c (.bo op es) O Q X U:=h
let abC(h:wEs T c es O (λvs xb=>Q (.tup vs) xb) X U):wE T c (.tup es) O Q X U:=h
let abY(h:wEs T c es O (λvs xb=>∀ a,bD xb a->Q (.ref a) (xb.set a (.list vs))) X U):wE T c (.lst es) O Q X U:=h
let Ze(h:∀ d,bD U d->Q (.ref d) (U.set d (.dict []))):wE T c (.dct .nil) O Q X U:=h
let abH(h:wKs T c (.cons k v ps) O (λx xb=>∃ es,strKeys x=some es/\es.length<=1000/\dw es/\∀ d,bD U d->xb d=none->Q (.ref d) (xb.set d (.dict es))) X U):wE T c (.dct (.cons k v ps)) O Q X U:=h
let acj{Q:List (V×V)->Ψ}(h:Q [] U):wKs T c .nil O Q X U:=h
let aan{Q:List (V×V)->Ψ}(h:wE T c k O (λkv xb=>wE T c v O (λvv xc=>wKs T c ps O (λr=>Q ((kv,vv)::r)) X xc) X xb) X U):wKs T c (.cons k v ps) O Q X U:=h
let ab1(h:wE T c o O (λv xb=>aY xb v n λu=>Q u xb) X U):wE T c (.att o n) O Q X U:=h
let acD(h:wE T c o O (λov xb=>wE T c i O (λiv xc=>di T xc ov iv λv=>Q v xc) X xb) X U):wE T c (.itm o i) O Q X U:=h
let acu{o lo hi:PE}(h:wE T c o O (λov xb=>wE T c lo O (λlv xc=>wE T c hi O (λhv xf=>lE xf ov lv hv Q) X xc) X xb) X U):wE T c (.sli o lo hi) O Q X U:=h
let Z0{o lo:PE}(h:wE T c o O (λov xb=>wE T c lo O (λlv xc=>lE xc ov lv .none Q) X xb) X U):wE T c (.sliL o lo) O Q X U:=h
let aal(h:wE T c o O (λov xb=>wE T c hi O (λhv xc=>lE xc ov .none hv Q) X xb) X U):wE T c (.sliH o hi) O Q X U:=h
let Ys(h:wEs T c es O (λvs xc=>aj T c f vs Q X xc) X U):wE T c (.call j i f es) O Q X U:=h
let Eb(hv:rd O i=some f)(hc:uQ f=true)(h:wEs T c es O (λvs xc=>aj T c f vs Q X xc) X U):wE T c (.calv i es) O Q X U:=by unfold wE; rw[hv]; exact#[hc,h]
let abg(h:wE T c o O (λov xb=>MethP xb ov n λf fs=>wEs T c es O (λvs xc=>aj T c f (fs++vs) Q X xc) X xb) X U):wE T c (.mth o n es) O Q X U:=h
let aaK(h:wE T c o O (λov xb=>rG ov n λf=>wEs T c es O (λvs xc=>aj T c f vs Q X xc) X xb) X U):wE T c (.mtc o n es) O Q X U:=h
let b_agF(h:wE T c e O Q X U):wB T c op (.cons e .nil) O Q X U:=h
let b_agG(h:wE T c e O (λv xb=>fU v xb λb=>if b=false then Q v xb else wB T c .And (.cons e' es) O Q X xb) X U):wB T c .And (.cons e (.cons e' es)) O Q X U:=h
let b_or(h:wE T c e O (λv xb=>fU v xb λb=>if b=true then Q v xb else wB T c .Or (.cons e' es) O Q X xb) X U):wB T c .Or (.cons e (.cons e' es)) O Q X U:=h
show ∀{T:Tp}{F:Fc}{c:Cx}{O:cZ}{P:PP}{U:Sg}{X:Addr->Ψ},_
let Yl(h:Q [] U):wEs T c .nil O Q X U:=h
let Tz(h:wE T c e O (λv xb=>wEs T c es O (λvs=>Q (v::vs)) X xb) X U):wEs T c (.cons e es) O Q X U:=h
show ∀{T:Tp}{F:Fc}{c:Cx}{O:cZ}{P:PP}{U:Sg}{X:Addr->Ψ}{Q:Bool->Ψ},_
let acd(h:wE T c e O (λv xb=>fU v xb λb=>Q b xb) X U):wT T c (.val e) O Q X U:=h
let aa0(h:wT T c t O (λb xb=>Q (!b) xb) X U):wT T c (.not t) O Q X U:=h
let abN(h:wE T c l O (λa xb=>wE T c r O (λb xc=>b8 op a b xc λt=>Q t xc) X xb) X U):wT T c (.cmp op l r) O Q X U:=h
let acL(h:wE T c l O (λa xb=>wE T c r O (λb xc=>b8 o1 a b xc λt=>if t=true then wE T c r' O (λd xf=>b8 o2 b d xf λt=>Q t xf) X xc else Q false xc) X xb) X U):wT T c (.cm2 l o1 r o2 r') O Q X U:=h
let aaV(h:wA T c op ts O Q X U):wT T c (.all op ts) O Q X U:=h
let ZR(h:Q true U):wA T c .And .nil O Q X U:=h
let aao(h:Q false U):wA T c .Or .nil O Q X U:=h
let abq(h:wT T c t O (λb xb=>if b=true then wA T c .And ts O Q X xb else Q b xb) X U):wA T c .And (.cons t ts) O Q X U:=h
let ade(h:wT T c t O (λb xb=>if b=false then wA T c .Or ts O Q X xb else Q b xb) X U):wA T c .Or (.cons t ts) O Q X U:=h
show ∀{T:Tp}{F:Fc}{c:Cx}{O:cZ}{P:PP}{U:Sg}{X:Addr->Ψ},_
let abL(h:Q (wr O i (some v)) U):wG T c (.loc i) v O Q X U:=h
let qY(hl:is.length=vs.length)(h:Q (Y6 O is vs) U):wG T c (.tup is) (.tup vs) O Q X U:=#[hl,h]
let ab4(h:wE T c o O (λov xb=>fK xb ov n v λxc=>Q O xc) X U):wG T c (.att o n) v O Q X U:=h
let abz(h:wE T c o O (λov xb=>wE T c i O (λiv xc=>yW xc ov iv v λxf=>Q O xf) X xb) X U):wG T c (.itm o i) v O Q X U:=h
show ∀{T:Tp}{F:Fc}{c:Cx}{O:cZ}{P:PP}{U:Sg}{X:Addr->Ψ}{Q:V->Prop},_
let Yt(h:Q (.int (i+j))):gJ .Add (.int i) (.int j) Q:=h
let YJ(h:Q (.int (i-j))):gJ .Sub (.int i) (.int j) Q:=h
let KJ(hb:i.natAbs<2 ^ 62)(h:Q (.int (i*j))):gJ .Mult (.int i) (.int j) Q:=#[hb,h]
let sJ(hj:0<j/\j<2 ^ 60)(h:Q (.int (i/j))):gJ .FloorDiv (.int i) (.int j) Q:=#[hj,h]
let iR(hj:0<j)(h:Q (.int (i%j))):gJ .Mod (.int i) (.int j) Q:=#[hj,h]
let bf(hl:a.length+b.length<=sizeLine)(h:Q (.str (a++b))):gJ .Add (.str a) (.str b) Q:=#[hl,h]
show ∀{T:Tp}{F:Fc}{c:Cx}{O:cZ}{P:PP}{U:Sg}{X:Addr->Ψ}{Q:Bool->Prop},_
let YX(h:Q false):fU .none U Q:=h
let aaa(h:Q b):fU (.bool b) U Q:=h
let abk(h:Q (decide (i≠0))):fU (.int i) U Q:=h
let abP(h:Q (decide (l≠[]))):fU (.str l) U Q:=h
let abA(h:Q (decide (l≠[]))):fU (.tup l) U Q:=h
let abn(ha:U a=some (.list vs))(h:Q (decide (vs≠[]))):fU (.ref a) U Q:=by unfold fU; show 1; rw[ha]; exact h
let acf(h:Q (decide (a=b))):b8 .Eq (.str a) (.str b) U Q:=h
let abS(h:Q (decide (a≠b))):b8 .NotEq (.str a) (.str b) U Q:=h
let abR(h:Q (decide (a=b))):b8 .Eq (.int a) (.int b) U Q:=h
let acs(h:Q (decide (a≠b))):b8 .NotEq (.int a) (.int b) U Q:=h
let adh(h:Q (decide (a<b))):b8 .Lt (.int a) (.int b) U Q:=h
let ady(h:Q (decide (a<=b))):b8 .LtE (.int a) (.int b) U Q:=h
let adx(h:Q (decide (b<a))):b8 .Gt (.int a) (.int b) U Q:=h
let adi(h:Q (decide (b<=a))):b8 .GtE (.int a) (.int b) U Q:=h
let adS(h:Q (isNone v)):b8 .Is v .none U Q:=by cases v <;> exact h
let Yz(h:Q (!isNone v)):b8 .IsNot v .none U Q:=by cases v <;> exact h
let Kq(ha:U a=some (.list []))(h:Q true):b8 .NotIn (.str x) (.ref a) U Q:=show Ae (U a) _ _ by rw[ha]; exact h
let acz(hl:strsOf vs=some ls)(h:Q (decide (x∈ls))):b8 .In (.str x) (.tup vs) U Q:=show Ih (strsOf vs) _ by rw[hl]; exact h
let RX(hl:strsOf vs=some ls)(h:Q (decide (x∉ls))):b8 .NotIn (.str x) (.tup vs) U Q:=show Ih (strsOf vs) _ by rw[hl]; exact h
let aaT(hl:intsOf vs=some ls)(h:Q (decide (x∈ls))):b8 .In (.int x) (.tup vs) U Q:=show Ih (intsOf vs) _ by rw[hl]; exact h
let aa8(h:Q (decide (x∈l))):b8 .In (.str [x]) (.str l) U Q:=h
let Yy(h:Q (decide (x∉l))):b8 .NotIn (.str [x]) (.str l) U Q:=h
let acw(ha:U a=some (.dict es))(h:Q (lk (Cs x) es).isSome):b8 .In (.str x) (.ref a) U Q:=show dctP (U a) _ by rw[ha]; exact h
let Fv(ha:U a=some (.dict es))(h:Q (!(lk (Cs x) es).isSome)):b8 .NotIn (.str x) (.ref a) U Q:=show Ae (U a) _ _ by rw[ha]; exact h
show ∀{T:Tp}{F:Fc}{c:Cx}{O:cZ}{P:PP}{U:Sg}{X:Addr->Ψ},_
let aD{A B:Prop}(h:b=true)(k:A):if b=true then A else B:=by rw[ad9 h]; exact k
let ao{A B:Prop}(h:b=false)(k:B):if b=true then A else B:=by rw[ad8 (by rw[h]; decide)]; exact k
let lU{A B:Prop}(h:b=false)(k:A):if b=false then A else B:=by rw[ad9 h]; exact k
let uL{A B:Prop}(h:b=true)(k:B):if b=false then A else B:=by rw[ad8 (by rw[h]; decide)]; exact k
let ac2(h:Q (.str (cut l (some a) (some b))) U):lE U (.str l) (.int a) (.int b) Q:=h
let ab7(h:Q (.str (cut l (some a) none)) U):lE U (.str l) (.int a) .none Q:=h
let acn(h:Q (.str (cut l none (some b))) U):lE U (.str l) .none (.int b) Q:=h
let fn_agI(h:Q v U):(PP.fn Q X).ret v O U:=#[U,aO.refl _,h]
let fn_agC(h:Q .none U):(PP.fn Q X).nxt O U:=#[U,aO.refl _,h]
let fn_agL(h:X e U):(PP.fn Q X).exc e O U:=#[U,aO.refl _,h]
show ∀{T:Tp}{c:Cx}{F:Fc}{U:Sg},_
let Fd{j n:Nat}(h:j<n):idx (j:Int) n=some j:=by
 unfold idx
 rw[ad9 ∎]
 simp
let QZ(h:m=n+1):idx (-1) m=some n:=by
 subst h
 unfold idx
 rw[ad8 ∎,ad9 ∎]
 congr 1
 omega
show ∀{T:Tp}{c:Cx}{F:Fc}{U:Sg}{P:V->Prop},_
let N5{j:Nat}(h:vs[j]? = some v)(q:P v):di T U (.tup vs) (.int j) P:=by
 have hj:j<vs.length:=by
  rcases Nat.lt_or_ge j vs.length with z | z
  .exact z
  .rw[adM z]at h; cases h
 unfold di
 show 1
 rw[Fd hj]
 show 1
 rw[h]
 exact q
let it0(q:P a):di T U (.tup (a::vs)) (.int 0) P:=N5 rfl q
let it1(q:P b):di T U (.tup (a::b::vs)) (.int 1) P:=N5 rfl q
let it2{a b c:V}(q:P c):di T U (.tup (a::b::c::vs)) (.int 2) P:=N5 rfl q
let it3{a b c d:V}(q:P d):di T U (.tup (a::b::c::d::vs)) (.int 3) P:=N5 rfl q
let it4{a b c d e:V}(q:P e):di T U (.tup (a::b::c::d::e::vs)) (.int 4) P:=N5 rfl q
let it5{a b c d e f:V}(q:P f):di T U (.tup (a::b::c::d::e::f::vs)) (.int 5) P:=N5 rfl q
let pQ{j:Nat}(ha:U a=some (.list vs))(h:vs[j]? = some v)(q:P v):di T U (.ref a) (.int j) P:=by
 have hj:j<vs.length:=by
  rcases Nat.lt_or_ge j vs.length with z | z
  .exact z
  .rw[adM z]at h; cases h
 unfold di
 show 1
 refine#[vs,.inl ha,?_]
 rw[Fd hj]
 show 1
 rw[h]
 exact q
let adq{j:Nat}(ha:Bf T a vs)(h:vs[j]? = some v)(q:P v):di T U (.ref a) (.int j) P:=by
 unfold di
 show 1
 refine#[vs,.inr ha,?_]
 rw[Fd (Ds h)]
 show 1
 rw[h]
 exact q
let Mz(ha:U a=some (.list (v::vs)))(q:P v):di T U (.ref a) (.int 0) P:=pQ ha rfl q
let oX(ha:U a=some (.list (u::v::vs)))(q:P v):di T U (.ref a) (.int 1) P:=pQ ha rfl q
let Ig(ha:U a=some (.list (u::v::w::vs)))(q:P w):di T U (.ref a) (.int 2) P:=pQ ha rfl q
let aaJ(ha:U a=some (.list (u::v::w::x::vs)))(q:P x):di T U (.ref a) (.int 3) P:=pQ ha rfl q
let LC(ha:U a=some (.list (vs++[v])))(q:P v):di T U (.ref a) (.int (-1)) P:=by
 unfold di
 show 1
 refine#[_,.inl ha,?_]
 rw[QZ (n:=vs.length) (by simp)]
 simpa using q
let uA(ha:U a=some (.dict es))(h:lk (Cs k) es=some v)(q:P v):di T U (.ref a) (.str k) P:=by
 unfold di
 show 1
 rw[ha]
 show 1
 show match lk (Cs k) es with | some v=>P v | none=>False
 rw[h]
 exact q
let fG(ha:U a=some (.inst C d))(hd:U d=some (.dict es))(ht:vB.contains (C,n)=true)(hl:lk n es=some v)(hb:zK v=true)(q:P v):aY U (.ref a) n P:=by
 unfold aY DX
 show 1
 rw[ha]
 show 1
 rw[hd]
 show 1
 rw[hl]
 exact#[by simpa using ht,hb,q]
let oZ(ha:U a=some (.exc C (some d)))(hd:U d=some (.dict es))(ht:Ed.contains (C,n)=true)(hl:lk n es=some v)(hb:zK v=true)(q:P v):aY U (.ref a) n P:=by
 unfold aY DX
 show 1
 rw[ha]
 show 1
 rw[hd]
 show 1
 rw[hl]
 exact#[by simpa using ht,hb,q]
show ∀{T:Tp}{c:Cx}{F:Fc}{U:Sg}{P:Ψ},_
let dF(ha:U a=some (.inst C d))(hd:U d=some (.dict es))(ht:vB.contains (C,n)=true)(hz:es.length<=999)(q:P (U.set d (.dict (up n u es)))):fK U (.ref a) n u P:=by
 unfold fK
 show 1
 rw[ha]
 show 1
 rw[hd]
 exact#[by simpa using ht,hz,q]
let jt(ha:U a=some (.exc C (some d)))(hd:U d=some (.dict es))(ht:Ed.contains (C,n)=true)(hz:es.length<=999)(q:P (U.set d (.dict (up n u es)))):fK U (.ref a) n u P:=by
 unfold fK
 show 1
 rw[ha]
 show 1
 rw[hd]
 exact#[by simpa using ht,hz,q]
let SX(ha:U a=some (.exc C none))(ht:Ed.contains (C,n)=true)(q:∀ d,bD U d->P ((U.set d (.dict [(n,u)])).set a (.exc C (some d)))):fK U (.ref a) n u P:=by
 unfold fK
 show 1
 rw[ha]
 exact#[by simpa using ht,q]
let Ii(hd:U d=some (.dict es))(hz:es.length<=999)(q:P (U.set d (.dict (up (Cs k) v es)))):yW U (.ref d) (.str k) v P:=by
 unfold yW
 show 1
 rw[hd]
 exact#[hz,q]
show ∀{T:Tp}{c:Cx}{F:Fc}{U:Sg},_
let eY(nd:gD F)(nb:bw F)(I:Nat->cZ->Ψ)(h:∀ k O U,I k O U->wT T c t O (λq xb=>if q=true then wSs T F b c O (P.loop λO' U' => ∃ k',k'<k/\I k' O' U') xb else P.nxt O xb) (λe U'=>P.exc e O U') U) :
  ∀(k:Nat) (O:cZ) (U:Sg),I k O U->Gm T F t b c O P U:=by
 intro k
 induction k using Nat.strongRecOn with
 | ind k ih =>
  intro O U hI t' b' h1 h2
  refine GP (((J9 nd nb t h1 (h k O U hI)).mono λq xb z=>?_).gM JB)
  cases q
  .exact#[O,bI.refl _,z]
  .refine(eG nd nb b h2 z).mono #[λm U' #[O',hm,k',hk,q]=>(ih k' hk O' U' q t' b' h1 h2).weak hm,λ_ _ _ z=>z,λ_ _ z=>z,λm U' #[O',hm,k',hk,q]=>(ih k' hk O' U' q t' b' h1 h2).weak hm,λ_ _ _ z=>z]
let gF(nd:gD F)(nb:bw F)(hpl:∀ o n,t ≠ .att o n)(hpi:∀ o i,t ≠ .itm o i)(N)(I:Nat->cZ->Ψ)(hok:∀ i O U,I i O U->src.ok c U)(h:∀ i O U,i<N->I i O U->∃ v,src.item U i=some v/\wG T c t v O (λO1 xb=>wSs T F b c O1 (P.loop (I (i+1))) xb) (λ_ _=>False) U)(he:∀ O U,I N O U->src.item U N=none/\P.nxt O U) :
  ∀(k:Nat) (i:Nat) (O:cZ) (U:Sg),N=i+k->I i O U->mD T F t src i b c O P U:=by
 intro k
 induction k with
 | zero =>
  intro i O U hk hI
  have:N=i:=∎
  subst this
  have#[h1,h2]:=he O U hI
  exists bU nd nb hpl hpi (hok N O U hI)
  rw[h1]
  exact h2
 | succ k ih =>
  intro i O U hk hI t' b' h1 h2
  have#[v,hv,hw]:=h i O U ∎ hI
  exists HR (hok i O U hI)
  rw[hv]
  show 1
  have q:=Mi nd hpl hpi h1 hw
  refine oU.gj q λm' #[O',hm,z]=>?_
  exact((eG nd nb b h2 z).at hm).mono #[λm U' #[O',hm,q]=>(ih (i+1) O' U' ∎ q t' b' h1 h2).weak hm,λ_ _ _ z=>z,λ_ _ z=>z,λm U' #[O',hm,q]=>(ih (i+1) O' U' ∎ q t' b' h1 h2).weak hm,λ_ _ _ z=>z]
open Lean Meta Elab Tactic in show _
letI abe:List (Name×Nat×Name×List Name):=[
 (``wSs,2,``PSs.nil,[``acg]),(``wSs,2,``PSs.cons,[``aae]),
 (``wS,2,``PS.asg,[``abM]),(``wS,2,``PS.sw,[``ac6]),(``wS,2,``PS.aug,[``aa5]),(``wS,2,``PS.augA,[``Zh]),(``wS,2,``PS.exp,[``ab0]),(``wS,2,``PS.ret,[``aaU]),(``wS,2,``PS.retN,[``Z4]),
 (``wS,2,``PS.ife,[``ac5]),(``wS,2,``PS.whl,[``abE]),(``wS,2,``PS.for,[``aca]),(``wS,2,``PS.brk,[``aa6]),(``wS,2,``PS.cnt,[``abw]),(``wS,2,``PS.pas,[``acB]),(``wS,2,``PS.rai,[``abI]),
 (``wS,2,``PS.tryE,[``Z9]),(``wS,2,``PS.tryF,[``Yu]),(``wS,2,``PS.tryEF,[``Wz]),
 (``wE,2,``PE.loc,[``X7]),(``wE,2,``PE.glo,[``abZ]),(``wE,2,``PE.kon,[``abV]),(``wE,2,``PE.bin,[``acF]),(``wE,2,``PE.neg,[``aaI]),(``wE,2,``PE.not,[``abT]),(``wE,2,``PE.cmp,[``abG]),
 (``wE,2,``PE.bo,[``adE]),(``wE,2,``PE.tup,[``abC]),(``wE,2,``PE.lst,[``abY]),(``wE,2,``PE.dct,[``Ze,``abH]),(``wE,2,``PE.att,[``ab1]),(``wE,2,``PE.itm,[``acD]),(``wE,2,``PE.sli,[``acu]),(``wE,2,``PE.sliL,[``Z0]),(``wE,2,``PE.sliH,[``aal]),
 (``wE,2,``PE.call,[``Ys]),(``wE,2,``PE.mth,[``abg]),(``wE,2,``PE.mtc,[``aaK]),
 (``wEs,2,``PEs.nil,[``Yl]),(``wEs,2,``PEs.cons,[``Tz]),(``wKs,2,``PKs.nil,[``acj]),(``wKs,2,``PKs.cons,[``aan]),
 (``wB,3,``PEs.cons,[``b_agF,``b_agG,``b_or]),(``wT,2,``PT.val,[``acd]),(``wT,2,``PT.not,[``aa0]),(``wT,2,``PT.cmp,[``abN]),(``wT,2,``PT.cm2,[``acL]),(``wT,2,``PT.all,[``aaV]),
 (``wA,3,``PTs.nil,[``ZR,``aao]),(``wA,3,``PTs.cons,[``abq,``ade]),
 (``wG,2,``TG.loc,[``abL]),(``wG,2,``TG.att,[``ab4]),(``wG,2,``TG.itm,[``abz]),
 (``gJ,0,``Operator.Add,[``Yt]),(``gJ,0,``Operator.Sub,[``YJ]),
 (``fU,0,``V.bool,[``aaa]),(``fU,0,``V.str,[``abP]),(``fU,0,``V.int,[``abk]),(``fU,0,``V.none,[``YX]),(``fU,0,``V.tup,[``abA]),
 (``b8,0,``CmpOp.Eq,[``acf,``abR]),(``b8,0,``CmpOp.NotEq,[``abS,``acs]),(``b8,0,``CmpOp.Lt,[``adh]),(``b8,0,``CmpOp.LtE,[``ady]),(``b8,0,``CmpOp.Gt,[``adx]),(``b8,0,``CmpOp.GtE,[``adi]),
 (``b8,0,``CmpOp.Is,[``adS]),(``b8,0,``CmpOp.IsNot,[``Yz]),(``b8,0,``CmpOp.In,[``aa8,``acz,``aaT]),(``b8,0,``CmpOp.NotIn,[``Yy,``RX]),
 (``ZV,0,``V.int,[``adu]),(``lE,1,``V.str,[``ac2,``ab7,``acn]),
 (``lE,3,``V.int,[])]
letI natOf?(e:Lean.Expr):Option Nat:=match e with
 | .lit (.natVal n)=>some n
 | _=>if e.isAppOfArity ``OfNat.ofNat 3 then(match e.appFn!.appArg! with | .lit (.natVal n)=>some n | _=>none)else none
letI jh(e:Lean.Expr)(r:Array Lean.Expr := ([].toArray))(fuel:Nat:=300):Option (Array Lean.Expr):=match fuel with
 | 0=>none
 | fuel+1=>if e.isAppOfArity ``List.cons 3 then jh e.appArg! (r.push e.appFn!.appArg!) fuel else if e.isAppOfArity ``List.nil 1 then some r else none
letI jB(fuel:Nat)(e:Lean.Expr):StateM (Std.HashMap Lean.Expr Lean.Expr) Lean.Expr:=match fuel with
 | 0=>pure e
 | fuel+1=>do
 let e:=e.headBeta
 if let some r:=(← get).get? e then return r
 let r ← match e with
  | .lam .. => pure e
  | .forallE .. => pure e
  | .app .. => do
   let f:=e.getAppFn
   let as:=e.getAppArgs
   match f with
   | .const n us =>
    if n == ``PP.mk||n == ``PP.seq||n == ``PP.loop||n == ``PP.fin||n == ``PP.out then pure e
    else do
     let as ← as.mapM (jB fuel)
     let put (O:Array Lean.Expr) (i:Nat) (v:Lean.Expr):Array Lean.Expr :=
      let O:=O++Array.replicate (i+1-O.size) (mkApp (mkConst ``Option.none [0]) (mkConst ``V))
      O.set! i v
     let mk (O:Array Lean.Expr):Lean.Expr :=
      let ty:=mkApp (mkConst ``Option [0]) (mkConst ``V)
      O.foldr (λx r=>mkApp3 (mkConst ``List.cons [0]) ty x r) (mkApp (mkConst ``List.nil [0]) ty)
     if n == ``wr&&as.size==3 then
      match jh as[0]!,natOf? as[1]! with
      | some O,some i=>pure (mk (put O i as[2]!))
      | _,_=>pure (mkAppN f as)
     else if n == ``Y6&&as.size==3 then
      match jh as[0]!,jh as[1]!,jh as[2]! with
      | some O,some is,some vs =>
       if is.size==vs.size&&is.all (λi=>(natOf? i).isSome)then
        pure (mk ((is.zip vs).foldl (λO (i,v)=>put O ((natOf? i).getD 0) (mkApp2 (mkConst ``Option.some [0]) (mkConst ``V) v)) O))
       else pure (mkAppN f as)
      | _,_,_=>pure (mkAppN f as)
     else if n == ``up&&as.size==4&&as[1]!.isConst then
      match jh as[3]! with
      | some es =>
       if es.all (λp=>p.isAppOfArity ``Prod.mk 4&&p.appFn!.appArg!.isConst)then
        let key (p:Lean.Expr):Lean.Expr:=p.appFn!.appArg!
        let es':=match es.findIdx? (λp=>key p==as[1]!)with
         | some i=>es.set! i (mkApp (es[i]!.appFn!) as[2]!)
         | none=>es.push (mkApp4 (mkConst ``Prod.mk [0,0]) (mkConst ``Str) (mkConst ``V) as[1]! as[2]!)
        let ty:=mkApp2 (mkConst ``Prod [0,0]) (mkConst ``Str) (mkConst ``V)
        pure (es'.foldr (λx r=>mkApp3 (mkConst ``List.cons [0]) ty x r) (mkApp (mkConst ``List.nil [0]) ty))
       else pure (mkAppN f as)
      | none=>pure (mkAppN f as)
     else if n == ``HAppend.hAppend&&as.size==6&&as[5]!.isAppOfArity ``List.replicate 3 then
      match jh as[4]!,natOf? (as[5]!.appFn!.appArg!)with
      | some O,some k=>pure (mk (O++Array.replicate k as[5]!.appArg!))
      | _,_=>pure (mkAppN f as)
     else if n == ``List.map&&as.size==4&&(as[2]!.isAppOfArity ``Option.some 1)then
      match jh as[3]! with
      | some vs=>pure (mk (vs.map λv=>mkApp2 (mkConst ``Option.some [0]) (mkConst ``V) v))
      | none=>pure (mkAppN f as)
     else pure (mkAppN f as)
   | .lam .. => jB fuel e.headBeta
   | f=>do pure (mkAppN (← jB fuel f) (← as.mapM (jB fuel)))
  | .mdata _ b=>jB fuel b
  | .letE n t v b nd=>do pure (.letE n (← jB fuel t) (← jB fuel v) (← jB fuel b) nd)
  | .proj s i b=>do pure (.proj s i (← jB fuel b))
  | e=>pure e
 modify (·.insert e r)
 return r
letI qF(e:Lean.Expr)(fuel:Nat:=5):Option Bool:=match fuel with
 | 0=>none
 | fuel+1 =>
  if e.isConstOf ``true then some true else if e.isConstOf ``false then some false
  else if e.isAppOfArity ``Bool.not 1||e.isAppOfArity ``not 1 then(qF e.appArg! fuel).map (!·)
  else if e.isAppOfArity ``isNone 1 then(match e.appArg!.getAppFn with | .const n _=>if n == ``V.none then some true else if(`Mine.V).isPrefixOf n then some false else none | _=>none)
  else none
letI acb(n:Name)(t:Lean.Expr):MetaM (Option Lean.Expr):=do
 let c ← mkConstWithFreshMVarLevels n
 let(ms,_,concl) ← forallMetaTelescopeReducing (← inferType c)
 unless ← withReducible (isDefEq concl t) do return none
 let k:=ms.size-1
 for m in ms.extract 0 k do
  if let some (_,a,b):=(← instantiateMVars (← inferType m)).eq? then
   unless ← m.mvarId!.isAssigned do
    unless ← isDefEq a b do return none
 return some (← instantiateMVars (← inferType ms[k]!))
letI Wr:List Name:=[``PP.seq,``PP.loop,``PP.fin,``PP.out]
letI goT(stop ev:Bool)(fuel:Nat)(t:Lean.Expr):MetaM Lean.Expr:=match fuel with
 | 0=>pure t
 | fuel+1=>do
 let t:=(jB 100000 t).run' {} |>.run
 let f:=t.getAppFn
 let as:=t.getAppArgs
 match f with
 | .const n _ =>
  if(← isMatcherApp t)then
   let t' ← whnfCore t
   if t'==t then return t else goT stop ev fuel t'
  else if n == ``wSs&&as.size > 2 && !as[2]!.isAppOf ``PSs.cons && !as[2]!.isAppOf ``PSs.nil then
   let b ← whnfCore as[2]!
   if b==as[2]! then return t else goT stop ev fuel (mkAppN f (as.set! 2 b))
  else if stop&&n == ``wSs&&as.size > 2&&as[2]!.isAppOf ``PSs.cons then return t
  else if(n == ``PP.nxt||n == ``PP.ret||n == ``PP.brk||n == ``PP.cnt||n == ``PP.exc)&&as.size ≥ 1 then
   let X0:=(match as[0]! with | .letE _ _ v b _=>b.instantiate1 v | .mdata _ b=>b | b=>b)
   let X ← (do if Wr.any (λm=>X0.isAppOf m)then pure ((← unfoldDefinition? X0).getD X0)else pure X0)
   if X.isAppOfArity ``PP.mk 5 then
    let k:=if n == ``PP.nxt then 0 else if n == ``PP.ret then 1 else if n == ``PP.brk then 2 else if n == ``PP.cnt then 3 else 4
    goT stop ev fuel (mkAppN X.getAppArgs[k]! (as.extract 1 as.size))
   else return t
  else if n == ``ite&&as.size==5 then
   match as[1]!.eq? with
   | some (ty,a,b) =>
    let va ← (do match qF a with
     | some x=>pure (some x)
     | none=>if ev && !a.hasMVar then pure (qF (← whnfD a))else pure none)
    match va,qF b with
    | some a,some b=>goT stop ev fuel (if a==b then as[3]! else as[4]!)
    | _,_=>return t
   | none=>return t
  else if n == ``Not then return t
  else
   for (h,k,s,rs) in abe do
    if h==n&&as.size > k then
     if as[k]!.getAppFn.isConstOf s then
      for r in rs do
       if(← getEnv).contains r then
        let s ← saveState
        if let some t' ← acb r t then return(← goT stop ev fuel t')
        s.restore
   return t
 | _=>return t
letI goL(must stop ev:Bool)(fuel:Nat):TacticM Unit:=match fuel with
 | 0=>pure ()
 | fuel+1=>do
 let g ← getMainGoal
 let t ← g.withContext do instantiateMVars (← g.getType)
 let t' ← g.withContext do goT stop ev 10000 t
 if must&&t'==t then throwError "go: no step"
 let g' ← g.withContext do mkFreshExprSyntheticOpaqueMVar t' (← g.getTag)
 g.assign g'
 replaceMainGoal [g'.mvarId!]
 if t'.isAppOf ``wE&&(t'.getArg! 2).isAppOf ``PE.ife then
  evalTactic (← `(tactic| with_reducible refine abJ ?_))
  goL false stop ev fuel
 else if t'.isAppOf ``wG&&(t'.getArg! 2).isAppOf ``TG.tup&&(t'.getArg! 3).isAppOf ``V.tup then
  evalTactic (← `(tactic| with_reducible refine qY rfl ?_))
  goL false stop ev fuel
letI Yi(must:Bool:=false)(stop:Bool:=false)(ev:Bool:=false):TacticM Unit:=goL must stop ev 1000
show ∀{T:Tp}{c:Cx}{X:Addr->Ψ}{U:Sg}{Q:V->Ψ}{n:Nat}{hd:Option Addr},_
have pos(t r:LN):Int:=(t.length:Int)-r.length
let Uz(h:r<:+t):pos t r=((t.length-r.length:Nat):Int):=(Int.ofNat_sub h.length_le).symm
let bA{c:Nat}:pos t (c::r)+1=pos t r:=by simp[pos]; omega
let rK:pos t []=t.length:=by simp[pos]
let mK:pos t t=0:=by simp[pos]
let Lg(h:r<:+t):0<=pos t r:=Int.sub_nonneg_of_le (Int.ofNat_le.mpr h.length_le)
let cL:decide (pos t r<(t.length:Int)) = !r.isEmpty:=by
 cases r with
 | nil=>simp[pos]
 | cons a r=>exact aaB (by unfold pos; rw[aaE]; omega)
let tL:decide ((t.length:Int)<=pos t r)=r.isEmpty:=by
 cases r with
 | nil=>simp[pos]
 | cons a r=>exact aaA (by unfold pos; rw[aaE]; omega)
let bC{c:Nat}(h:(c::r)<:+t):r<:+t:=(acU c r).trans h
let yz{t r:LN}(h:r<:+t):t.drop (t.length-r.length)=r:=by
 have#[p,rfl]:=h
 simp
let WM(h:r<:+t):(pos t r).toNat=t.length-r.length:=congrArg Int.toNat (Uz h)
let aC(h:(ch::r)<:+t)(q:P (.str [ch])):di T U (.str t) (.int (pos t (ch::r))) P:=by
 have h0:=Lg h
 have h1:=WM h
 have h2:t[(pos t (ch::r)).toNat]? = some ch:=by
  rw[h1]
  have:=congrArg List.head? (yz h)
  simpa [List.head?_drop]using this
 unfold di
 show 1
 rw[h2]
 exact#[h0,q]
let jJ(h:r<:+t):clipAt t.length (pos t r)=t.length-r.length :=
 (congrArg (clipAt t.length) (Uz h)).trans ((clipAt_nat ..).trans (Nat.min_eq_left (Nat.sub_le ..)))
let Q8(h:r<:+t)(k:Nat):clipAt t.length (pos t r+(k:Int))=min t.length (t.length-r.length+k) :=
 (congrArg (λx=>clipAt t.length (x+(k:Int))) (Uz h)).trans ((clipAt_nat t.length (t.length-r.length+k)).trans (Nat.min_comm ..))
let qK(h:r<:+t)(k:Nat):cut t (some (pos t r)) (some (pos t r+(k:Int)))=r.take k:=by
 have e:cut t (some (pos t r)) (some (pos t r+(k:Int)))=(t.drop (t.length-r.length)).take (min t.length (t.length-r.length+k)-(t.length-r.length)):=by
  show(t.drop (clipAt _ _)).take (clipAt _ _-clipAt _ _)=_
  rw[jJ h,Q8 h]
 rw[e,yz h]
 by_cases q:k<=r.length
 .congr 1; have:=h.length_le; omega
 .rw[List.take_of_length_le (by have:=h.length_le; omega),List.take_of_length_le ∎]
let gP(h:r<:+t)(h':r'<:+r):cut t (some (pos t r)) (some (pos t r'))=r.take (r.length-r'.length):=by
 have e:cut t (some (pos t r)) (some (pos t r'))=(t.drop (t.length-r.length)).take (t.length-r'.length-(t.length-r.length)):=by
  show(t.drop (clipAt _ _)).take (clipAt _ _-clipAt _ _)=_
  rw[jJ h,jJ (h'.trans h)]
 rw[e,yz h]
 have:=h.length_le
 have:=h'.length_le
 congr 1; omega
let Up(h:(ch::r)<:+t):cut t (some (pos t (ch::r))) (some (pos t (ch::r)+1))=[ch]:=by
 have:=qK h 1
 simpa using this
let S9:cut t (some (pos t [])) (some (pos t []+1))=[]:=by
 have:=qK (t:=t) (List.nil_suffix) 1
 simpa using this
let Zx(h:r<:+t):cut t (some (pos t r)) (some (pos t r+2))=r.take 2:=qK h 2
let ac8(h:r<:+t):cut t (some (pos t r)) (some (pos t r+3))=r.take 3:=qK h 3
let len_str(h:Q (.int l.length) U):aj T c (.bi "len") [.str l] Q X U:=J2 h
let MK(h:Q (.int l.length) U):aj T c (.bi "len") [.tup l] Q X U:=J2 h
let aQ(ha:U a=some (.list l))(h:Q (.int l.length) U):aj T c (.bi "len") [.ref a] Q X U:=J2 (by unfold aar; show 1; rw[ha]; exact h)
let Vx(e:a=b)(h:Q (.int a) U):(PP.fn Q X).ret (.int b) O U:=by subst e; exact fn_agI h
let adT(e:a=b)(h:Q (.bool a) U):(PP.fn Q X).ret (.bool b) O U:=by subst e; exact fn_agI h
let ab6{c:Nat}{l:LN}:[c]∈l.map (λx=>[x])↔c∈l:=#[λh=>by have#[a,m,e]:=adw.mp h; cases e; exact m,λh=>adw.mpr #[c,h,rfl]]
let z9{c:Nat}(h:Q (.bool (Rk c)) U):aj T #[n+1,hd] (.ref 272) [.str [c]] Q X U:=by
 (refine(cu Ut (fm 24) rfl λF nd nb=>?_).call;unfold b_agk;show 11)
 exists fn_agI
 exact(congrArg (λb=>Q (.bool b) U) (decide_eq_decide.mpr (ab6 (l:=[32,9,11,12,13])))).mpr h
let yd{c:Nat}(h:Q (.bool (du c)) U):aj T #[n+1,hd] (.ref 202) [.str [c]] Q X U:=by
 (refine(cu Lp (fm 14) rfl λF nd nb=>?_).call;unfold b_afQ;show 11)
 exists fn_agI
 exact(congrArg (λb=>Q (.bool b) U) (decide_eq_decide.mpr (ab6 (l:=[32,9,10,11,12,13])))).mpr h
let Ub{A B:Prop}{a b n:Nat}(h:a<=n/\n<=b)(k:A):if decide ((a:Int)<=n)=true then(if decide ((n:Int)<=b)=true then A else B)else B :=
 (ad9 (aaB (Int.ofNat_le.mpr h.1))).mpr ((ad9 (aaB (Int.ofNat_le.mpr h.2))).mpr k)
let Vc{A B:Prop}{a b n:Nat}(h:¬(a<=n/\n<=b))(k:B):if decide ((a:Int)<=n)=true then(if decide ((n:Int)<=b)=true then A else B)else B:=by
 split
 .rename_i h1
  exact(ad8 λh2=>h #[Int.ofNat_le.mp (aaD h1),Int.ofNat_le.mp (aaD h2)]).mpr k
 .exact k
let M3(h:Q (.int (Dq ch)) U):aj T #[n+1,hd] (.ref 209) [.str [ch]] Q X U:=by
 (refine(cu WX (fm 15) rfl λF nd nb=>?_).call;unfold b_agu;show 11)
 (refine len_str ?_;show 11)
 (refine ao rfl ?_;show 11)
 (refine Zw ?_;show 11)
 by_cases c1:48<=ch/\ch<=57
 .skip;(refine Ub c1 ?_;show 11)
  exact Vx (ad9 c1) h
 (refine Vc c1 ?_;show 11)
 by_cases c2:97<=ch/\ch<=122
 .skip;(refine Ub c2 ?_;show 11)
  exact Vx ((ad8 c1).trans (ad9 c2)) h
 (refine Vc c2 ?_;show 11)
 by_cases c3:65<=ch/\ch<=90
 .skip;(refine Ub c3 ?_;show 11)
  exact Vx ((ad8 c1).trans ((ad8 c2).trans (ad9 c3))) h
 (refine Vc c3 ?_;show 11)
 exact Vx ((ad8 c1).trans ((ad8 c2).trans (ad8 c3))) h
let gn:∀ r,cG r<:+r
 | []=>acQ _
 | c::r=>by
  unfold cG
  split
  .exact(gn r).trans (acU c r)
  .exact acQ _
let JQ{c:Nat}(hb:92∉t)(h:(c::r)<:+t):c≠92:=λe=>hb (h.subset (by rw[e]; exact .head _))
let zU{c:Nat}(h:c≠a):decide ((c::r).take 2=[a,b])=false:=by
 refine aaA λe=>h ?_
 have:=congrArg List.head? e
 simpa using this
let Ek(nd:gD F)(nb:bw F)(hb:92∉t):∀(r:LN),r<:+t->Q (.int (pos t (cG r))) U ->
  wSs T F b_afy #[n+1,hd] [some (.str t),some (.int (pos t r))] (PP.fn Q X) U:=by
 intro r
 unfold b_afy
 induction r with
 | nil =>
  intro hr h
  show 11
  (refine bT nd nb ?_;show 11)
  (refine len_str ?_;show 11)
  (refine ao (by rw[cL]; rfl) ?_;show 11)
  exact fn_agI h
 | cons ch r ih =>
  intro hr h
  show 11
  (refine bT nd nb ?_;show 11)
  (refine len_str ?_;show 11)
  (refine aD (by rw[cL]; rfl) ?_;show 11)
  (refine aC hr ?_;show 11)
  (refine z9 ?_;show 11)
  unfold cG at h
  by_cases g:Rk ch=true
  .rw[ad9 g]at h
   (refine aD g ?_;show 11)
   rw[bA]
   have:=ih (bC hr) h
   exact this
  .rw[ad8 g]at h
   (refine ao (by simpa using g) ?_;show 11)
   (refine ao (by rw[Zx hr]; exact zU (JQ hb hr)) ?_;show 11)
   exact fn_agI h
let jq(hb:92∉t)(hr:r<:+t)(h:Q (.int (pos t (cG r))) U):aj T #[n+2,hd] (.ref 279) [.str t,.int (pos t r)] Q X U :=
 (cu Hz (fm 25) rfl λF nd nb=>Ek nd nb hb r hr h).call
let d7:∀ r,bL r<:+r
 | []=>acQ _
 | c::r=>by
  unfold bL
  split
  .exact acU c r
  .exact(d7 r).trans (acU c r)
let eq1{a b:Nat}:decide ([a]=[b])=decide (a=b):=by simp
let Ji(nd:gD F)(nb:bw F)(hb:92∉t)(hP:P=PP.fn Q X):∀(r:LN),r<:+t->Q (.int (pos t (bL r))) U ->
  wSs T F b_aeL #[n,hd] [some (.str t),some (.int (pos t r))] P U:=by
 intro r
 unfold b_aeL
 intro hr h
 show 11
 (refine len_str ?_;show 11)
 subst hP
 induction r with
 | nil =>
  (refine bT nd nb ?_;show 11)
  (refine ao (by rw[cL]; rfl) ?_;show 11)
  exact fn_agI (by rw[← rK]; exact h)
 | cons ch r ih =>
  (refine bT nd nb ?_;show 11)
  (refine aD (by rw[cL]; rfl) ?_;show 11)
  (refine aC hr ?_;show 11)
  (refine ao (by rw[eq1]; exact aaA (JQ hb hr)) ?_;show 11)
  (refine aC hr ?_;show 11)
  unfold bL at h
  by_cases g:ch=10
  .rw[ad9 g]at h
   (refine aD (by rw[eq1]; simpa using g) ?_;show 11)
   rw[bA]
   exact fn_agI h
  .rw[ad8 g]at h
   (refine ao (by rw[eq1]; simpa using g) ?_;show 11)
   rw[bA]
   exact ih (bC hr) h
let rR(hb:92∉t)(hr:r<:+t)(h:Q (.int (pos t (bL r))) U):aj T #[n+1,hd] (.ref 286) [.str t,.int (pos t r)] Q X U :=
 (cu tR (fm 26) rfl λF nd nb=>Ji nd nb hb rfl r hr h).call
let cI:∀(n:Nat) (r:LN),aA n r<:+r
 | 0,r=>acQ _
 | n+1,r=>by
  unfold aA
  have q:=gn r
  split
  .exact List.nil_suffix
  .rename_i c r' e
   rw[e]at q
   have q':=(acU c r').trans q
   split
   .exact(cI n _).trans ((d7 r').trans q')
   .split
    .exact(cI n _).trans q'
    .exact q
let Dg(r):(cG r).length<=r.length:=(gn r).length_le
let Fw(r):(bL r).length<=r.length:=(d7 r).length_le
let HQ(nd:gD F)(nb:bw F)(hb:92∉t):∀(k:Nat) (r:LN),r.length<k->r<:+t->Q (.int (pos t (aA k r))) U ->
  wSs T F b_aeG #[n+2,hd] [some (.str t),some (.int (pos t r))] (PP.fn Q X) U:=by
 intro k r hk hr h
 unfold b_aeG
 show 11
 (refine jq hb hr ?_;show 11)
 induction k generalizing r with
 | zero=>omega
 | succ k ih =>
  have hg:=Dg r
  have hs:=(gn r).trans hr
  unfold aA at h
  exists bT nd nb
  cases e:cG r with
  | nil =>
   rw[e]at h
   show 11
   (refine ao (by rw[S9]; decide) ?_;show 11)
   exact fn_agI h
  | cons ch r' =>
   rw[e]at h hg hs
   dsimp only at h
   show 11
   by_cases c1:ch=35
   .subst c1
    (refine aD (by rw[Up hs]; decide) ?_;show 11)
    (refine aC hs ?_;show 11)
    (refine rR hb hs ?_;show 11)
    have e2:bL (35::r')=bL r':=by simp[bL]
    rw[e2]
    have hl:=Fw r'
    simp only[aaE]at hg
    (refine jq hb ((d7 r').trans (bC hs)) ?_;show 11)
    exact ih (bL r') ∎ ((d7 r').trans (bC hs)) (by simpa using h)
   .rw[ad8 c1]at h
    by_cases c2:ch=10∨ch=59
    .rw[ad9 c2]at h
     (refine aD (by rw[Up hs]; rcases c2 with rfl | rfl <;> decide) ?_;show 11)
     (refine aC hs ?_;show 11)
     (refine ao (by rw[eq1]; simpa using c1) ?_;show 11)
     rw[bA]
     simp only[aaE]at hg
     (refine jq hb (bC hs) ?_;show 11)
     exact ih r' ∎ (bC hs) h
    .rw[ad8 c2]at h
     (refine ao (by rw[Up hs]; simp at c2 ⊢; omega) ?_;show 11)
     exact fn_agI h
let dC(hb:92∉t)(hr:r<:+t)(hk:r.length<k)(h:Q (.int (pos t (aA k r))) U):aj T #[n+3,hd] (.ref 293) [.str t,.int (pos t r)] Q X U :=
 (cu rN (fm 27) rfl λF nd nb=>HQ nd nb hb k r hk hr h).call
let iC:∀ r,fY r<:+r
 | []=>acQ _
 | c::r=>by
  unfold fY
  split
  .exact(iC r).trans (acU c r)
  .exact acQ _
let FP(nd:gD F)(nb:bw F)(hb:58∉t):∀(r:LN),r<:+t->Q (.int (pos t (fY r))) U ->
  wSs T F b_afw #[n+1,hd] [some (.str t),some (.int (pos t r))] (PP.fn Q X) U:=by
 intro r
 unfold b_afw
 intro hr h
 show 11
 induction r with
 | nil =>
  (refine bT nd nb ?_;show 11)
  (refine len_str ?_;show 11)
  (refine ao (by rw[cL]; rfl) ?_;show 11)
  exact fn_agI h
 | cons ch r ih =>
  (refine bT nd nb ?_;show 11)
  (refine len_str ?_;show 11)
  (refine aD (by rw[cL]; rfl) ?_;show 11)
  (refine aC hr ?_;show 11)
  unfold fY at h
  by_cases c1:ch=95
  .rw[ad9 (by simp[De,c1])]at h
   exists uL (by rw[eq1]; simpa using c1)
   rw[eq1]
   (refine aD (by simpa using c1) ?_;show 11)
   rw[bA]
   exact ih (bC hr) h
  .skip;(refine lU (by rw[eq1]; simpa using c1) ?_;show 11)
   (refine aC hr ?_;show 11)
   (refine M3 ?_;show 11)
   by_cases c2:0<=Dq ch
   .rw[ad9 (by simp[De,c2])]at h
    exists uL (by simpa using c2)
    (refine aD (by simpa using c2) ?_;show 11)
    rw[bA]
    exact ih (bC hr) h
   .rw[ad8 (by simp[De,c1,c2])]at h
    (refine lU (by simpa using c2) ?_;show 11)
    (refine ao (by rw[Zx hr]; exact zU λe=>hb (hr.subset (by rw[e]; exact .head _))) ?_;show 11)
    exact fn_agI h
let Gi(hb:58∉t)(hr:r<:+t)(h:Q (.int (pos t (fY r))) U):aj T #[n+2,hd] (.ref 300) [.str t,.int (pos t r)] Q X U :=
 (cu G4 (fm 28) rfl λF nd nb=>FP nd nb hb r hr h).call
let toLm_pad:∀(nm:xj) (O:cZ) (k:Nat),toLm nm (O++List.replicate k none)=toLm nm O
 | [],O,k=>by cases O <;> cases k <;> rfl
 | (x,kk)::nm,[],0=>rfl
 | (x,kk)::nm,[],k+1=>by
  show toLm nm (List.replicate k none)=[]
  have:=toLm_pad nm [] k
  rw[List.nil_append]at this
  rw[this]
  cases nm <;> rfl
 | (x,kk)::nm,none::O,k=>toLm_pad nm O k
 | (x,kk)::nm,some v::O,k=>by show(x,v)::toLm nm (O++_)=_; rw[toLm_pad nm O k]; rfl
let aG(k)(K:aB D N b)(hf:(f,q,D,none)∈gh)(hl:N=vs.length)(h:∀ F,gD F->bw F->wSs T F b #[n,hd] (vs.map some++List.replicate k none) (PP.fn Q X) U):gR T #[n+1,hd] (.ref f) vs Q X U:=by
 have#[ps,rfl,K]:=K
 refine code_def hf K.plain K.scope K.nodup hl λcd=>?_
 have qq:=eG (F:=qR D q f cd) K.nd K.nb b K.Dc (h _ K.nd K.nb)
 have e:toLm (names (qR D q f cd)) (vs.map some++List.replicate k none)=ps.zip vs:=by
  rw[toLm_pad]
  show toLm D.scope.names (vs.map some)=_
  rw[toLm_zip,iJ,← hl,K.pre]
 rw[e]at qq
 exact qq.mono #[λm U #[_,_,z]=>z,λv m U #[_,_,z]=>z,λm U #[_,_,z]=>z,λm U #[_,_,z]=>z,λv m U #[_,_,z]=>z]
let fB(k)(K:aB D N b)(hf:(f,q,D,some t)∈gh)(ht:(t,ds)∈qi)(hl:ds.length<=N)(hv:vs.length<=N)(hge:N<=vs.length+ds.length)(h:∀ F,gD F->bw F->wSs T F b #[n,hd] ((bO N vs ds).map some++List.replicate k none) (PP.fn Q X) U):gR T #[n+1,hd] (.ref f) vs Q X U:=by
 have#[ps,rfl,K]:=K
 refine CQ hf ht K.plain K.scope K.nodup hl hv hge λcd=>?_
 have qq:=eG (F:=qR D q f cd) K.nd K.nb b K.Dc (h _ K.nd K.nb)
 have e:toLm (names (qR D q f cd)) ((bO ps.length vs ds).map some++List.replicate k none)=ps.zip (bO ps.length vs ds):=by
  rw[toLm_pad]
  show toLm D.scope.names _=_
  have hz:(bO ps.length vs ds).length=ps.length:=by unfold bO; rw[aaG,List.length_drop]; omega
  rw[toLm_zip,iJ,hz,K.pre]
 rw[e]at qq
 exact qq.mono #[λm U #[_,_,z]=>z,λv m U #[_,_,z]=>z,λm U #[_,_,z]=>z,λm U #[_,_,z]=>z,λv m U #[_,_,z]=>z]
show ∀{T:Tp}{c:Cx}{X:Addr->Ψ}{U:Sg}{Q:V->Ψ}{n:Nat}{hd:Option Addr}{P:V->List V->Prop}{l:LN}{a:Addr}{vs:List V}{es:List (Str×V)},_
let NZ:lC n_join=some "str.join":=⋯
let Ld:lC n_split=some "str.split":=⋯
let Ot:lC n_find=some "str.find":=⋯
let Bl:lC n_endswith=some "str.endswith":=⋯
let Ja:j6 n_append=some "list.append":=⋯
let Hf:j6 n_extend=some "list.extend":=⋯
let JS:j6 n_index=some "list.index":=⋯
let Ve:rz n_pop=some "dict.pop":=⋯
let lH(h:P (.bi "str.join") [.str l]):MethP U (.str l) n_join P:=by unfold MethP; rw[NZ]; exact h
let m_split(h:P (.bi "str.split") [.str l]):MethP U (.str l) n_split P:=by unfold MethP; rw[Ld]; exact h
let m_find(h:P (.bi "str.find") [.str l]):MethP U (.str l) n_find P:=by unfold MethP; rw[Ot]; exact h
let m_endswith(h:P (.bi "str.endswith") [.str l]):MethP U (.str l) n_endswith P:=by unfold MethP; rw[Bl]; exact h
let aN(ha:U a=some (.list vs))(h:P (.bi "list.append") [.ref a]):MethP U (.ref a) n_append P:=by unfold MethP; show 1; rw[ha]; show 1; rw[Ja]; exact h
let Rn(ha:U a=some (.list vs))(h:P (.bi "list.extend") [.ref a]):MethP U (.ref a) n_extend P:=by unfold MethP; show 1; rw[ha]; show 1; rw[Hf]; exact h
let VD(ha:U a=some (.list vs))(h:P (.bi "list.index") [.ref a]):MethP U (.ref a) n_index P:=by unfold MethP; show 1; rw[ha]; show 1; rw[JS]; exact h
let X6(ha:U a=some (.dict es))(h:P (.bi "dict.pop") [.ref a]):MethP U (.ref a) n_pop P:=by unfold MethP; show 1; rw[ha]; show 1; rw[Ve]; exact h
show ∀{T:Tp}{c:Cx}{X:Addr->Ψ}{U:Sg}{Q:V->Ψ}{n:Nat}{hd:Option Addr},_
let Sg.set_set(U:Sg)(a)(x y):(U.set a x).set a y=U.set a y:=by
 funext b
 unfold Sg.set
 by_cases e:b=a <;> simp[e]
let bx(f:bD U a):aO U (U.set a x):=λb c h=>by rw[Sg.aa _ _ (f.ne h)]; exact h
let fn_agB(s:aO U U')(h:Q v U):(PP.fn Q X).ret v O U':=#[U,s,h]
have g8:LN->LN
 | []=>[]
 | c::r=>if c=123∨c=125∨c=92 then c::r else g8 r
let pM:∀ r,g8 r<:+r
 | []=>acQ _
 | c::r=>by
  unfold g8
  split
  .exact acQ _
  .exact(pM r).trans (acU c r)
let o6:∀(d:Nat) (r:LN),92∉r->bV d (g8 r)=bV d r
 | d,[],_=>rfl
 | d,c::r,h=>by
  unfold g8
  split
  .rfl
  .rename_i q
   rw[o6 d r λz=>h (.tail _ z)]
   conv=>rhs; unfold bV
   rw[ad8 (λz=>q (.inl z)),ad8 (λz=>q (.inr (.inl z)))]
let jr:∀{d:Nat} {r r':LN},bV d r=some r'->(125::r')<:+r
 | _,[],_,h=>by cases h
 | d,c::r,r',h=>by
  unfold bV at h
  show 2
  .exact(jr h).trans (acU c r)
  .show 2
   .rename_i q
    show 2
    .cases h; subst q; exact acQ _
    .exact(jr h).trans (acU c r)
   .exact(jr h).trans (acU c r)
let Pq(nd:gD F)(nb:bw F):∀(r:LN),r<:+t->P.nxt [some (.str t),v1,some (.int t.length),v3,some (.int (pos t (g8 r))),v5,v6,v7,v8] U ->
  Gm T F (.all .And (.cons (.cmp .Lt (.loc 4) (.loc 2)) (.cons (.cmp .NotIn (.itm (.loc 0) (.loc 4)) (.kon (.str [123,125,92]))) .nil))) (.cons (.aug 4 .Add (.kon (.int 1))) .nil) #[n,hd]
   [some (.str t),v1,some (.int t.length),v3,some (.int (pos t r)),v5,v6,v7,v8] P U:=by
 intro r
 induction r with
 | nil =>
  intro hr h
  (refine bT nd nb ?_;show 11)
  rw[cL]
  exact h
 | cons ch r ih =>
  intro hr h
  (refine bT nd nb ?_;show 11)
  (refine aD (by rw[cL]; rfl) ?_;show 11)
  (refine aC hr ?_;show 11)
  unfold g8 at h
  by_cases c1:ch=123∨ch=125∨ch=92
  .rw[ad9 c1]at h
   exists ao (by simp; omega)
   exists ao (by simp; omega)
   exact h
  .rw[ad8 c1]at h
   (refine aD (by simp; omega) ?_;show 11)
   rw[bA]
   exact ih (bC hr) h
let aaZ(hb:92∉t)(h:r<:+t):92∉r:=λz=>hb (h.subset z)
let Oi(nd:gD F)(nb:bw F)(hb:92∉t)(hz:t.length<=100000)(hr0:r0<:+t)(h:Q (.tup [.str (r0.take (r0.length-(r'.length+1))),.int (pos t r')]) U):∀(k:Nat) (r:LN) (d:Nat),r.length<k->r<:+r0->0<d->bV d r=some r' ->
  Gm T F (.cmp .Lt (.loc 4) (.loc 2)) (match b_agl with | .cons _ (.cons _ (.cons _ (.cons _ (.cons _ (.cons (.whl _ b) _)))))=>b | _=>.nil) #[n,hd]
   [some (.str t),v1,some (.int t.length),some (.int (pos t r0)),some (.int (pos t r)),some (.str []),some (.int d),v7,v8] { (PP.fn Q X)with nxt:=λO1 xb=>wSs T F (match b_agl with | .cons _ (.cons _ (.cons _ (.cons _ (.cons _ (.cons _ s)))))=>s | _=>.nil) #[n,hd] O1 (PP.fn Q X) xb } U:=by
 intro k
 unfold b_agl
 show 1
 induction k with
 | zero=>intro r d hk; omega
 | succ k ih =>
  intro r d hk hr hd' hq
  have hrt:=hr.trans hr0
  exists bT nd nb
  cases r with
  | nil=>simp[bV]at hq
  | cons ch r =>
   show 11
   (refine aD (by rw[cL]; rfl) ?_;show 11)
   (refine aC hrt ?_;show 11)
   simp only[aaE]at hk
   by_cases c1:ch=123
   .unfold bV at hq
    rw[ad9 c1]at hq
    (refine aD (by rw[eq1]; simpa using c1) ?_;show 11)
    rw[bA]
    exact ih r (d+1) ∎ (bC hr) ∎ hq
   .skip;(refine ao (by rw[eq1]; simpa using c1) ?_;show 11)
    (refine aC hrt ?_;show 11)
    by_cases c2:ch=125
    .unfold bV at hq
     rw[ad8 c1,ad9 c2]at hq
     (refine aD (by rw[eq1]; simpa using c2) ?_;show 11)
     rw[bA]
     by_cases c3:d=1
     .rw[ad9 c3]at hq
      cases hq
      subst c3
      (refine aD (by simp) ?_;show 11)
      subst c2
      have e1:pos t r'-1=pos t (125::r'):=by rw[← bA (c:=125)]; omega
      rw[e1,gP hr0 hr]
      exists bf ?_
      .have:=hr0.length_le; rw[acM]; simp; omega
      .show 11
       exact fn_agI (by simpa using h)
     .rw[ad8 c3]at hq
      (refine ao (by simp; omega) ?_;show 11)
      have e2:(d:Int)-1=((d-1:Nat):Int):=∎
      rw[e2]
      exact ih r (d-1) ∎ (bC hr) ∎ hq
    .skip;(refine ao (by rw[eq1]; simpa using c2) ?_;show 11)
     (refine ao (by rw[Zx hrt]; exact zU (JQ hb hrt)) ?_;show 11)
     (refine aC hrt ?_;show 11)
     (refine ao (by rw[eq1]; exact aaA (JQ hb hrt)) ?_;show 11)
     exists Pq nd nb (ch::r) hrt
     have hpl:g8 (ch::r)=g8 r:=by
      conv=>lhs; unfold g8
      rw[ad8 (by have:=JQ hb hrt; omega)]
     rw[hpl]
     have hq':bV d (g8 r)=some r':=by
      rw[← hpl,o6 d _ (aaZ hb hrt)]; exact hq
     have:=(pM r).length_le
     exact ih (g8 r) d ∎ ((pM r).trans (bC hr)) hd' hq'
let TV{t r0 r':LN}(hb:92∉t)(hz:t.length<=100000)(hr:(123::r0)<:+t)(hq:bV 1 r0=some r')(h:Q (.tup [.str (r0.take (r0.length-(r'.length+1))),.int (pos t r')]) U) :
  aj T #[n+1,hd] (.ref 321) [.str t,.int (pos t (123::r0))] Q X U:=by
 refine(aG 7 QT (fm 31) rfl λF nd nb=>?_).call
 unfold b_agl
 show 0
 show 11
 (refine len_str ?_;show 11)
 rw[bA]
 exact Oi nd nb hb hz (bC hr) h (r0.length+1) r0 1 ∎ (acQ _) ∎ hq
let qt(h:nG r=some (nm,r')):r'<:+r/\r'.length<r.length:=by
 unfold nG at h
 show 2
 .cases h
 .show 2
  .cases h
  .cases h
   rename_i q _
   have:=(iC r).length_le
   exact#[iC r,by omega]
have vr:LN:=[118,97,114]
have cm:LN:=[99,109,100]
let JF{c:Nat}(h:(fY (c::r)).length≠(c::r).length):De c=true:=by
 unfold fY at h
 by_cases q:De c=true
 .exact q
 .rw[ad8 q]at h; exact absurd rfl h
let yo{t r nm r':LN}(h58:58∉t)(hr:(36::r)<:+t)(hq:nG r=some (nm,r'))(h:Q (.tup [.tup [.str vr,.str nm,.none],.int (pos t r')]) U) :
  aj T #[n+3,hd] (.ref 307) [.str t,.int (pos t (36::r))] Q X U:=by
 refine(aG 5 Lr (fm 29) rfl λF nd nb=>?_).call
 have hr1:=bC hr
 have#[hs,hl]:=qt hq
 unfold nG at hq
 split at hq
 .cases hq
 .rename_i n1
  split at hq
  .cases hq
  .rename_i n2
   cases hq
   unfold b_afX
   show 0
   show 11
   rw[bA]
   cases r with
   | nil=>simp[fY]at n1
   | cons ch r =>
    have hn:=JF n1
    have n3:ch≠123:=by rintro rfl; revert hn; decide
    (refine ao (by rw[Up hr1,eq1]; exact aaA n3) ?_;show 11)
    (refine Gi h58 hr1 ?_;show 11)
    exists ao ?_
    .have e1:=qK ((iC (ch::r)).trans hr1) 1
     rw[show((1:Nat):Int)=1 from rfl]at e1
     rw[e1]
     cases e:fY (ch::r)with
     | nil=>rfl
     | cons a b =>
      rw[e]at n2
      simpa using n2
    show 11
    exists ao ?_
    .have:=(iC (ch::r)).length_le
     exact aaA (by unfold pos; omega)
    show 11
    rw[gP hr1 (iC _)]
    show 11
    exact fn_agI h
have pV:Part->V
 | .text l=>.tup [.str tx,.str l]
 | .var l=>.tup [.str vr,.str l,.none]
 | .cmd l=>.tup [.str cm,.str l]
let iD(nst):∀ r,plainT nst r<:+r
 | []=>acQ _
 | c::r=>by
  unfold plainT
  split
  .exact acQ _
  .exact(iD nst r).trans (acU c r)
show ∀{T:Tp}{c:Cx}{X:Addr->Ψ}{U:Sg}{Q:V->Ψ}{n:Nat}{hd:Option Addr}{br:Br}{nst:Bool}{k ch:Nat}{r run:LN}{acc:List Part},_
let JK(c1:ch∈stops nst):cU br nst (k+1) (ch::r) run acc=some (flush run acc,ch::r):=ad9 c1
let KZ(c1:36∉stops nst):cU br nst (k+1) (36::r) run acc=(match nG r with | some (nm,r2)=>cU br nst k r2 [] (flush run acc++[.var nm]) | none=>none):=(ad8 c1).trans (ad9 rfl)
let Jx(c1:91∉stops nst):cU br nst (k+1) (91::r) run acc=(match br r with | some (s,r2)=>cU br nst k r2 [] (flush run acc++[.cmd s]) | none=>none):=(ad8 c1).trans ((ad8 ⋯).trans (ad9 rfl))
let Jt(c1:ch∉stops nst)(c2:ch≠36)(c3:ch≠91):cU br nst (k+1) (ch::r) run acc=cU br nst k (plainT nst r) (run++ch::r.take (r.length-(plainT nst r).length)) acc:=(ad8 c1).trans ((ad8 c2).trans (ad8 c3))
show ∀{T:Tp}{c:Cx}{X:Addr->Ψ}{U:Sg}{Q:V->Ψ}{n:Nat}{hd:Option Addr},_
have vG(T:Tp)(n:Nat)(br:Br):Prop:=∀{t r s r':LN} {U:Sg} {Q:V->Ψ} {X:Addr->Ψ} {hd:Option Addr},tH t->(91::r)<:+t->br r=some (s,r')->Q (.tup [.str s,.int (pos t r')]) U ->
 aj T #[n,hd] (.ref 314) [.str t,.int (pos t (91::r))] Q X U
have lY(br:Br):Prop:=∀ r s r',br r=some (s,r')->r'<:+r/\r'.length<r.length
have stopV(nst:Bool):V:=.tup ((stops nst).map λc=>.str [c])
let Dl(h:Q (stopV b) U):aj T #[n+1,hd] (.ref 335) [.bool b] Q X U:=by
 refine(cu Du (fm 33) rfl λF nd nb=>?_).call
 unfold b_afq
 cases b <;> (show 7; exact fn_agI h)
let Fi(b):strsOf ((stops b).map λc=>V.str [c])=some ((stops b).map λc=>[c]):=by cases b <;> rfl
let QJ:([ch]∈(stops b).map λc=>[c])=(ch∈stops b):=by simp
let Vf(h:P (decide (ch∉stops b))):b8 .NotIn (.str [ch]) (stopV b) U P:=by
 exists RX (Fi b)
 simpa only[QJ]using h
let Bc(hb:vG T (n+3) br)(hs:lY br)(ht:tH t)(hr:r<:+t)(e:cU br nst k r [] []=some (ps,r'))(h:Q (.tup [.tup (ps.map pV),.int (pos t r')]) U):aj T #[n+4,hd] (.ref 328) [.str t,.int (pos t r),stopV nst] Q X U:=by
 refine(aG 7 Bo (fm 32) rfl λF nd nb=>?_).call
 unfold b_ae4
 show 0
 show 7
 intro a fa
 show 7
 refine eY nd nb (λk O U' => ∃ r run acc v6 v7 v9,O=[some (.str t),some (.int (pos t r)),some (stopV nst),some (.ref a),some (.str run),some (.int t.length),v6,v7,none,v9]/\U'=U.set a (.list (acc.map pV))/\r<:+t/\acc.length+run.length+r.length<=100000/\cU br nst k r run acc=some (ps,r')) ?_ k _ _ #[r,[],[],none,none,none,rfl,rfl,hr,by have:=hr.length_le; have:=ht.2.2; simp; omega,e]
 rintro k O U' ⟨r,run,acc,v6,v7,v9,rfl,rfl,hr,hz,e⟩
 cases k with
 | zero=>cases e
 | succ k =>
 have fin:∀(r:LN) (run:LN) (acc:List Part) (v6 v7 v9:Option V),acc.length+run.length<=100000->(flush run acc,r)=(ps,r')->({ (PP.fn Q X)with nxt:=λO1 xb=>wSs T F (match b_ae4 with | .cons _ (.cons _ (.cons _ (.cons _ s)))=>s | _=>.nil) #[n+3,hd] O1 (PP.fn Q X) xb }:PP).nxt [some (.str t),some (.int (pos t r)),some (stopV nst),some (.ref a),some (.str run),some (.int t.length),v6,v7,none,v9] (U.set a (.list (acc.map pV))):=by
  intro r run acc v6 v7 v9 hz e
  unfold b_ae4
  show 1
  cases e
  show 7
  by_cases c1:run=[]
  .subst c1
   change ao (by simp)
   change jQ aq
   exact fn_agB (bx fa) h
  .change aD (by simpa using c1)
   change aN aq
   exists aH aq (by rw[acM]; simp; omega)
   rw[Sg.set_set]
   show 7
   change jQ aq
   exists fn_agB (bx fa)
   have:flush run acc=acc++[.text run]:=by unfold flush; rw[ad8 c1]
   rw[this]at h
   simpa [pV,tx]using h
 cases r with
 | nil =>
  show 7
  rw[cL]
  try refine ao rfl ?_
  try refine ao rfl ?_
  exact fin [] run acc v6 v7 v9 (aaC (adt ..) hz) (Option.some.inj e)
 | cons ch r =>
  simp only[aaE]at hz
  have hr1:=bC hr
  have h92:=JQ ht.1 hr
  show 7
  change aD (by rw[cL]; rfl)
  change aC hr
  exists Vf
  by_cases c1:ch∈stops nst
  .exists ao (aaA (not_not_intro c1))
   exists ao (aaA (not_not_intro c1))
   exact fin (ch::r) run acc v6 v7 v9 ∎ (Option.some.inj ((JK c1).symm.trans e))
  change aD (aaB c1)
  change aC hr
  by_cases c2:ch=36
  .subst c2
   replace e:=(KZ c1).symm.trans e
   change aD (by simp)
   cases ev:nG r with
   | none=>rw[ev]at e; cases e
   | some p =>
   have#[nm,r2]:=p
   rw[ev]at e
   have#[hv1,hv2]:=qt ev
   change yo ht.2.1 hr ev
   change ao ⋯
   have hl:(flush run acc).length<=acc.length+run.length:=by
    unfold flush
    split
    .omega
    .rename_i q
     have:=List.length_pos_iff.mpr q
     simp; omega
   by_cases c4:run=[]
   .subst c4
    change ao (by simp)
    change aN aq
    exists aH aq (by rw[acM]; simp; simp at hz; omega)
    rw[Sg.set_set]
    show 7
    exact#[k,by omega,r2,[],acc++[.var nm],_,_,_,rfl,by simp[pV],hv1.trans hr1,by simp; simp at hz; omega,by simpa [flush]using e]
   .exists aD (by simpa using c4)
    have hfl:flush run acc=acc++[.text run]:=by unfold flush; rw[ad8 c4]
    rw[hfl]at e hl
    show 7
    change aN aq
    exists aH aq (by rw[acM]; simp; omega)
    rw[Sg.set_set]
    show 7
    change aN aq
    exists aH aq (by rw[acM]; simp; omega)
    rw[Sg.set_set]
    show 7
    exact#[k,by omega,r2,[],acc++[.text run]++[.var nm],_,_,_,rfl,by simp[pV,tx],hv1.trans hr1,by simp; omega,e]
  change ao (eq1.trans (aaA c2))
  change aC hr
  by_cases c3:ch=91
  .subst c3
   replace e:=(Jx c1).symm.trans e
   change aD (by simp)
   cases ev:br r with
   | none=>rw[ev]at e; cases e
   | some p =>
   have#[s,r2]:=p
   rw[ev]at e
   have#[hv1,hv2]:=hs _ _ _ ev
   change hb ht hr ev
   change ao ⋯
   have hl:(flush run acc).length<=acc.length+run.length:=by
    unfold flush
    split
    .omega
    .rename_i q
     have:=List.length_pos_iff.mpr q
     simp; omega
   by_cases c4:run=[]
   .subst c4
    change ao (by simp)
    change aN aq
    exists aH aq (by rw[acM]; simp; simp at hz; omega)
    rw[Sg.set_set]
    show 7
    exact#[k,by omega,r2,[],acc++[.cmd s],_,_,_,rfl,by simp[pV,cm],hv1.trans hr1,by simp; simp at hz; omega,by simpa [flush]using e]
   .exists aD (by simpa using c4)
    have hfl:flush run acc=acc++[.text run]:=by unfold flush; rw[ad8 c4]
    rw[hfl]at e hl
    show 7
    change aN aq
    exists aH aq (by rw[acM]; simp; omega)
    rw[Sg.set_set]
    show 7
    change aN aq
    exists aH aq (by rw[acM]; simp; omega)
    rw[Sg.set_set]
    show 7
    exact#[k,by omega,r2,[],acc++[.text run]++[.cmd s],_,_,_,rfl,by simp[pV,tx,cm],hv1.trans hr1,by simp; omega,e]
  replace e:=(Jt c1 c2 c3).symm.trans e
  change ao (eq1.trans (aaA c3))
  change aC hr
  change ao (by rw[eq1]; simpa using h92)
  have hpl:plainT nst (ch::r)=plainT nst r:=by
   conv=>lhs; unfold plainT
   rw[ad8 (λz=>z.elim (λz=>by simp only[acR,acX,or_false]at z; omega) c1)]
  have hpl2:=(iD nst r).length_le
  refine eY nd nb (λk O U' => ∃ r3,O=[some (.str t),some (.int (pos t r3)),some (stopV nst),some (.ref a),some (.str run),some (.int t.length),v6,v7,none,some (.int (pos t (ch::r)))]/\U'=U.set a (.list (acc.map pV))/\r3<:+(ch::r)/\r3.length<k/\plainT nst r3=plainT nst (ch::r)) ?_ (r.length+2) _ _ #[ch::r,rfl,rfl,acQ _,by simp,rfl]
  rintro k3 O3 U3 ⟨r3,rfl,rfl,h31,h32,h33⟩
  have fin3:plainT nst r3=r3->({ (PP.fn Q X)with nxt:=λO1 xb=>∃ k',k'<k+1/\∃ r run acc v6 v7 v9,O1=[some (.str t),some (.int (pos t r)),some (stopV nst),some (.ref a),some (.str run),some (.int t.length),v6,v7,none,v9]/\xb=U.set a (.list (acc.map pV))/\r<:+t/\acc.length+run.length+r.length<=100000/\cU br nst k' r run acc=some (ps,r') }:PP).nxt [some (.str t),some (.int (pos t r3)),some (stopV nst),some (.ref a),some (.str (run++cut t (some (pos t (ch::r))) (some (pos t r3)))),some (.int t.length),some (.tup [.str [116,101,120,116],.str (cut t (some (pos t (ch::r))) (some (pos t r3)))]),v7,none,some (.int (pos t (ch::r)))] (U.set a (.list (acc.map pV))):=by
   intro h34
   have h35:r3=plainT nst r:=by rw[← h34,h33,hpl]
   have h36:cut t (some (pos t (ch::r))) (some (pos t r3))=ch::r.take (r.length-(plainT nst r).length):=by
    rw[h35,gP hr ((iD nst r).trans (acU _ _))]
    rw[aaE,show r.length+1-(plainT nst r).length=(r.length-(plainT nst r).length)+1 by omega]
    rfl
   refine#[k,by omega,plainT nst r,run++ch::r.take (r.length-(plainT nst r).length),acc,_,_,_,by rw[h36,← h35],rfl,(iD nst r).trans hr1,?_,e]
   simp
   omega
  have hr3:=h31.trans hr
  have szc:run.length+(cut t (some (pos t (ch::r))) (some (pos t r3))).length<=sizeLine:=by
   rw[gP hr h31,acM]
   simp
   omega
  cases r3 with
  | nil =>
   show 7
   rw[cL]
   try refine ao rfl ?_
   try refine ao rfl ?_
   show 7
   try refine aD rfl ?_
   show 7
   exists bf ?_
   .exact szc
   show 7
   exact fin3 rfl
  | cons c3 r3 =>
   show 7
   change aD (by rw[cL]; rfl)
   change aC hr3
   by_cases d1:c3∈[36,91,92]
   .exists ao (aaA λz=>z d1)
    change ao (aaA λz=>z d1)
    try refine aD rfl ?_
    show 7
    exists bf ?_
    .exact szc
    show 7
    exact fin3 (by unfold plainT; rw[ad9 (.inl d1)])
   change aD (by simpa using d1)
   change aC hr3
   exists Vf
   by_cases d2:c3∈stops nst
   .exists ao (by simpa using d2)
    change ao (by simpa using d2)
    try refine aD rfl ?_
    show 7
    exists bf ?_
    .exact szc
    show 7
    exact fin3 (by unfold plainT; rw[ad9 (.inr d2)])
   change aD (by simpa using d2)
   rw[bA]
   simp only[aaE]at h32
   have h37:plainT nst (c3::r3)=plainT nst r3:=by
    conv=>lhs; unfold plainT
    rw[ad8 (λz=>z.elim d1 d2)]
   exact#[k3-1,by omega,r3,rfl,rfl,bC h31,by omega,by rw[← h37]; exact h33]
let kY(hs:lY br):∀{k:Nat} {r run:LN} {acc ps:List Part} {r':LN},cU br nst k r run acc=some (ps,r')->r'<:+r
 | 0,_,_,_,_,_,e=>by cases e
 | k+1,r,run,acc,ps,r',e=>by
  unfold cU at e
  cases r with
  | nil=>cases e; exact acQ _
  | cons c r =>
   dsimp only at e
   split at e
   .cases e; exact acQ _
   .split at e
    .split at e
     .rename_i q
      exact(kY hs e).trans ((qt q).1.trans (acU _ _))
     .cases e
    .split at e
     .split at e
      .rename_i q
       exact(kY hs e).trans ((hs _ _ _ q).1.trans (acU _ _))
      .cases e
     .exact(kY hs e).trans ((iD nst _).trans (acU _ _))
let tO(hs:lY br)(e:o9 br nst k r=some (ps,r')):r'<:+r:=by
 unfold o9 at e
 split at e
 .cases e
 .split at e
  .cases e
  .split at e
   .split at e
    .rename_i q
     cases e
     exact(acU 125 _).trans ((jr q).trans (acU _ _))
    .cases e
   .split at e
    .cases e
    .exact kY hs e
let Ac(hr:r<:+t)(e:r.take 3≠[123,42,125])(h:Q (.bool false) U):aj T #[n+1,hd] (.ref 342) [.str t,.int (pos t r)] Q X U:=by
 refine(aG 3 Am (fm 34) rfl λF nd nb=>?_).call
 unfold b_ae6
 show 0
 show 7
 change aD (by rw[ac8 hr]; exact aaB e)
 exact fn_agI h
have wV(ps:List Part):V:=.tup [.bool false,.tup (ps.map pV)]
let Zj(hb:vG T (n+3) br)(hs:lY br)(ht:tH t)(hr:r<:+t)(e:o9 br nst k r=some (ps,r'))(h:Q (.tup [wV ps,.int (pos t r')]) U):aj T #[n+5,hd] (.ref 349) [.str t,.int (pos t r),.bool nst] Q X U:=by
 refine(aG 6 Z1 (fm 35) rfl λF nd nb=>?_).call
 unfold b_agy
 show 0
 unfold o9 at e
 split at e
 .cases e
 rename_i c1
 cases r with
 | nil=>cases e
 | cons ch r =>
 dsimp only at e
 show 7
 change Ac hr c1
 rw[Up hr]
 by_cases c2:ch=123
 .rw[ad9 c2]at e
  subst c2
  change aD (by simp)
  cases ev:bV 1 r with
  | none=>rw[ev]at e; cases e
  | some r2 =>
  rw[ev]at e
  cases e
  change TV ht.1 ht.2.2 hr ev
  unfold flush at h
  by_cases c3:r.take (r.length-(r'.length+1))=[]
  .rw[ad9 c3]at h
   change aD (aaB c3)
   exact fn_agI h
  .rw[ad8 c3]at h
   change ao (aaA c3)
   exact fn_agI h
 rw[ad8 c2]at e
 change ao (by rw[eq1]; simpa using c2)
 by_cases c3:ch=34
 .rw[ad9 c3]at e; cases e
 rw[ad8 c3]at e
 change ao (by rw[eq1]; simpa using c3)
 change Dl
 change Bc hb hs ht hr e
 exact fn_agI h
let pI(hs:lY br):∀{k:Nat} {r:LN} {acc:List (List Part)} {q:Ko},dN br nst b k r acc=some q->q.b=b/\q.e<:+r/\q.z<:+q.e
 | 0,_,_,_,e=>by cases e
 | k+1,r,acc,q,e=>by
  unfold dN at e
  split at e
  .cases e
  .rename_i ps e' h1
   have s1:=tO hs h1
   have s2:=gn e'
   split at e
   .cases e; exact#[rfl,s1,List.nil_suffix]
   .rename_i c p h2
    rw[h2]at s2
    split at e
    .cases e; exact#[rfl,s1,(acU _ _).trans s2]
    .split at e
     .cases e; exact#[rfl,s1,s2]
     .split at e
      .cases e
      .have#[q1,q2,q3]:=pI hs e
       exact#[q1,q2.trans (s2.trans s1),q3]
let ig(hs:lY br)(e:aJ br nst r=some (some q)):q.b<:+r/\q.e<:+q.b/\q.z<:+q.e:=by
 unfold aJ at e
 have:=cI 100001 r
 split at e
 .cases e
 .rename_i c r' h
  split at e
  .cases e
  .cases ev:dN br nst (c::r') 100001 (c::r') []with
   | none=>rw[ev]at e; cases e
   | some q' =>
    rw[ev]at e
    cases e
    have#[q1,q2,q3]:=pI hs ev
    rw[q1]
    rw[h]at this
    exact#[this,q2,q3]
have cV(t:LN)(q:Ko):V:=.tup [.tup (q.ws.map wV),.int (pos t q.b),.int (pos t q.e),.int (pos t q.z)]
have oV(t:LN):Option Ko->V
 | some q=>cV t q
 | none=>.none
let IW(nd:gD F)(nb:bw F){nst:Bool}(hb:vG T (n+3) br)(hs:lY br)(ht:tH t)(hr:r<:+t)(e:aJ br nst r=some o)(h:Q (oV t o) U):wSs T F b_afs #[n+5,hd] [some (.str t),some (.int (pos t r)),some (.bool nst),none,none,none,none,none,none] (PP.fn Q X) U:=by
 unfold b_afs
 have htl:=ht.2.2
 show 7
 exists dC (k:=100001) ht.1 hr (by have:=hr.length_le; omega)
 have hk:=(cI 100001 r).trans hr
 unfold aJ at e
 show 7
 cases ek:aA 100001 r with
 | nil =>
  rw[ek]at e
  cases e
  rw[tL]
  try refine uL rfl ?_
  try refine aD rfl ?_
  show 7
  exact fn_agI h
 | cons ch r1 =>
 rw[ek]at e hk
 dsimp only at e
 rw[tL]
 try refine lU rfl ?_
 show 7
 by_cases c1:nst=true/\ch=93
 .rw[ad9 c1]at e
  cases e
  have#[rfl,rfl]:=c1
  show 7
  change aC hk
  change aD (by simp)
  exact fn_agI h
 rw[ad8 c1]at e
 have main:wSs T F (match b_afs with | .cons _ (.cons _ (.cons _ s))=>s | _=>.nil) #[n+5,hd] [some (.str t),some (.int (pos t r)),some (.bool nst),some (.int (pos t (ch::r1))),some (.int t.length),none,none,none,none] (PP.fn Q X) U:=by
  unfold b_afs
  show 1
  cases ev:dN br nst (ch::r1) 100001 (ch::r1) []with
  | none=>rw[ev]at e; cases e
  | some q =>
  rw[ev]at e
  cases e
  show 7
  intro a fa
  show 7
  refine eY nd nb (λk O U' => ∃ r2 acc v7 v8,O=[some (.str t),some (.int (pos t r)),some (.bool nst),some (.int (pos t (ch::r1))),some (.int t.length),some (.ref a),some (.int (pos t r2)),v7,v8]/\U'=U.set a (.list (acc.map wV))/\r2<:+t/\acc.length+r2.length<=100000/\dN br nst (ch::r1) k r2 acc=some q) ?_ 100001 _ _ #[ch::r1,[],none,none,rfl,rfl,hk,by have:=hk.length_le; show 0+_<=_; omega,ev]
  rintro k O U' ⟨r2,acc,v7,v8,rfl,rfl,hr2,hz,e⟩
  cases k with
  | zero=>cases e
  | succ k =>
  unfold dN at e
  cases ew:o9 br nst 100001 r2 with
  | none=>rw[ew]at e; cases e
  | some p =>
  have#[ps,e']:=p
  rw[ew]at e
  dsimp only at e
  have s1:=(tO hs ew).trans hr2
  have s2:=(gn e').trans s1
  show 7
  change Zj hb hs ht hr2 ew
  change aN aq
  exists aH aq (by rw[acM]; simp; omega)
  rw[Sg.set_set]
  show 7
  change jq ht.1 s1
  rw[tL]
  have el:(acc.map wV++[wV ps]:List V)=(acc++[ps]).map wV:=by simp
  cases eg:cG e' with
  | nil =>
   rw[eg]at e
   cases e
   try refine aD rfl ?_
   show 7
   change jQ aq
   exists fn_agB (bx fa)
   rw[el]
   have:(t.length:Int)=pos t []:=rK.symm
   rw[this]
   exact h
  | cons c p =>
  rw[eg]at e s2
  dsimp only at e
  try refine ao rfl ?_
  show 7
  change aC s2
  by_cases d1:c=10∨c=59
  .rw[ad9 d1]at e
   cases e
   change aD (by simpa using d1)
   change jQ aq
   exists fn_agB (bx fa)
   rw[el,bA]
   exact h
  rw[ad8 d1]at e
  change ao (by simpa using d1)
  by_cases d2:nst=true/\c=93
  .rw[ad9 d2]at e
   cases e
   have#[rfl,rfl]:=d2
   show 7
   change aC s2
   change aD (by simp)
   change jQ aq
   exists fn_agB (bx fa)
   rw[el]
   exact h
  rw[ad8 d2]at e
  have fin:({ (PP.fn Q X)with nxt:=λO' U' => ∃ k',k'<k+1/\∃ r2 acc v7 v8,O'=[some (.str t),some (.int (pos t r)),some (.bool nst),some (.int (pos t (ch::r1))),some (.int t.length),some (.ref a),some (.int (pos t r2)),v7,v8]/\U'=U.set a (.list (acc.map wV))/\r2<:+t/\acc.length+r2.length<=100000/\dN br nst (ch::r1) k' r2 acc=some q }:PP).nxt [some (.str t),some (.int (pos t r)),some (.bool nst),some (.int (pos t (ch::r1))),some (.int t.length),some (.ref a),some (.int (pos t (c::p))),some (wV ps),some (.int (pos t e'))] (U.set a (.list (acc.map wV++[wV ps])))/\p.length+1≠e'.length:=by
   split at e
   .cases e
   .rename_i d3
    refine#[#[k,by omega,c::p,acc++[ps],_,_,rfl,by rw[el],s2,?_,e],d3]
    have h1:=(tO hs ew).length_le
    have h2:=(gn e').length_le
    rw[eg]at h2
    simp only[aaG,aaE,acT]at h2 ⊢
    omega
  have pn:decide (pos t (c::p)=pos t e')=false:=aaA (by unfold pos; rw[aaE]; have:=fin.2; omega)
  cases nst
  .show 7
   change ao pn
   exact fin.1
  .show 7
   change aC s2
   exists ao (by rw[eq1]; exact aaA λz=>d2 #[rfl,z])
   change ao (by rw[eq1]; exact aaA λz=>d2 #[rfl,z])
   change ao pn
   exact fin.1
 unfold b_afs at main
 cases nst
 .show 7
  exact main
 .show 7
  change aC hk
  exists ao (by rw[eq1]; exact aaA λz=>c1 #[rfl,z])
  change lU (by rw[eq1]; exact aaA λz=>c1 #[rfl,z])
  exact main
let El(hb:vG T (n+3) br)(hs:lY br)(ht:tH t)(hr:r<:+t)(e:aJ br nst r=some o)(h:Q (oV t o) U):aj T #[n+6,hd] (.ref 357) [.str t,.int (pos t r),.bool nst] Q X U :=
 (fB 6 qW (fm 36) (aaQ (i:=3) rfl) (by simp) (by simp) (by simp) λF nd nb=>IW nd nb hb hs ht hr e h).call
let An(hb:vG T (n+3) br)(hs:lY br)(ht:tH t)(hr:r<:+t)(e:aJ br false r=some o)(h:Q (oV t o) U):aj T #[n+6,hd] (.ref 357) [.str t,.int (pos t r)] Q X U :=
 (fB 6 qW (fm 36) (aaQ (i:=3) rfl) (by simp) (by simp) (by simp) λF nd nb=>IW nd nb hb hs ht hr e h).call
let Hi(hs:lY br):∀{k:Nat} {r s r':LN},vZ br r0 k r=some (s,r')->(93::r')<:+r
 | 0,_,_,_,e=>by cases e
 | k+1,r,s,r',e=>by
  unfold vZ at e
  split at e
  .cases e
  .rename_i c p
   split at e
   .rename_i c1
    cases e
    rw[c1]
    exact acQ _
   .split at e
    .rename_i q h
     have#[h1,h2,h3]:=ig hs h
     exact(Hi hs e).trans ((cI _ _).trans (h3.trans (h2.trans h1)))
    .cases e
let kW:∀ d:Nat,lY (Wt d)
 | 0=>λr s r' e=>by cases e
 | d+1=>λr s r' e=>by
  have q:=(Hi (kW d) e).trans (cI _ _)
  have:=q.length_le
  exact#[(acU _ _).trans q,by simpa [Nat.lt_iff_add_one_le]using this]
let Kf(hb:vG T (n+3) br)(hs:lY br):vG T (n+7) (λr=>vZ br r 100001 (aA 100001 r)):=by
 intro t r s r' U Q X hd ht hr e h
 refine(aG 3 Jh (fm 30) rfl λF nd nb=>?_).call
 unfold b_af1
 show 0
 have hr1:=bC hr
 have htl:=ht.2.2
 show 7
 rw[bA]
 exists dC (k:=100001) ht.1 hr1 (by have:=hr1.length_le; omega)
 have hk:=cI 100001 r
 show 7
 refine eY nd nb (λk O U' => ∃ r2 v4,O=[some (.str t),some (.int (pos t (91::r))),some (.int (pos t r)),some (.int (pos t r2)),v4]/\U'=U/\r2<:+r/\vZ br r k r2=some (s,r')) ?_ 100001 _ _ #[_,none,rfl,rfl,hk,e]
 rintro k O U' ⟨r2,v4,rfl,rfl,hr2,e⟩
 cases k with
 | zero=>cases e
 | succ k =>
 unfold vZ at e
 cases r2 with
 | nil=>cases e
 | cons c2 p =>
 dsimp only at e
 have hr2t:=hr2.trans hr1
 show 7
 change aD (by rw[cL]; rfl)
 change aC hr2t
 by_cases c1:c2=93
 .rw[ad9 c1]at e
  cases e
  subst c1
  exists ao (by simp)
  change ao (by simp)
  change ao (by rw[tL]; rfl)
  rw[gP hr1 hr2,bA]
  exact fn_agI (by simpa using h)
 rw[ad8 c1]at e
 change aD (by simpa using c1)
 cases ec:aJ br true (c2::p)with
 | none=>rw[ec]at e; cases e
 | some o =>
 rw[ec]at e
 cases o with
 | none=>cases e
 | some q =>
 have#[h1,h2,h3]:=ig hs ec
 exists El hb hs ht hr2t ec
 have hz:=h3.trans (h2.trans h1)
 unfold oV cV
 show 7
 change dC (k:=100001) ht.1 (hz.trans hr2t) (by have:=(hz.trans hr2t).length_le; omega)
 exact#[k,by omega,_,_,rfl,rfl,(cI _ _).trans (hz.trans hr2),e]
let X5:∀ d,∀{n:Nat},vG T (4*d+3+n) (Wt d)
 | 0,n=>λ_ _ e=>by cases e
 | d+1,n=>by
  have q0:vG T (4*d+3+n) (Wt d):=X5 d
  rw[show 4*d+3+n=4*d+n+3 by omega]at q0
  have q:vG T (4*d+n+7) (Wt (d+1)):=Kf q0 (kW d)
  rw[show 4*(d+1)+3+n=4*d+n+7 by omega]
  exact q
let TY:vG T (n+15) wN:=by
 have q:vG T (4*3+3+n) wN:=X5 3
 rw[show 4*3+3+n=n+15 by omega]at q
 exact @q
let pg(ht:tH t)(hr:r<:+t)(e:aJ wN false r=some o)(h:Q (oV t o) U):aj T #[n+18,hd] (.ref 357) [.str t,.int (pos t r)] Q X U :=
 An TY (kW 3) ht hr e h
let Aj(ht:tH t)(e:aJ wN false t=some o)(h:Q (oV t o) U):aj T #[n+18,hd] (.ref 357) [.str t,.int 0] Q X U:=by
 have:=pg (T:=T) (n:=n) (hd:=hd) (X:=X) ht (acQ t) e h
 rwa [mK]at this
have u8(s:String):LN:=s.toList.map Char.toNat
let CV:∀ r,qu r<:+r
 | []=>acQ _
 | c::r=>by
  unfold qu
  split
  .exact(CV r).trans (acU c r)
  .exact acQ _
let BL:∀ r,jO r<:+r
 | []=>acQ _
 | c::r=>by
  unfold jO
  split
  .exact acQ _
  .exact(BL r).trans (acU c r)
let pO:∀ l,bJ [] (l.map λc=>[c])=l
 | []=>rfl
 | [a]=>rfl
 | a::b::l=>by show [a]++[]++bJ [] ((b::l).map λc=>[c])=_; rw[pO (b::l)]; rfl
let pZ:∀ l:LN,strsOf (l.map λc=>V.str [c])=some (l.map λc=>[c])
 | []=>rfl
 | a::l=>by show(strsOf (l.map λc=>V.str [c])).map ([a] :: ·)=_; rw[pZ l]; rfl
let tY:∀ l:LN,((l.map λc=>[c]).map List.length).sum=l.length
 | []=>rfl
 | a::l=>by simp only[acS,ad2,aaE,acT]; rw[tY l]; omega
let z8{t r:LN}(hb:92∉t)(hz:t.length<=100000)(hr:r<:+t)(h:Q (.tup [.str (r.take (r.length-(jO r).length)),.int (pos t (jO r))]) U) :
  aj T #[n+2,hd] (.ref 385) [.str t,.int (pos t r)] Q X U:=by
 refine(aG 2 zH (fm 40) rfl λF nd nb=>?_).call
 unfold b_aeX
 show 0
 show 7
 intro a fa
 show 7
 refine eY nd nb (λk O U' => ∃ r2 p v3,O=[some (.str t),some (.int (pos t r2)),some (.ref a),v3]/\U'=U.set a (.list (p.map λc=>.str [c]))/\r=p++r2/\jO r2=jO r/\r2.length<k) ?_ (r.length+1) _ _ #[r,[],none,rfl,rfl,rfl,rfl,by omega]
 rintro k O U' ⟨r2,p,v3,rfl,rfl,hp,hq,hk⟩
 have hr2:=List.IsSuffix.trans #[p,hp.symm] hr
 have fin:r2=jO r2->Q (.tup [.str p,.int (pos t r2)]) U:=λe=>by
  have:r.take (r.length-(jO r).length)=p:=by
   rw[← hq,← e,hp]
   simp
  rw[this,← hq,← e]at h
  exact h
 have szp:p.length<=100000:=by
  have h1:=congrArg List.length hp
  have h2:=hr.length_le
  simp at h1
  omega
 cases r2 with
 | nil =>
  show 7
  rw[cL]
  try refine ao rfl ?_
  try refine ao rfl ?_
  show 7
  change lH
  exists iy aq (pZ p) (by rw[tY,acM]; simp; omega)
  rw[pO]
  show 7
  exact fn_agB (bx fa) (fin rfl)
 | cons ch r2 =>
  show 7
  change aD (by rw[cL]; rfl)
  change aC hr2
  by_cases g:du ch=true
  .exists ao (by rw[g]; rfl)
   change ao (by rw[g]; rfl)
   change lH
   exists iy aq (pZ p) (by rw[tY,acM]; simp; omega)
   rw[pO]
   show 7
   exact fn_agB (bx fa) (fin (by unfold jO; rw[ad9 g]))
  .change aD (by simpa using g)
   change aC hr2
   change ao (by rw[eq1]; exact aaA (JQ hb hr2))
   rw[bA]
   change aN aq
   exists aH aq (by rw[acM]; simp; omega)
   rw[Sg.set_set]
   show 7
   simp only[aaE]at hk
   refine#[k-1,by omega,r2,p++[ch],_,rfl,by simp,by simp[hp],?_,by omega]
   rw[← hq]
   conv=>rhs; unfold jO
   rw[ad8 g]
have fV(t:LN):Option (LN×LN)->V
 | none=>.none
 | some (x,r)=>.tup [.str x,.int (pos t r)]
let Pa(e:qL r=some (some (x,r'))):r'<:+r/\x.length<=r.length:=by
 unfold qL at e
 have:=CV r
 split at e
 .cases e
 .rename_i c p h
  rw[h]at this
  split at e
  .cases e
  .cases e
   have h2:=this.length_le
   refine#[(BL _).trans this,?_]
   simp at h2 ⊢
   omega
let nP(hb:92∉t)(hz:t.length<=100000)(hr:r<:+t)(e:qL r=some o)(h:Q (fV t o) U) :
  aj T #[n+3,hd] (.ref 392) [.str t,.int (pos t r)] Q X U:=by
 refine(cu yO (fm 41) rfl λF nd nb=>?_).call
 unfold b_ae0
 dsimp only[List.map]
 show 7
 refine eY nd nb (λk O U' => ∃ r2,O=[some (.str t),some (.int (pos t r2))]/\U'=U/\r2<:+t/\qu r2=qu r/\r2.length<k) ?_ (r.length+1) _ _ #[r,rfl,rfl,hr,rfl,by omega]
 rintro k O U' ⟨r2,rfl,rfl,hr2,hq,hk⟩
 unfold qL at e
 rw[← hq]at e
 cases r2 with
 | nil =>
  cases e
  show 7
  rw[cL]
  try refine ao rfl ?_
  try refine ao rfl ?_
  show 7
  change aD (by rw[tL]; rfl)
  exact fn_agI h
 | cons ch r2 =>
  show 7
  change aD (by rw[cL]; rfl)
  change aC hr2
  by_cases g:du ch=true
  .change aD g
   rw[bA]
   simp only[aaE]at hk
   refine#[k-1,by omega,r2,rfl,rfl,bC hr2,?_,by omega]
   rw[← hq]
   conv=>rhs; unfold qu
   rw[ad9 g]
  .have e2:qu (ch::r2)=ch::r2:=by unfold qu; rw[ad8 g]
   rw[e2]at e
   dsimp only at e
   split at e
   .cases e
   rename_i c1
   cases e
   exists ao (by simpa using g)
   change ao (by simpa using g)
   change ao (by rw[tL]; rfl)
   change aC hr2
   change ao (by rw[eq1]; exact aaA λz=>c1 (.inl z))
   change aC hr2
   change ao (by rw[eq1]; exact aaA λz=>c1 (.inr z))
   change z8 hb hz hr2
   exact fn_agI h
let vJ(hb:92∉t)(hz:t.length<=100000)(e:qL t=some o)(h:Q (fV t o) U):aj T #[n+3,hd] (.ref 392) [.str t,.int 0] Q X U:=by
 have:=nP (T:=T) (n:=n) (hd:=hd) (X:=X) hb hz (acQ t) e h
 rwa [mK]at this
let km:∀ ls:aX,strsOf (sV ls)=some ls
 | []=>rfl
 | a::l=>by show(strsOf (sV l)).map (a :: ·)=_; rw[km l]; rfl
let rM(hb:92∉t)(hz:t.length<=100000)(e:fQ 1000 t []=some ls)(h:∀ a,bD U a->Q (.ref a) (U.set a (.list (sV ls)))) :
  aj T #[n+4,hd] (.ref 399) [.str t] Q X U:=by
 refine(aG 2 En (fm 42) rfl λF nd nb=>?_).call
 unfold b_afk
 show 0
 show 7
 intro a fa
 show 7
 cases e1:qL t with
 | none=>unfold fQ at e; rw[e1]at e; cases e
 | some o =>
 change vJ hb hz e1
 refine eY nd nb (λk O U' => ∃ r o acc,O=[some (.str t),some (.ref a),some (fV t o)]/\U'=U.set a (.list (sV acc))/\r<:+t/\qL r=some o/\acc.length+k<=1000/\fQ k r acc=some ls) ?_ 1000 _ _ #[t,o,[],rfl,rfl,acQ _,e1,by simp,e]
 rintro k O U' ⟨r,o,acc,rfl,rfl,hr,e1,hk,e⟩
 cases k with
 | zero=>cases e
 | succ k =>
 unfold fQ at e
 rw[e1]at e
 cases o with
 | none =>
  cases e
  dsimp only[fV]
  show 7
  try refine ao rfl ?_
  show 7
  exact fn_agI (h a fa)
 | some p =>
  have#[x,r']:=p
  dsimp only at e
  dsimp only[fV]
  show 7
  try refine aD rfl ?_
  show 7
  change aN aq
  exists aH aq (by rw[acM]; unfold sV; rw[ac0]; omega)
  rw[Sg.set_set]
  show 7
  have hr':=(Pa e1).1.trans hr
  cases e2:qL r' with
  | none=>cases k <;> (unfold fQ at e; first | (rw[e2]at e; cases e) | cases e)
  | some o2 =>
  change nP hb hz hr' e2
  exact#[k,by omega,r',o2,acc++[x],rfl,by simp[sV],hr',e2,by simp; omega,e]
let in2{a b c:Nat}:decide ([c]∈[[a],[b]])=decide (c=a∨c=b):=by simp
let in3{a b d c:Nat}:decide ([c]∈[[a],[b],[d]])=decide (c=a∨c=b∨c=d):=by simp
let in4{a b d e c:Nat}:decide ([c]∈[[a],[b],[d],[e]])=decide (c=a∨c=b∨c=d∨c=e):=by simp
let in7{a b d e f g i c:Nat}:decide ([c]∈[[a],[b],[d],[e],[f],[g],[i]])=decide (c=a∨c=b∨c=d∨c=e∨c=f∨c=g∨c=i):=by simp
let Qc(k:Q (.str (ji e h)) U):aj T #[n+2,hd] (.ref 406) [.str e,.bool h] Q X U:=by
 refine(aG 8 Pu (fm 43) rfl λF nd nb=>?_).call
 unfold b_age
 show 0
 show 7
 cases e with
 | nil =>
  change aD (by simp)
  exact fn_agI k
 | cons ch r =>
 change ao (by simp)
 have h0:V.int 0=V.int (pos (ch::r) (ch::r)):=by rw[mK]
 have i0:∀{P:V->Prop},P (.str [ch])->di T U (.str (ch::r)) (.int 0) P:=λq=>#[Int.le_refl 0,q]
 change i0
 have q:ji (ch::r) h=Gn (h&&decide (ch=35)) (lW (ch::r) 0 (decide (ch=123∨ch=34)) (decide (ch=123∨ch=34)||(h&&decide (ch=35))) false):=rfl
 rw[in2]
 generalize e1:decide (ch=123∨ch=34)=b1 at q ⊢
 have main:∀ hs:Bool,hs=(h&&decide (ch=35))->wSs T F (match b_age with | .cons _ (.cons _ (.cons _ (.cons _ s)))=>s | _=>.nil) #[n+1,hd]
   [some (.str (ch::r)),some (.bool h),some (.str [ch]),some (.bool b1),some (.bool hs),none,none,none,none,none] (PP.fn Q X) U:=by
  intro hs ehs
  rw[← ehs]at q
  unfold b_age
  show 1
  have main2:wSs T F (match b_age with | .cons _ (.cons _ (.cons _ (.cons _ (.cons _ s))))=>s | _=>.nil) #[n+1,hd]
   [some (.str (ch::r)),some (.bool h),some (.str [ch]),some (.bool b1),some (.bool hs),some (.bool (b1||hs)),none,none,none,none] (PP.fn Q X) U:=by
   unfold b_age
   show 1
   show 7
   rw[q]at k
   generalize (b1||hs)=b2 at k ⊢
   refine eY nd nb (λm O U' => ∃ r2 d bd wb we v9,O=[some (.str (ch::r)),some (.bool h),some (.str [ch]),some (.bool bd),some (.bool hs),some (.bool wb),some (.bool we),some (.int d),some (.int (pos (ch::r) r2)),v9]/\U'=U/\r2<:+(ch::r)/\r2.length<m/\Q (.str (Gn hs (lW r2 d bd wb we))) U) ?_ (r.length+2) _ _ #[ch::r,0,b1,b2,false,none,by rw[← h0]; try rfl,rfl,acQ _,by simp,k]
   clear k q
   rintro m O U' ⟨r2,d,bd,wb,we,v9,rfl,rfl,hr2,hm,k⟩
   unfold lW at k
   cases r2 with
   | nil =>
    show 7
    rw[cL]
    try refine ao rfl ?_
    show 7
    dsimp only[Gn]at k
    by_cases c1:0<d
    .rw[ad9 c1]at k
     change aD (aaB c1)
     exact fn_agI k
    rw[ad8 c1]at k
    change ao (aaA c1)
    cases bd
    .show 7
     cases hs
     .show 7
      exact fn_agI k
     .show 7
      exact fn_agI k
    .show 7
     cases we
     .show 7
      exact fn_agI k
     .show 7
      cases wb
      .show 7
       try refine aD rfl ?_
       show 7
       exact fn_agI k
      .show 7
       try refine ao rfl ?_
       try refine ao rfl ?_
       show 7
       exact fn_agI k
   | cons c2 r2 =>
    dsimp only at k
    simp only[aaE]at hm
    have hs2:=bC hr2
    show 7
    change aD (by rw[cL]; rfl)
    change aC hr2
    rw[bA]
    by_cases c1:c2=123
    .rw[ad9 c1]at k
     change aD (by rw[eq1]; simpa using c1)
     exact#[m-1,by omega,r2,_,_,_,_,_,rfl,rfl,hs2,by omega,k]
    rw[ad8 c1]at k
    change ao (by rw[eq1]; simpa using c1)
    by_cases c3:c2=125
    .rw[ad9 c3]at k
     change aD (by rw[eq1]; simpa using c3)
     by_cases c4:d-1<0
     .rw[ad9 c4]at k
      change aD (aaB c4)
      exact fn_agI k
     rw[ad8 c4]at k
     change ao (aaA c4)
     exact#[m-1,by omega,r2,_,_,_,_,_,rfl,rfl,hs2,by omega,k]
    rw[ad8 c3]at k
    change ao (by rw[eq1]; simpa using c3)
    rw[in2]
    by_cases c4:c2=93∨c2=34
    .rw[ad9 c4]at k
     change aD (aaB c4)
     exact#[m-1,by omega,r2,_,_,_,_,_,rfl,rfl,hs2,by omega,k]
    rw[ad8 c4]at k
    change ao (aaA c4)
    rw[in4]
    have after:∀(P:PP),((c2=91∨c2=36∨c2=59∨c2=92)∨du c2=true)->(∀ r3 v9,r3<:+r2->Q (.str (Gn hs (lW r3 d true true we))) U'->P.nxt [some (.str (ch::r)),some (.bool h),some (.str [ch]),some (.bool true),some (.bool hs),some (.bool true),some (.bool we),some (.int d),some (.int (pos (ch::r) r3)),v9] U')->(∀ O,Q (.str Av) U'->P.ret (.str Av) O U') ->
      wSs T F (match b_age with | .cons _ (.cons _ (.cons _ (.cons _ (.cons _ (.cons _ (.cons _ (.cons (.whl _ (.cons _ (.cons _ (.cons (.ife _ _ (.cons (.ife _ _ (.cons (.ife _ _ (.cons (.ife _ s _) _)) _)) _)) _)))) _)))))))=>s | _=>.nil) #[n+1,hd]
       [some (.str (ch::r)),some (.bool h),some (.str [ch]),some (.bool bd),some (.bool hs),some (.bool wb),some (.bool we),some (.int d),some (.int (pos (ch::r) r2)),some (.str [c2])] P U':=by
     intro P c5 kn kr
     rw[ad9 c5]at k
     unfold b_age
     show 1
     show 7
     by_cases c6:c2=92
     .rw[ad9 c6]at k
      change aD (by rw[eq1]; simpa using c6)
      cases r2 with
      | nil =>
       exists uL (by rw[rK]; simp)
       change aD (by rw[rK]; simp)
       exact kr _ k
      | cons c7 r3 =>
       dsimp only at k
       have pn:decide (pos (ch::r) (c7::r3)=((ch::r).length:Int))=false:=aaA (by unfold pos; simp; omega)
       change lU pn
       change aC hs2
       rw[eq1]
       by_cases c8:c7=10
       .rw[ad9 c8]at k
        exists uL (aaB c8)
        change aD (aaB c8)
        exact kr _ k
       rw[ad8 c8]at k
       change lU (aaA c8)
       change aC hs2
       rw[in3]
       by_cases c9:c7=123∨c7=125∨c7=92
       .rw[ad9 c9]at k
        change aD (aaB c9)
        rw[bA]
        exact kn r3 _ (acU _ _) k
       rw[ad8 c9]at k
       change ao (aaA c9)
       exact kn (c7::r3) _ (acQ _) k
     .rw[ad8 c6]at k
      change ao (by rw[eq1]; simpa using c6)
      exact kn r2 _ (acQ _) k
    unfold b_age at after
    by_cases c5:c2=91∨c2=36∨c2=59∨c2=92
    .exists uL (aaB c5)
     exists aD (aaB c5)
     refine after _ (.inl c5) (λr3 v9 h1 h2=>?_) λO h1=>fn_agI (X:=X) (O:=O) h1
     have:=h1.length_le
     exact#[m-1,by omega,r3,_,_,_,_,_,rfl,rfl,h1.trans hs2,by omega,h2]
    change lU (aaA c5)
    by_cases c6:du c2=true
    .exists uL c6
     exists aD c6
     refine after _ (.inr c6) (λr3 v9 h1 h2=>?_) λO h1=>fn_agI (X:=X) (O:=O) h1
     have:=h1.length_le
     exact#[m-1,by omega,r3,_,_,_,_,_,rfl,rfl,h1.trans hs2,by omega,h2]
    have c7:du c2=false:=by simpa using c6
    rw[ad8 (by rintro(z | z); exact c5 z; exact c6 z)]at k
    change lU c7
    exact#[m-1,by omega,r2,_,_,_,_,_,rfl,rfl,hs2,by omega,k]
  unfold b_age at main2
  show 7
  cases b1
  .show 7
   exact main2
  .show 7
   exact main2
 unfold b_age at main
 cases h
 .show 7
  exact main false rfl
 .show 7
  rw[eq1]
  exact main _ (Bool.true_and _).symm
let ZL{c:Nat}(h:c∉l):Txt.find (Cs l) (Cs [c]) = -1:=by
 have e:Builtin.Str.occurrences (Cs l) (Cs [c]) 0 (Cs l).length 1=[]:=by
  have q:=StrLaws.found_one (Cs l) c
  have q2:decide (c∈(Cs l).cps.toList)=false:=aaA (by simpa [Cs]using h)
  rw[q2]at q
  have q3:(Builtin.Str.occurrences (Cs l) (Cs [c]) 0 (Cs l).length 1).isEmpty=true:=by simpa [Cs]using q
  exact List.isEmpty_iff.mp q3
 unfold Txt.find
 rw[e]
let QB(c)(d):(Uq c d).length<=2:=by
 unfold Uq
 repeat' split
 all_goals simp
let adK:Txt.find (Cs [12,10,13,9,11]) (Cs [12])=0:=⋯
let adP:Txt.find (Cs [12,10,13,9,11]) (Cs [10])=1:=⋯
let adv:Txt.find (Cs [12,10,13,9,11]) (Cs [13])=2:=⋯
let ada:Txt.find (Cs [12,10,13,9,11]) (Cs [9])=3:=⋯
let ac7:Txt.find (Cs [12,10,13,9,11]) (Cs [11])=4:=⋯
let Pr(k:Q (.str (Uq ch deep)) U):aj T #[n+1,hd] (.ref 413) [.str [ch],.bool deep] Q X U:=by
 refine(aG 1 Qn (fm 44) rfl λF nd nb=>?_).call
 unfold b_af7
 show 0
 show 7
 change m_find
 change Wx
 unfold Uq at k
 by_cases c1:ch∈[12,10,13,9,11]
 .have go:∀(i:Int) (x:Nat),Txt.find (Cs [12,10,13,9,11]) (Cs [ch])=i->0<=i->[102,110,114,116,118][i.toNat]? = some x->Q (.str [92,x]) U->wSs T F (match b_af7 with | .cons _ s=>s | _=>.nil) #[n,hd] [some (.str [ch]),some (.bool deep),some (.int (Txt.find (Cs [12,10,13,9,11]) (Cs [ch])))] (PP.fn Q X) U:=by
   intro i x h1 h2 h3 h4
   rw[h1]
   unfold b_af7
   show 1
   show 7
   change aD (aaB h2)
   refine#[h2,?_]
   rw[h3]
   show 1
   change bf (by rw[acM]; simp)
   exact fn_agI h4
  simp only[acR,acX,or_false]at c1
  rcases c1 with rfl | rfl | rfl | rfl | rfl
  .exact go 0 102 adK ⋯ rfl k
  .exact go 1 110 adP ⋯ rfl k
  .exact go 2 114 adv ⋯ rfl k
  .exact go 3 116 ada ⋯ rfl k
  .exact go 4 118 ac7 ⋯ rfl k
 .rw[ZL c1]
  simp only[acR,acX,or_false,not_or]at c1
  have#[d1,d2,d3,d4,d5]:=c1
  rw[ad8 d1,ad8 d2,ad8 d3,ad8 d4,ad8 d5]at k
  change ao ⋯
  rw[in7]
  by_cases c2:ch=93∨ch=91∨ch=36∨ch=59∨ch=32∨ch=92∨ch=34
  .rw[ad9 c2]at k
   exists uL (aaB c2)
   change aD (aaB c2)
   change bf (by rw[acM]; simp)
   exact fn_agI k
  rw[ad8 c2]at k
  change lU (aaA c2)
  cases deep
  .show 7
   exact fn_agI (by simpa using k)
  .show 7
   rw[in2]
   by_cases c3:ch=123∨ch=125
   .change aD (aaB c3)
    change bf (by rw[acM]; simp)
    exact fn_agI (by simpa [c3]using k)
   .exists ao (aaA c3)
    change lU (aaA c3)
    exact fn_agI (by simpa [c3]using k)
let jR(sep):∀ ls:aX,(bJ sep ls).length<=(ls.map List.length).sum+ls.length*sep.length
 | []=>by simp[bJ]
 | [a]=>by simp[bJ]
 | a::b::r=>by
  have ih:=jR sep (b::r)
  show(a++sep++bJ sep (b::r)).length<=_
  simp only[aaG,acS,ad2,aaE,Nat.succ_mul]at ih ⊢
  omega
let zR(d):∀ l,((outF l d).map List.length).sum<=2*l.length
 | []=>by simp[outF]
 | c::l=>by
  have ih:=zR d l
  have:=QB c d
  simp only[outF,acS,ad2,aaE]at ih ⊢
  omega
let Kp(e)(h):(sW e h).length<=2*e.length+3:=by
 unfold sW
 split
 .omega
 .split
  .simp; omega
  .have h1:=jR [] ((if h=true/\e.head? = some 35 then [[92]]else [])++outF e (decide (ji e h=Av)))
   have h2:=zR (decide (ji e h=Av)) e
   have h3:(((if h=true/\e.head? = some 35 then [[92]]else []:aX)).map List.length).sum<=1:=by split <;> simp
   simp only[adH,List.sum_append,acT,Nat.mul_zero]at h1
   omega
let Qo(h):ji [] h=sY:=rfl
let Xe(hz:e.length<=4000000)(k:Q (.str (sW e h)) U):aj T #[n+3,hd] (.ref 421) [.str e,.bool h] Q X U:=by
 refine(fB 3 Wi (fm 45) (aaQ (i:=4) rfl) (by simp) (by simp) (by simp) λF nd nb=>?_).call
 unfold b_agr
 dsimp only[bO,List.length,List.drop,List.map,List.replicate,List.append,HAppend.hAppend,Append.append]
 show 7
 change Qc
 unfold sW at k
 by_cases c1:ji e h=RL
 .rw[ad9 c1]at k
  change aD (aaB c1)
  exact fn_agI k
 rw[ad8 c1]at k
 change ao (aaA c1)
 by_cases c2:ji e h=sY
 .rw[ad9 c2]at k
  change aD (aaB c2)
  change bf (by rw[acM]; simp; omega)
  change bf (by rw[acM]; simp; omega)
  exact fn_agI k
 rw[ad8 c2]at k
 change ao (aaA c2)
 intro a fa
 show 7
 cases e with
 | nil=>exact absurd (Qo h) c2
 | cons ch r =>
 have i0:∀{P:V->Prop} {U:Sg},P (.str [ch])->di T U (.str (ch::r)) (.int 0) P:=λq=>#[Int.le_refl 0,q]
 have main:∀ pre:aX,pre=(if h=true/\(ch::r).head? = some 35 then [[92]]else [])->wSs T F (match b_agr with | .cons _ (.cons _ (.cons _ (.cons _ (.cons _ s))))=>s | _=>.nil) #[n+2,hd]
   [some (.str (ch::r)),some (.bool h),some (.str (ji (ch::r) h)),some (.ref a),none] (PP.fn Q X) (U.set a (.list (sV pre))):=by
  intro pre hp
  rw[← hp]at k
  have hpl:pre.length<=1/\(pre.map List.length).sum<=1:=by rw[hp]; split <;> simp
  unfold b_agr
  show 1
  show 7
  refine#[.str (ch::r),rfl,?_]
  refine gF (src:=.str (ch::r)) nd nb (λo n z=>by cases z) (λo n z=>by cases z) (ch::r).length (λi O U' => ∃ v4,O=[some (.str (ch::r)),some (.bool h),some (.str (ji (ch::r) h)),some (.ref a),v4]/\U'=U.set a (.list (sV (pre++outF ((ch::r).take i) (decide (ji (ch::r) h=Av)))))) (λ_ _ _ _=>trivial) ?_ ?_ (ch::r).length 0 _ _ ∎ #[none,rfl,by simp[outF]]
  .rintro i O U' hi ⟨v4,rfl,rfl⟩
   obtain⟨x,hx⟩:∃ x,(ch::r)[i]? = some x:=#[_,aa1 hi]
   refine#[.str [x],by simp only[Src.item]; rw[hx]; rfl,?_]
   show 7
   change aN aq
   change Pr
   exists aH aq (by rw[acM]; unfold sV outF; simp only[ac0,aaG,List.length_take]; omega)
   rw[Sg.set_set]
   show 7
   refine#[_,rfl,?_]
   congr 2
   rw[List.take_add_one,hx]
   simp[sV,outF,Av]
   rfl
  .rintro O U' ⟨v4,rfl,rfl⟩
   refine#[by simp[Src.item],?_]
   rw[List.take_length]
   show 7
   change lH
   exists iy aq (km _) ?_
   .have:=zR (decide (ji (ch::r) h=Av)) (ch::r)
    simp only[adH,List.sum_append,acT,Nat.mul_zero,Nat.add_zero]
    rw[acM]
    omega
   show 7
   exact fn_agB (bx fa) k
 unfold b_agr at main
 cases h
 .show 7
  exact main [] (by simp)
 .show 7
  change i0
  rw[eq1]
  by_cases c3:ch=35
  .change aD (aaB c3)
   change aN aq
   exists aH aq (by rw[acM]; simp)
   rw[Sg.set_set]
   show 7
   exact main [[92]] (by simp[c3])
  .exists ao (aaA c3)
   change ao (aaA c3)
   exact main [] (by simp[c3])
let iZ:∀(b:Bool) (ls:aX),(quotes b ls).length=ls.length
 | _,[]=>rfl
 | b,x::r=>by simp[quotes,iZ false r]
let pH:∀(b:Bool) (ls:aX),((quotes b ls).map List.length).sum<=2*(ls.map List.length).sum+3*ls.length
 | _,[]=>by simp[quotes]
 | b,x::r=>by
  have ih:=pH false r
  have:=Kp x b
  simp only[quotes,acS,ad2,aaE]at ih ⊢
  omega
let uM(x):∀(b:Bool) (ls:aX),quotes b (ls++[x])=quotes b ls++[sW x (b&&ls.isEmpty)]
 | b,[]=>by cases b <;> rfl
 | b,y::r=>by simp[quotes,uM x false r]
let yu(ls:aX):(kZ ls).length<=2*(ls.map List.length).sum+4*ls.length:=by
 have h1:=jR [32] (quotes true ls)
 have h2:=pH true ls
 rw[iZ]at h1
 unfold kZ
 simp only[aaE,acT]at h1
 omega
let Tg:∀{ls:aX} {i:Nat} {x:LN},ls[i]? = some x->x.length<=(ls.map List.length).sum
 | y::r,0,x,h=>by cases h; simp
 | y::r,i+1,x,h=>by
  have:=Tg (i:=i) h
  simp only[acS,ad2]
  omega
let Rw.src{src:Src}(h:Rw U hd v src ls):srcOf U v=some src:=by
 cases h with
 | tup=>rfl
 | lst h=>simp only[srcOf]; rw[h]
let Rw.ok{v:V}{src:Src}{ls:aX}(h:Rw U hd v src ls):src.ok #[n,hd] U:=by
 cases h with
 | tup=>trivial
 | lst h=>exact#[rfl,by rw[h]; trivial]
let Rw.set{v:V}{src:Src}{ls:aX}{a:Addr}(h:Rw U hd v src ls)(f:bD U a)(c:Cell):Rw (U.set a c) hd v src ls:=by
 cases h with
 | tup=>exact .tup _
 | lst h=>exact .lst (f.keep c h)
let Tf{i:Nat}:(sV ls)[i]? = ls[i]?.map V.str:=by simp[sV]
let Rw.item{v:V}{src:Src}{ls:aX}(h:Rw U hd v src ls)(i:Nat):src.item U i=ls[i]?.map V.str:=by
 cases h with
 | tup=>exact Tf
 | lst h=>simp only[Src.item]; rw[h]; exact Tf
let nA(hr:Rw U hd v src ls)(hz:(ls.map List.length).sum<=2000000)(hn:ls.length<=10000)(k:Q (.str (kZ ls)) U):aj T #[n+4,hd] (.ref 428) [v] Q X U:=by
 refine(aG 2 Gd (fm 46) rfl λF nd nb=>?_).call
 unfold b_afK
 show 0
 show 7
 intro a fa
 show 7
 have hrs:=λx=>hr.set fa x
 refine#[src,(hrs _).src,?_]
 refine gF nd nb (λo n z=>by cases z) (λo n z=>by cases z) ls.length (λi O U' => ∃ v2,O=[some v,some (.ref a),v2]/\U'=U.set a (.list (sV (quotes true (ls.take i))))) ?_ ?_ ?_ ls.length 0 _ _ ∎ #[none,rfl,by simp[quotes,sV]]
 .rintro i O U' ⟨v2,rfl,rfl⟩
  exact(hrs _).ok
 .rintro i O U' hi ⟨v2,rfl,rfl⟩
  obtain⟨x,hx⟩:∃ x,ls[i]? = some x:=#[_,aa1 hi]
  refine#[.str x,by rw[(hrs _).item,hx]; rfl,?_]
  show 7
  change aN aq
  change aQ aq
  change Xe (by have:=Tg hx; omega)
  exists aH aq (by rw[acM]; unfold sV; rw[ac0,iZ,List.length_take]; omega)
  rw[Sg.set_set]
  show 7
  refine#[_,rfl,?_]
  congr 2
  rw[List.take_add_one,hx]
  show _=sV (quotes true (ls.take i++[x]))
  rw[uM]
  have:decide (((sV (quotes true (ls.take i))).length:Int)=0)=(true&&(ls.take i).isEmpty):=by
   unfold sV
   rw[ac0,iZ]
   cases ls.take i <;> simp
   omega
  rw[this]
  simp[sV]
 .rintro O U' ⟨v2,rfl,rfl⟩
  refine#[by rw[(hrs _).item]; simp,?_]
  rw[List.take_length]
  show 7
  change lH
  exists iy aq (km _) ?_
  .have:=pH true ls
   rw[iZ,acM]
   simp only[aaE,acT]
   omega
  show 7
  exact fn_agB (bx fa) k
let uJ{ls:aX}(hz:(ls.map List.length).sum<=2000000)(hn:ls.length<=10000)(k:Q (.str (kZ ls)) U):aj T #[n+5,hd] (.ref 456) [.tup (sV ls)] Q X U:=by
 refine(cu GR (fm 50) rfl λF nd nb=>?_).call
 unfold b_afE
 dsimp only[List.map]
 show 7
 change vK
 change nA (.tup ls) hz hn
 exact fn_agI k
let item_at{j ch:Nat}(h:l[j]? = some ch)(q:P (.str [ch])):di T U (.str l) (.int (j:Int)) P:=by
 unfold di
 show 1
 refine#[by omega,?_]
 rw[Int.toNat_natCast,h]
 exact q
let Mt(t:LN):cut t (some 0) (some (t.length:Int))=t:=by
 have:=gP (r':=[]) (acQ t) List.nil_suffix
 rw[mK,rK]at this
 simpa using this
have Trim(t:LN):Prop:=∃ a b,t.head? = some a/\du a=false/\t[t.length-1]? = some b/\du b=false/\b≠92
let Z5(ht:Trim t)(k:Q (.str t) U):aj T #[n+2,hd] (.ref 435) [.str t] Q X U:=by
 refine(aG 2 ZW (fm 47) rfl λF nd nb=>?_).call
 unfold b_agz
 show 0
 have#[a,b,h1,h2,h3,h4,_]:=ht
 have h5:t[0]? = some a:=by rw[← h1]; cases t <;> rfl
 have hl:0<t.length:=by cases t with | nil=>cases h1 | cons x r=>simp
 have hpos:decide ((0:Int)<(t.length:Int))=true:=aaB ∎
 have h0:∀{P:V->Prop},P (.str [a])->di T U (.str t) (.int 0) P:=λq=>item_at h5 q
 have hj:(t.length:Int)-1=((t.length-1:Nat):Int):=∎
 show 7
 change bT nd nb
 change aD hpos
 change h0
 exists ao h2
 change ao h2
 change bT nd nb
 change aD hpos
 rw[hj]
 change item_at h3
 exists ao h4
 change ao h4
 rw[Mt]
 exact fn_agI k
let Xw(h:t[t.length-1]? = some b)(hb:b≠92):Txt.endswith (Cs t) (Cs [92])=false:=by
 unfold Txt.endswith
 cases e:decide (0+(Cs [92]).length<=(Cs t).length)&&Builtin.Str.subAt (Cs t) (Cs [92]) ((Cs t).length-(Cs [92]).length)with
 | false=>rfl
 | true =>
  rw[acV,decide_eq_true_eq]at e
  have#[e1,e2]:=e
  have e3:(Cs [92]).length=1:=rfl
  rw[e3]at e1 e2
  have q:=(StrLaws.subAt_one (Cs t) 92 ((Cs t).length-1)).mp #[by show(Cs t).length-1+1<=_; omega,e2]
  have e4:(Cs t).cps.toList=t:=by simp[Cs]
  have e5:(Cs t).length=t.length:=by simp[Cs,Str.length]
  rw[e4,e5,h]at q
  cases q
  exact absurd rfl hb
let Af(ht:Trim t)(k:Q (.str t) U):aj T #[n+3,hd] (.ref 442) [.str t] Q X U:=by
 refine(aG 2 Ao (fm 48) rfl λF nd nb=>?_).call
 unfold b_ae8
 show 0
 show 7
 exists Z5 ht
 have#[a,b,h1,h2,h3,h4,h5]:=ht
 show 7
 change m_endswith
 change Gx
 change ao (Xw h3 h5)
 exact fn_agI k
let Sw{ls:aX}(ha:U a=some (.list (sV ls)))(ht:∀ l∈ls,Trim l)(hz:(ls.map List.length).sum<=2000000)(hn:ls.length<=10000)(k:Q (.str (bJ [32] ls)) U):aj T #[n+4,none] (.ref 449) [.ref a] Q X U:=by
 refine(aG 3 SM (fm 49) rfl λF nd nb=>?_).call
 unfold b_agn
 show 0
 show 7
 intro o fo
 show 7
 have hr:Rw U none (.ref a) (.lst a) ls:=.lst ha
 have hrs:=λx=>hr.set fo x
 refine#[.lst a,(hrs _).src,?_]
 refine gF nd nb (λo n z=>by cases z) (λo n z=>by cases z) ls.length (λi O U' => ∃ v2 v3,O=[some (.ref a),some (.ref o),v2,v3]/\U'=U.set o (.list (sV (ls.take i)))) ?_ ?_ ?_ ls.length 0 _ _ ∎ #[none,none,rfl,by simp[sV]]
 .rintro i O U' ⟨v2,v3,rfl,rfl⟩
  exact(hrs _).ok
 .rintro i O U' hi ⟨v2,v3,rfl,rfl⟩
  obtain⟨x,hx⟩:∃ x,ls[i]? = some x:=#[_,aa1 hi]
  have htx:=ht x (aaQ hx)
  refine#[.str x,by rw[(hrs _).item,hx]; rfl,?_]
  show 7
  change Af htx
  exists aD (aaB ?_)
  .have#[a,b,h1,_]:=htx
   rintro rfl
   cases h1
  show 7
  change aN aq
  exists aH aq (by rw[acM]; unfold sV; rw[ac0,List.length_take]; omega)
  rw[Sg.set_set]
  show 7
  refine#[_,_,rfl,?_]
  congr 2
  rw[List.take_add_one,hx]
  simp[sV]
 .rintro O U' ⟨v2,v3,rfl,rfl⟩
  refine#[by rw[(hrs _).item]; simp,?_]
  rw[List.take_length]
  show 7
  change lH
  exists iy aq (km _) ?_
  .rw[acM]
   simp only[aaE,acT]
   omega
  show 7
  exact fn_agB (bx fo) k
let rP(t)(k):(FJ t k).length<=k+3:=by
 unfold FJ
 split
 .simp; omega
 .omega
let Qz(hz:k<=1000)(h:Q (.str (FJ t k)) U):aj T #[n+1,hd] (.ref 167) [.str t,.int k] Q X U:=by
 refine(cu aa4 (fm 9) rfl λF nd nb=>?_).call
 unfold b_agE
 dsimp only[List.map]
 show 7
 unfold FJ at h
 by_cases c1:k<t.length
 .rw[ad9 c1]at h
  change aD (aaB ∎)
  have e:cut t none (some (k:Int))=t.take k:=by
   unfold cut clipAt
   simp
   split <;> omega
  rw[e]
  change bf (by rw[acM]; simp; omega)
  exact fn_agI h
 .rw[ad8 c1]at h
  change ao (aaA ∎)
  exact fn_agI h
let zY{d:Nat}(hd':d=48∨d=49)(k:Q (.int ((d:Int)-48)) U):aj T #[n+2,hd] (.ref 216) [.str [d],.int 10] Q X U:=by
 refine(aG 3 xN (fm 16) rfl λF nd nb=>?_).call
 unfold b_aeZ
 show 0
 show 7
 change ao (by simp)
 refine#[.str [d],rfl,?_]
 have e1:Dq d=(d:Int)-48:=by rcases hd' with rfl | rfl <;> rfl
 exists bU nd nb (λo n z=>by cases z) (λo n z=>by cases z) trivial
 dsimp only[Src.item]
 show 7
 change M3
 rw[e1]
 change lU (aaA ∎)
 change lU (aaA ∎)
 change KJ ⋯
 change bU nd nb (λo n z=>by cases z) (λo n z=>by cases z) trivial
 exact fn_agI (by simpa using k)
let Jk{d:Nat}(hd':d=48∨d=49)(k:Q (.int ((d:Int)-48)) U):aj T #[n+3,hd] (.ref 230) [.str [d]] Q X U:=by
 refine(aG 5 J8 (fm 18) rfl λF nd nb=>?_).call
 unfold b_af5
 show 0
 have hb:du d=false:=by rcases hd' with rfl | rfl <;> rfl
 have h0:∀{P:V->Prop},P (.str [d])->di T U (.str [d]) (.int 0) P:=λq=>item_at rfl q
 have h1:∀{P:V->Prop},P (.str [d])->di T U (.str [d]) (.int (([d]:LN).length-1)) P:=λq=>item_at rfl q
 have hp:decide ((0:Int)<(([d]:LN).length:Int))=true:=by simp
 show 7
 change bT nd nb
 change aD hp
 change h0
 exists ao hb
 change ao hb
 change bT nd nb
 change aD hp
 change h1
 exists ao hb
 change ao hb
 change aD hp
 change h0
 rw[in2]
 exists ao (aaA ∎)
 change ao (aaA ∎)
 exists ao (by simp)
 change ao (by simp)
 change ao (by simp)
 rw[Mt]
 change zY hd'
 try refine ao rfl ?_
 show 7
 exact fn_agI k
let Oj{d:Nat}(hd':d=48∨d=49)(k:Q (.bool (decide (d=49))) U):aj T #[n+4,hd] (.ref 237) [.str [d]] Q X U:=by
 refine(aG 3 Oh (fm 19) rfl λF nd nb=>?_).call
 unfold b_agg
 show 0
 show 7
 change Jk hd'
 try refine aD rfl ?_
 show 7
 refine adT ?_ k
 rcases hd' with rfl | rfl <;> rfl
let Jc(hd':d=48∨d=49)(k:Q (.bool (decide (d=49))) U):aj T #[n+5,hd] (.ref 244) [.str [d]] Q X U:=by
 refine(aG 1 Gp (fm 20) rfl λF nd nb=>?_).call
 unfold b_afI
 show 0
 show 7
 change Oj hd'
 try refine ao rfl ?_
 show 7
 exact fn_agI k
open Mo in show _
have jN(r:iw):Nat×LN :=
 let code:=if r.code=2/\r.level<=1 then r.ret else r.code
 if code=0∨code=1 then(code,r.value)else if code=3 then(1,[105,110,118,111,107,101,100,32,34,98,114,101,97,107,34,32,111,117,116,115,105,100,101,32,111,102,32,97,32,108,111,111,112])else if code=4 then(1,[105,110,118,111,107,101,100,32,34,99,111,110,116,105,110,117,101,34,32,111,117,116,115,105,100,101,32,111,102,32,97,32,108,111,111,112])
 else(1,[99,111,109,109,97,110,100,32,114,101,116,117,114,110,101,100,32,98,97,100,32,99,111,100,101,58,32]++dec code)
let pN:∀{l:List Vr} {q:List (Addr×Addr×Addr)},q.length=l.length->(dI l q).map (·.1)=Hr q
 | [],[],_=>rfl
 | v::l,p::q,h=>congrArg (λx=>p.1::p.2.1::x) (pN (Nat.succ.inj h))
let yN:∀{l:List Row} {q:List Addr},q.length=l.length->(gm l q).map (·.1)=q
 | [],[],_=>rfl
 | v::l,p::q,h=>congrArg (λx=>p::x) (yN (Nat.succ.inj h))
open Mo in show ∀{E:Hv}{H:HC}{w w' w'':Wo}{s s':cj}{U U' U'':Sg},_
let n7(lv:w.va.length=s.vars.length)(lr:w.rows.length=s.log.length):(facts E H w s).map (·.1)=addrs H w:=by
 unfold facts addrs
 rw[acS,acS,acS,acS,acS,acS,acS,acS,acS,adH,pN lv,yN lr]
let Inv.has(I:Inv E H w s U)(h:a∈addrs H w):∃ c,U a=some c:=by
 rw[← n7 I.lv I.lr]at h
 have#[p,hp,rfl]:=adw.mp h
 exact#[_,I.fs p hp]
let Inv.off(I:Inv E H w s U)(h:U a=none):a∉addrs H w:=λq=>by
 have#[c,e]:=I.has q
 rw[h]at e; cases e
let bD.no(f:bD U a):U a=none:=by
 cases e:U a with
 | none=>rfl
 | some c=>exact absurd (f a c e) (Nat.lt_irrefl _)
let az.refl:az H w U w U:=#[λ_ h=>h,λ_ _ h n=>#[h,n]]
let az.trans(x:az H w U w' U')(y:az H w' U' w'' U''):az H w U w'' U'' :=
 #[λa h=>y.own a (x.own a h),λa c h n=>let#[h1,n1]:=x.rest a c h n; y.rest a c h1 n1]
let az.Fp(x:az H w U w' U')(h:U' a=none)(n:a∉addrs H w'):U a=none:=by
 cases e:U a with
 | none=>rfl
 | some c=>rw[(x.rest a c e λq=>n (x.own a q)).1]at h; cases h
let az.grow(x:az H w U w' U')(y:aO U' U''):az H w U w' U'':=#[x.own,λa c h n=>let#[h1,n1]:=x.rest a c h n; #[y a c h1,n1]]
let az.new(x:az H w U w' U')(h:U' a=none):az H w U w' (U'.set a c):=x.grow λb c' e=>by
 rw[Sg.aa]; exact e
 intro z; rw[z,h]at e; cases e
let az.turn(x:az H w U w' U')(h:U a=none):az H w U w' (U'.set a c):=#[x.own,λb c' e n=>by
 have#[h1,n1]:=x.rest b c' e n
 rw[Sg.aa]; exact#[h1,n1]
 intro z; rw[z,h]at e; cases e]
let az.mine(x:az H w U w' U')(h:a∈addrs H w'):az H w U w' (U'.set a c):=#[x.own,λb c' e n=>by
 have#[h1,n1]:=x.rest b c' e n
 rw[Sg.aa]; exact#[h1,n1]
 intro z; exact n1 (z▸h)]
let Inv.Td(I:Inv E H w s U)(n:a∉addrs H w)(nt:a≠H.texts):Inv E H w s (U.set a c) :=
 #[λp hp=>by
  rw[Sg.aa]; exact I.fs p hp
  intro z; exact n (z▸(n7 I.lv I.lr▸adw.mpr #[p,hp,rfl])),I.nd,I.lv,I.lr,I.nm,by rw[Sg.aa _ _ (Ne.symm nt)]; exact I.tx,I.tn]
let Inv.fresh(I:Inv E H w s U)(h:U a=none):Inv E H w s (U.set a c):=I.Td (I.off h) λz=>by rw[z,I.tx]at h; cases h
let Inv.keep(I:Inv E H w s U)(h:aO U U'):Inv E H w s U':=#[λp hp=>h _ _ (I.fs p hp),I.nd,I.lv,I.lr,I.nm,h _ _ I.tx,I.tn]
let Facts.upd(h:Facts U (wc++(a,c)::wf))(nd:((wc++(a,c)::wf).map (·.1)).Nodup):Facts (U.set a c') (wc++(a,c')::wf):=λp hp=>by
 rw[adH,acS,List.nodup_append]at nd
 have#[_,n2,n3]:=nd
 have n4:=(adm.mp n2).1
 rcases ado.mp hp with h1 | h1
 .rw[Sg.aa _ _ (n3 _ (adw.mpr #[p,h1,rfl]) _ (.head _))]
  exact h p (ad4 _ h1)
 .rcases acR.mp h1 with rfl | h1
  .exact aq
  .have h2:p.1∈wf.map (·.1):=adw.mpr #[p,h1,rfl]
   rw[Sg.aa _ _ λz=>n4 (by rw[z]at h2; exact h2)]
   exact h p (adW _ (.tail _ h1))
let Inv.fnd(I:Inv E H w s U):((facts E H w s).map (·.1)).Nodup:=by rw[n7 I.lv I.lr]; exact I.nd
let Inv.N7(I:Inv E H w s U):U H.d=some (.dict (d9 E H s)):=I.fs _ (.head _)
let Inv.yZ(I:Inv E H w s U):U H.rounds=some (.list (sV s.rounds)):=I.fs (_,_) (.tail _ (.head _))
let Inv.nO(I:Inv E H w s U):U H.vars=some (.dict (cB s.vars w.va)):=I.fs (_,_) (.tail _ (.tail _ (.head _)))
let Inv.j5(I:Inv E H w s U):U H.log=some (.list (jf s.log w.rows)):=I.fs (_,_) (.tail _ (.tail _ (.tail _ (.head _))))
let Inv.Ol(I:Inv E H w s U):U H.h=some (.inst 749 H.d):=I.fs (_,_) (.tail _ (.tail _ (.tail _ (.tail _ (.head _)))))
let Inv.wO(I:Inv E H w s U):U H.tools=some (.dict (iY H)):=I.fs (_,_) (.tail _ (.tail _ (.tail _ (.tail _ (.tail _ (.head _))))))
let Inv.Sx(I:Inv E H w s U):U H.cmds=some (.dict (uK H)):=I.fs (_,_) (.tail _ (.tail _ (.tail _ (.tail _ (.tail _ (.tail _ (.tail _ (.head _))))))))
let H6:H.d∈addrs H w:=.head _
let CN:H.rounds∈addrs H w:=.tail _ (.head _)
let wL:H.vars∈addrs H w:=.tail _ (.tail _ (.head _))
let Q4:H.log∈addrs H w:=.tail _ (.tail _ (.tail _ (.head _)))
let Inv.ne(I:Inv E H w s U)(h:a∈addrs H w):a≠H.texts:=λz=>I.tn (z▸h)
let Inv.Hy(I:Inv E H w s U)(f:cj->cj)(hv:(f s).vars=s.vars)(hr:(f s).rounds=s.rounds)(hl:(f s).log=s.log):Inv E H w (f s) (U.set H.d (.dict (d9 E H (f s)))):=by
 refine#[?_,I.nd,by rw[hv]; exact I.lv,by rw[hl]; exact I.lr,by rw[hv]; exact I.nm,by rw[Sg.aa _ _ (Ne.symm (I.ne H6))]; exact I.tx,I.tn]
 have q:=Facts.upd (wc:=[]) (c' := .dict (d9 E H (f s))) I.fs I.fnd
 unfold facts
 rw[hv,hr,hl]
 exact q
let Inv.Jm(I:Inv E H w s U)(t):Inv E H w { s with rounds:=s.rounds++[t] } (U.set H.rounds (.list (sV (s.rounds++[t])))) :=
 #[Facts.upd (wc:=[_]) (c' := .list (sV (s.rounds++[t]))) I.fs I.fnd,I.nd,I.lv,I.lr,I.nm,by rw[Sg.aa _ _ (Ne.symm (I.ne CN))]; exact I.tx,I.tn]
open Mo in show ∀{T:Tp}{c:Cx}{X:Addr->Ψ}{U U':Sg}{Q:V->Ψ}{n:Nat}{hd:Option Addr}{O:cZ}{P:V->Prop}{e d x:Addr}{r:iw},_
let aO.turn(s:aO U U'){c:Cell}(h:U a=none):aO U (U'.set a c):=λb c' q=>by
 rw[Sg.aa]; exact s b c' q
 intro z; rw[z,h]at q; cases q
let wX(h:U a=some u)(k:U b=some v)(n:u≠v):a≠b:=λz=>n (by rw[z,k]at h; injection h with h; exact h.symm)
let iT.ed(h:iT U e d x r):e≠d:=wX h.he h.hd (by intro z; cases z)
let iT.xd(h:iT U e d x r):x≠d:=wX h.hx h.hd (by intro z; cases z)
let iT.turn(h:iT U e d x r)(r':iw):iT (U.set d (.dict (vY r' x))) e d x r':=#[(Sg.aa _ _ h.ed).trans h.he,aq,(Sg.aa _ _ h.xd).trans h.hx]
let iT.sub(h:iT U e d x r)(s:aO U U'):iT U' e d x r:=#[s _ _ h.he,s _ _ h.hd,s _ _ h.hx]
let dh(h:iT U e d x r)(q:P (.int r.code)):aY U (.ref e) n_code P:=oZ h.he h.hd ⋯ rfl rfl q
let lD(h:iT U e d x r)(q:P (.str r.value)):aY U (.ref e) n_value P:=oZ h.he h.hd ⋯ rfl rfl q
let uP(h:iT U e d x r)(q:P (.tup (sV r.ec))):aY U (.ref e) n_errorcode P:=oZ h.he h.hd ⋯ rfl rfl q
let xH(h:iT U e d x r)(q:P (.int r.level)):aY U (.ref e) n_level P:=oZ h.he h.hd ⋯ rfl rfl q
let Bv(h:iT U e d x r)(q:P (.int r.ret)):aY U (.ref e) n_ret P:=oZ h.he h.hd ⋯ rfl rfl q
let qe(h:iT U e d x r)(q:P (.str r.info)):aY U (.ref e) n_info P:=oZ h.he h.hd ⋯ rfl rfl q
let Wc(h:iT U e d x r)(q:P (.bool r.noted)):aY U (.ref e) n_is_noted P:=oZ h.he h.hd ⋯ rfl rfl q
let KR(h:iT U e d x r)(q:P (.int r.line)):aY U (.ref e) n_line P:=oZ h.he h.hd ⋯ rfl rfl q
let VM(h:iT U e d x r)(q:P (.ref x)):aY U (.ref e) n_extra P:=oZ h.he h.hd ⋯ rfl rfl q
open Mo in show ∀{T:Tp}{c:Cx}{X:Addr->Ψ}{U U':Sg}{Q:V->Ψ}{n:Nat}{hd:Option Addr}{O:cZ}{P:V->Prop}{e d x:Addr}{r:iw}{P:Ψ},_
let Z2(h:iT U e d x r)(q:P (U.set d (.dict (vY { r with code:=k } x)))):fK U (.ref e) n_code (.int k) P:=jt h.he h.hd ⋯ cC q
let M7(h:iT U e d x r)(q:P (U.set d (.dict (vY { r with level:=k } x)))):fK U (.ref e) n_level (.int k) P:=jt h.he h.hd ⋯ cC q
let abD(h:iT U e d x r)(q:P (U.set d (.dict (vY { r with ret:=k } x)))):fK U (.ref e) n_ret (.int k) P:=jt h.he h.hd ⋯ cC q
let yL(h:iT U e d x r)(q:P (U.set d (.dict (vY { r with info:=l } x)))):fK U (.ref e) n_info (.str l) P:=jt h.he h.hd ⋯ cC q
let oA(h:iT U e d x r)(q:P (U.set d (.dict (vY { r with noted:=b } x)))):fK U (.ref e) n_is_noted (.bool b) P:=jt h.he h.hd ⋯ cC q
let JD(h:iT U e d x r)(q:P (U.set d (.dict (vY { r with line:=k } x)))):fK U (.ref e) n_line (.int k) P:=jt h.he h.hd ⋯ cC q
open Mo in show ∀{T:Tp}{c:Cx}{X:Addr->Ψ}{U U':Sg}{Q:V->Ψ}{n:Nat}{hd:Option Addr}{O:cZ}{P:V->Prop}{e d x:Addr}{r:iw},_
let Ml(q:P (.bi "Exception.__init__")):rG (.typ "Exception") n__init P:=#[rfl,q]
let Ej{code level ret:Nat}(he:U e=some (.exc 84 none))(h:∀ U' d x,bD U d->bD U x->aO (λa=>if a=e then none else U a) U'->iT U' e d x (dJ code value ec level ret)->Q .none U') :
  wSs T F b_ae5 c [some (.ref e),some (.int code),some (.str value),some (.tup (sV ec)),some (.int level),some (.int ret),none] (PP.fn Q X) U:=by
 unfold b_ae5
 show 7
 change Ml
 change yF #[81,.head _] he
 refine SX he ⋯ λd fd=>?_
 have nd:d≠e:=λz=>Nat.lt_irrefl _ (fd e _ he|>(z ▸ ·))
 have he1:((U.set d (.dict [(n_code,.int code)])).set e (.exc 84 (some d))) e=some (.exc 84 (some d)):=aq
 show 7
 change jt aq ((Sg.aa _ _ nd).trans aq) ⋯ cC
 exists jt ((Sg.aa _ _ (Ne.symm nd)).trans aq) aq ⋯ cC
 rw[Sg.set_set]
 show 7
 exists jt ((Sg.aa _ _ (Ne.symm nd)).trans aq) aq ⋯ cC
 rw[Sg.set_set]
 show 7
 exists jt ((Sg.aa _ _ (Ne.symm nd)).trans aq) aq ⋯ cC
 rw[Sg.set_set]
 show 7
 exists jt ((Sg.aa _ _ (Ne.symm nd)).trans aq) aq ⋯ cC
 rw[Sg.set_set]
 show 7
 exists jt ((Sg.aa _ _ (Ne.symm nd)).trans aq) aq ⋯ cC
 rw[Sg.set_set]
 show 7
 exists jt ((Sg.aa _ _ (Ne.symm nd)).trans aq) aq ⋯ cC
 rw[Sg.set_set]
 show 7
 intro x fx
 show 7
 have he2:=(Sg.aa ((U.set d (.dict [(n_code,.int code)])).set e (.exc 84 (some d))) (.dict [(n_code,.int code),(n_value,.str value),(n_errorcode,.tup (sV ec)),(n_level,.int level),(n_ret,.int ret),(n_info,.str []),(n_is_noted,.bool false),(n_line,.int 0)]) (Ne.symm nd)).trans he1
 have xe:=fx e _ he2
 have xd:=fx d _ aq
 change jt ((Sg.aa _ _ (adl xe)).trans he2) ((Sg.aa _ _ (adl xd)).trans aq) ⋯ cC
 have fx':bD U x:=λb cc q=>by
  by_cases z:b=e
  .exact z▸xe
  .exact fx b cc (by rw[Sg.aa _ _ (fd.ne q),Sg.aa _ _ z,Sg.aa _ _ (fd.ne q)]; exact q)
 refine fn_agC (h _ d x fd fx' ?_ #[(Sg.aa _ _ (Ne.symm nd)).trans ((Sg.aa _ _ (adl xe)).trans he2),aq,(Sg.aa _ _ (Ne.symm (adl xd))).trans aq])
 intro b cc q
 replace q:(if b=e then none else U b)=some cc:=q
 by_cases z:b=e
 .rw[ad9 z]at q; cases q
 .rw[ad8 z]at q
  rw[Sg.aa _ _ (fd.ne q),Sg.aa _ _ (fx'.ne q),Sg.aa _ _ (fd.ne q),Sg.aa _ _ z,Sg.aa _ _ (fd.ne q)]
  exact q
let FN(fe:bD U e)(s:aO (λa=>if a=e then none else(U.set e (.exc 84 none)) a) U'):aO U U':=λb cc q=>s b cc (by
 show(if b=e then none else _)=_
 rw[ad8 (fe.ne q),Sg.aa _ _ (fe.ne q)]; exact q)
let jK(fe:bD (U.set e (.exc 84 none)) d)(h:bD U e):U d=none:=bD.no λb cc q=>fe b cc (by rw[Sg.aa _ _ (h.ne q)]; exact q)
let Us{code level ret:Nat}(h:∀ e U',Tt U U' e (dJ code value ec level ret)->Q (.ref e) U') :
  aj T #[n+2,hd] (.ref 84) [.int code,.str value,.tup (sV ec),.int level,.int ret] Q X U:=by
 refine call_exc (.head _) (by rw[acM]; simp) λe fe=>(fB 1 jz (fm 2) (.head _) (by simp) (by simp) (by simp) λF nd nb=>?_).call
 exact Ej aq λU' d x fd fx s a=>#[rfl,h e U' #[FN fe s,fe,d,x,jK fd fe,jK fx fe,a]]
let Qd{code:Nat}(h:∀ e U',Tt U U' e (dJ code value ec 0 0)->Q (.ref e) U') :
  aj T #[n+2,hd] (.ref 84) [.int code,.str value,.tup (sV ec)] Q X U:=by
 refine call_exc (.head _) (by rw[acM]; simp) λe fe=>(fB 1 jz (fm 2) (.head _) (by simp) (by simp) (by simp) λF nd nb=>?_).call
 exact Ej aq λU' d x fd fx s a=>#[rfl,h e U' #[FN fe s,fe,d,x,jK fd fe,jK fx fe,a]]
let BR{code:Nat}(h:∀ e U',Tt U U' e (dJ code value [[78,79,78,69]] 0 0)->Q (.ref e) U') :
  aj T #[n+2,hd] (.ref 84) [.int code,.str value] Q X U:=by
 refine call_exc (.head _) (by rw[acM]; simp) λe fe=>(fB 1 jz (fm 2) (.head _) (by simp) (by simp) (by simp) λF nd nb=>?_).call
 exact Ej (ec:=[[78,79,78,69]]) aq λU' d x fd fx s a=>#[rfl,h e U' #[FN fe s,fe,d,x,jK fd fe,jK fx fe,a]]
let Nv(h:∀ e U',Tt U U' e (dJ 1 value ec 0 0)->Q (.ref e) U'):aj T #[n+3,hd] (.ref 139) [.str value,.tup (sV ec)] Q X U:=by
 refine(fB 1 Ws (fm 5) (aaQ (i:=2) rfl) (by simp) (by simp) (by simp) λF nd nb=>?_).call
 unfold b_agq
 show 7
 exact Qd λe U' z=>fn_agI (h e U' z)
open Mo in show ∀{T:Tp}{c:Cx}{X:Addr->Ψ}{U U':Sg}{Q:V->Ψ}{n:Nat}{hd:Option Addr}{O:cZ}{e d x:Addr}{r:iw},_
let aO.trans'{a b c:Sg}(x:aO a b)(y:aO b c):aO a c:=λu cc h=>y u cc (x u cc h)
let Sg.self{c:Cell}(h:U a=some c):U.set a c=U:=by
 funext b
 by_cases z:b=a
 .subst z; rw[Sg.set_same,h]
 .exact Sg.aa _ _ z
let iT.same(a:iT U e d x r):U.set d (.dict (vY r x))=U:=Sg.self a.hd
let cM(h:a<=4000000):a<=sizeLine:=by rw[acM]; omega
let dK(h:a<=2000000)(k:b<=2000000):a+b<=sizeLine:=cM (Nat.add_le_add h k)
let gZ{a b:LN}(h:a.length<=u)(k:b.length<=v)(q:u+v<=w):(a++b).length<=w:=by rw[aaG]; exact aaC (Nat.add_le_add h k) q
let abU{a b:Nat}:decide ((a:Int)=(b:Int))=decide (a=b):=by by_cases h:a=b <;> simp[h] <;> omega
let QH{a b:Nat}:decide ((a:Int)≠(b:Int)) = !decide (a=b):=by by_cases h:a=b <;> simp[h] <;> omega
let S8(a:iT U e d x r)(sm:small r)(k:Q .none (U.set d (.dict (vY (Gq r src) x)))):aj T #[n+2,hd] (.ref 174) [.ref e,.str src] Q X U:=by
 exists Yw,10,b_agw
 change dh a
 unfold Gq Rr at k
 have z1:=aaC (adt _ _) sm.1
 have z2:=aaC (Nat.le_add_left _ _) sm.1
 have z3:=rP src 150
 by_cases c:r.code=1
 .rw[ad8 (λz=>z c)]at k
  change ao (by rw[c]; rfl)
  change qe a
  by_cases c2:r.info=[]
  .rw[ad9 c2]at k
   change aD (aaB c2)
   change lD a
   change bf (dK (aaC z1 ⋯) ⋯)
   change Qz ⋯
   have z4:=gZ (w:=1001000) z1 (abW _) ⋯ (b:=[10,32,32,32,32,119,104,105,108,101,32,101,120,101,99,117,116,105,110,103,10,34])
   change bf (dK (aaC z4 ⋯) (aaC z3 ⋯))
   change bf (dK (aaC (gZ (w:=1002000) z4 z3 ⋯) ⋯) ⋯)
   change yL a
   exists oA (a.turn _)
   rw[Sg.set_set]
   show 7
   exact fn_agC k
  .rw[ad8 c2]at k
   change ao (aaA c2)
   change Wc a
   cases c3:r.noted with
   | true =>
    rw[c3,ad9 rfl]at k
    show 7
    change qe a
    change bf (dK (aaC z2 ⋯) ⋯)
    change Qz ⋯
    have z4:=gZ (w:=1001000) z2 (abW _) ⋯ (b:=[10,32,32,32,32,105,110,118,111,107,101,100,32,102,114,111,109,32,119,105,116,104,105,110,10,34])
    change bf (dK (aaC z4 ⋯) (aaC z3 ⋯))
    change bf (dK (aaC (gZ (w:=1002000) z4 z3 ⋯) ⋯) ⋯)
    change yL a
    exists oA (a.turn _)
    rw[Sg.set_set]
    show 7
    exact fn_agC k
   | false =>
    rw[c3,ad8 Bool.false_ne_true]at k
    show 7
    change oA a
    exact fn_agC k
 .rw[ad9 c,a.same]at k
  change aD (by rw[show(1:Int)=((1:Nat):Int)from rfl,QH,aaA c]; rfl)
  exact fn_agI k
let JC{t:LN}(a:iT U e d x r)(sm:small r)(ht:t.length<=10000)(k:Q .none (U.set d (.dict (vY (ou r t) x)))):aj T #[n+1,hd] (.ref 181) [.ref e,.str t] Q X U:=by
 exists Kr,11,b_afV
 change dh a
 unfold ou at k
 have z1:=aaC (adt _ _) sm.1
 have z2:=aaC (Nat.le_add_left _ _) sm.1
 by_cases c:r.code=1
 .rw[ad8 (λz=>z c)]at k
  change ao (by rw[c]; rfl)
  change qe a
  by_cases c2:r.info=[]
  .rw[ad9 c2]at k
   change aD (aaB c2)
   change lD a
   change yL a
   change qe (a.turn _)
   change bf (dK (aaC z1 ⋯) ⋯)
   change bf (dK (aaC (gZ (w:=1001000) z1 (abW _) ⋯) ⋯) (aaC ht ⋯))
   exists yL (a.turn _)
   rw[Sg.set_set]
   show 7
   exists oA (a.turn _)
   rw[Sg.set_set]
   show 7
   exact fn_agC k
  .rw[ad8 c2]at k
   change ao (aaA c2)
   change qe a
   change bf (dK (aaC z2 ⋯) ⋯)
   change bf (dK (aaC (gZ (w:=1001000) z2 (abW _) ⋯) ⋯) (aaC ht ⋯))
   change yL a
   exists oA (a.turn _)
   rw[Sg.set_set]
   show 7
   exact fn_agC k
 .rw[ad9 c,a.same]at k
  change aD (by rw[show(1:Int)=((1:Nat):Int)from rfl,QH,aaA c]; rfl)
  exact fn_agI k
let CZ(a:iT U e d x r)(k:Q (.str (s7 r)) U):aj T #[n+1,hd] (.ref 758) [.ref e] Q X U:=by
 exists Ob,87,b_aga
 change qe a
 unfold s7 at k
 by_cases c2:r.info=[]
 .rw[ad9 c2]at k
  change aD (aaB c2)
  change lD a
  exact fn_agI k
 .rw[ad8 c2]at k
  change ao (aaA c2)
  change qe a
  exact fn_agI k
let Rx(hy:1<=y.length)(ht:t.length<=100000):(∀ p∈Txt.split (Cs t) (Cs y),p.length<=sizeLine)/\(Txt.split (Cs t) (Cs y)).length<=100001:=by
 have q:=split_weight (Cs t) (Cs y) (by simpa [Cs,Str.length]using hy)
 have e:(Cs t).length=t.length:=by simp[Cs,Str.length]
 rw[e]at q
 refine#[λp hp=>cM ?_,by omega]
 have:p.length<=((Txt.split (Cs t) (Cs y)).map (λx=>x.length)).sum:=by
  have#[a,b,h]:=List.append_of_mem hp
  rw[h,adH,acS,List.sum_append,ad2]
  omega
 omega
let Xp(a:iT U e d x r)(sm:small r)(ht:tH t)(hl:t.length<=800)(hb:b<:+t)(he:en<:+aA 100001 b)(k:∀ U',iT U' e d x (gV r t b en)->(∀ u cc,u≠d->U u=some cc->U' u=some cc)->Q .none U') :
  aj T #[n+4,hd] (.ref 498) [.ref e,.str t,.int (pos t b),.int (pos t en)] Q X U:=by
 exists W7,54,b_ago
 change dh a
 unfold gV at k
 by_cases c:r.code=1
 .rw[ad8 (λz=>z c)]at k
  change ao (by rw[c]; rfl)
  have hs:aA 100001 b<:+t:=(cI _ _).trans hb
  change dC ht.1 hb (Nat.lt_succ_of_le (aaC hb.length_le ht.2.2))
  change KR a
  have e0:cut t none (some (pos t (aA 100001 b)))=t.take (t.length-(aA 100001 b).length):=by
   unfold cut
   simp only[Option.elim_none,Option.elim_some]
   rw[jJ hs]
   simp
  by_cases c2:r.line=0
  .rw[ad9 c2]at k
   change aD (by rw[c2]; rfl)
   rw[e0]
   change m_split
   have hlen:(t.take (t.length-(aA 100001 b).length)).length<=800:=aaC (List.length_take_le' _ _) hl
   have hz:=Rx (y:=[10]) (abW 1) (aaC hlen ⋯)
   refine Tc ⋯ (cM (Nat.add_le_add (aaC hlen (by decide:800<=3999998)) (abW _))) hz.1 (cM (aaC hz.2 ⋯)) λw fw=>?_
   show 7
   change aQ aq
   rw[ac0]
   have a1:=λy=>a.sub (bx (x:=y) fw)
   change JD (a1 _)
   rw[gP hs he]
   exists S8 ((a1 _).turn _) #[sm.1,sm.2.1,?_,sm.2.2.2]
   .have h2:=split_weight (Cs (t.take (t.length-(aA 100001 b).length))) (Cs [10]) (abW 1)
    have e1:(Cs (t.take (t.length-(aA 100001 b).length))).length=(t.take (t.length-(aA 100001 b).length)).length:=by simp[Cs,Str.length]
    rw[e1]at h2
    show(Txt.split _ _).length<=900
    omega
   show 7
   rw[Sg.set_set]
   exact fn_agC (k _ ((a1 _).turn _) λu cc n h=>(Sg.aa _ _ n).trans (bx fw _ _ h))
  .rw[ad8 c2]at k
   change ao (by rw[show(0:Int)=((0:Nat):Int)from rfl,abU,aaA c2])
   rw[gP hs he]
   change S8 a sm
   exact fn_agC (k _ (a.turn _) λu cc n h=>(Sg.aa _ _ n).trans h)
 .rw[ad9 c]at k
  change aD (by rw[show(1:Int)=((1:Nat):Int)from rfl,QH,aaA c]; rfl)
  exact fn_agI (k U a λu cc _ h=>h)
let wY(h:k<=900):(dec k).length<=5/\(Str.ofString (toString (k:Int))).length<=5:=by
 have h1:=int_text_length_le10 (a:=(k:Int)) (k:=4) ⋯ ∎
 have h2:(Str.ofString (toString (k:Int))).length<=5:=by rw[PySem.ofString_length]; exact h1
 exact#[h2,h2]
let mj(h:k<=900)(q:Q (.str (dec k)) U):aj T c (.typ "str") [.int (k:Int)] Q X U:=JT ∎ (cM (aaC (wY h).2 ⋯)) q
let ofEq{a b:Nat}{A B:Prop}(h:a=b)(k:A):if decide ((a:Int)=(b:Int))=true then A else B:=aD (aaB (by rw[h])) k
let tD{a b:Nat}{A B:Prop}(h:a≠b)(k:B):if decide ((a:Int)=(b:Int))=true then A else B:=ao (aaA ∎) k
have Eg(r:iw):LN ⊕ iw:=if r.ret=0 then .inl r.value else .inr { r with code:=r.ret,level:=if r.ret=2 then 1 else 0,ret:=0,noted:=true }
let Fy(a:iT U e d x r)(hh:∀ h,hd=some h->h<=e)(hx:∀ r',Eg r = .inr r'->R0 U e d x X r')(hq:∀ v,Eg r = .inl v->Q (.str v) U):aj T #[n+1,hd] (.ref 188) [.ref e] Q X U:=by
 refine(cu Ez (fm 12) rfl λF nd nb=>?_).call
 unfold b_afu
 unfold Eg at hx hq
 show 7
 change Bv a
 by_cases c:r.ret=0
 .change aD (by rw[c]; rfl)
  change lD a
  exact fn_agI (hq _ (ad9 c))
 .exists ao (aaA ∎)
  have hx:=hx _ (ad8 c)
  show 7
  change Bv a
  change Z2 a
  change Bv (a.turn _)
  have main:∀ lv:Nat,lv=(if r.ret=2 then 1 else 0)->fK (U.set d (.dict (vY { r with code:=r.ret } x))) (.ref e) n_level (.int lv) λxf=>wSs T F (match b_afu with | .cons _ (.cons _ (.cons _ s))=>s | _=>.nil) #[n,hd] [some (.ref e)] (PP.fn Q X) xf:=by
   intro lv hl
   exists M7 (a.turn _)
   rw[Sg.set_set]
   unfold b_afu
   show 7
   exists abD (a.turn _)
   rw[Sg.set_set]
   show 7
   exists oA (a.turn _)
   rw[Sg.set_set]
   show 7
   change vI (a.turn _).he (.inl rfl) hh
   subst hl
   exact fn_agL (hx.out _ _ _ _ (a.turn _) (λu cc n h=>(Sg.aa _ _ n).trans h) (.inl #[rfl,rfl,rfl]))
  by_cases c2:r.ret=2
  .change aD (by rw[c2]; rfl)
   exact main 1 (by rw[ad9 c2])
  .change tD c2
   exact main 0 (by rw[ad8 c2])
open Mo in show ∀{T:Tp}{c:Cx}{X:Addr->Ψ}{U U':Sg}{Q:V->Ψ}{n:Nat}{hd:Option Addr}{O:cZ}{e d x:Addr}{r:iw}{P:V->Prop}{a:Addr}{script label:LN}{back:Option LN}{ip:Bool},_
let CT:zK (oR o)=true:=by cases o <;> rfl
let n_g_script(h:jd U a d script back ip label)(q:P (.str script)):aY U (.ref a) n_script P:=fG h.ha h.hd ⋯ rfl rfl q
let n_g_back(h:jd U a d script back ip label)(q:P (oR back)):aY U (.ref a) n_back P:=fG h.ha h.hd ⋯ rfl CT q
let n_g_proc(h:jd U a d script back ip label)(q:P (.bool ip)):aY U (.ref a) n_is_proc P:=fG h.ha h.hd ⋯ rfl rfl q
let n_g_label(h:jd U a d script back ip label)(q:P (.str label)):aY U (.ref a) n_label P:=fG h.ha h.hd ⋯ rfl rfl q
let jd.sub(h:jd U a d script back ip label)(s:aO U U'):jd U' a d script back ip label:=#[s _ _ h.ha,s _ _ h.hd]
open Mo in show ∀{T:Tp}{c:Cx}{X:Addr->Ψ}{U U':Sg}{Q:V->Ψ}{n:Nat}{hd:Option Addr}{O:cZ}{e d x:Addr}{r:iw},_
have o7:PSs:=match b_afP with | .cons _ (.cons _ (.cons _ s))=>s | _=>.nil
let GQ(nn:jd U a nd' script back ip label)(a0:iT U e d x r)(hge:∀ h,hd=some h->h<=e)(xb)(uo ul x9)(wn)(v3)(a1:iT xb uo ul x9 wn)(sm1:small wn)(hs:∀ u cc,u≠d->U u=some cc->xb u=some cc)(hee:e<=uo)(hnew:uo=e/\ul=d/\x9=x∨U uo=none/\U ul=none/\U x9=none)(ho:R0 U e d x X { ou wn ([40,112,114,111,99,101,100,117,114,101,32,34]++FJ label 60++[34,32,108,105,110,101,32]++dec wn.line++[41])with line:=0 }) :
  wSs T F o7 #[n+3,hd] [some (.ref a),some (.ref e),some (.ref uo),v3] (PP.fn Q X) xb:=by
 have nn1:jd xb a nd' script back ip label:=#[hs _ _ (wX nn.ha a0.hd (by intro z; cases z)) nn.ha,hs _ _ (λz=>by
  have:=nn.hd
  rw[z,a0.hd]at this
  have q:n_code=n_script:=congrArg (λc=>match c with | some (Cell.dict (p::_))=>p.1 | _=>n_script) this
  exact absurd q ⋯) nn.hd]
 unfold o7 b_afP
 show 1
 show 7
 change n_g_label nn1
 change Qz ⋯
 have z1:=rP label 60
 change bf (dK ⋯ (aaC z1 ⋯))
 have z2:=gZ (w:=100) (a:=[40,112,114,111,99,101,100,117,114,101,32,34]) (abW _) z1 ⋯
 change bf (dK (aaC z2 ⋯) ⋯)
 change KR a1
 change mj sm1.2.2.1
 have z3:=gZ (w:=200) (b:=[34,32,108,105,110,101,32]) z2 (abW _) ⋯
 have z4:=(wY sm1.2.2.1).1
 change bf (dK (aaC z3 ⋯) (aaC z4 ⋯))
 have z5:=gZ (w:=300) z3 z4 ⋯
 change bf (dK (aaC z5 ⋯) ⋯)
 change JC a1 sm1 (gZ z5 (abW _) ⋯)
 exists JD (a1.turn _)
 rw[Sg.set_set]
 show 7
 change vI (a1.turn _).he (.inl rfl) (λh z=>aaC (hge h z) hee)
 refine fn_agL (ho.out _ _ _ _ (a1.turn _) (λu cc n h=>?_) hnew)
 rw[Sg.aa]
 .exact hs u cc n h
 .rcases hnew with⟨_,rfl,_⟩ | ⟨_,q,_⟩
  .exact n
  .intro z; rw[z,q]at h; cases h
let VP(w)(hw:w=if b=true then wc else wf)(h:Q (.str w) U):if b=true then wE T c (.kon (.str wc)) O Q X U else wE T c (.kon (.str wf)) O Q X U:=by
 subst hw
 cases b <;> exact h
let Ln{a nd':Addr}{script label:LN}(nn:jd U a nd' script back ip label)(hlb:label.length<=1000)(a0:iT U e d x r)(sm:small r)(hh:hd=some e)(hx:∀ r',m8 label r = .inr r'->R0 U e d x X r')(hq:∀ v,m8 label r = .inl v->Q (.str v) U):aj T #[n+4,hd] (.ref 195) [.ref a,.ref e] Q X U:=by
 refine(aG 2 Ju (fm 13) rfl λF nd nb=>?_).call
 have hge:∀ h,hd=some h->h<=e:=λh z=>by rw[hh]at z; cases z; exact abW _
 unfold b_afP
 unfold m8 at hx hq
 show 7
 change dh a0
 by_cases c:r.code=2
 .rw[ad9 c]at hx hq
  change ofEq c
  change xH a0
  by_cases c2:1<r.level
  .rw[ad9 c2]at hx
   change aD (aaB ∎)
   change xH a0
   rw[show(r.level:Int)-1=((r.level-1:Nat):Int) by omega]
   change M7 a0
   change vI (a0.turn _).he (.inl rfl) hge
   exact fn_agL ((hx _ rfl).out _ _ _ _ (a0.turn _) (λu cc n h=>(Sg.aa _ _ n).trans h) (.inl #[rfl,rfl,rfl]))
  .rw[ad8 c2]at hx hq
   change ao (aaA ∎)
   refine Fy a0 hge (λr' z=>?_) (λv z=>?_)
   .refine#[λe' d' x' U' h1 h2 h3=>?_]
    show 7
    exact fn_agL ((hx r' z).out e' d' x' U' h1 h2 h3)
   .show 7
    exact fn_agI (hq v z)
 .rw[ad8 c]at hx
  change tD c
  change dh a0
  by_cases c2:r.code=3∨r.code=4
  .rw[ad9 c2]at hx
   change aD (aaB (by simp; omega))
   change dh a0
   exists VP (if r.code=3 then [98,114,101,97,107]else [99,111,110,116,105,110,117,101]) (by by_cases c3:r.code=3 <;> simp[c3] <;> omega)
   have hw8:(if r.code=3 then [98,114,101,97,107]else [99,111,110,116,105,110,117,101]:LN).length<=8:=by split <;> decide
   generalize (if r.code=3 then [98,114,101,97,107]else [99,111,110,116,105,110,117,101]:LN)=w at hx hw8 ⊢
   show 7
   change bf (dK ⋯ (aaC hw8 ⋯))
   have z2:=gZ (w:=100) (a:=[105,110,118,111,107,101,100,32,34]) (abW _) hw8 ⋯
   change bf (dK (aaC z2 ⋯) ⋯)
   refine Nv (ec:=[[84,67,76],[82,69,83,85,76,84],[85,78,69,88,80,69,67,84,69,68]]) λuo xb #[s1,f1,ul,x9,nd1,nx1,a1]=>?_
   show 7
   change KR (a0.sub s1)
   exists JD a1
   show 8
   exists GQ nn a0 hge _ uo ul x9 _ _ (a1.turn _) #[?_,(by decide:wM [[84,67,76],[82,69,83,85,76,84],[85,78,69,88,80,69,67,84,69,68]]),sm.2.2.1,(by decide:1<=900),adD _,adD _] (λu cc _ h=>?_) (Nat.le_of_lt (f1 e _ a0.he)) (.inr #[f1.no,nd1,nx1])
   .exact aaC (gZ (w:=200) z2 (abW _) ⋯) ⋯
   .rw[Sg.aa]; exact s1 u cc h
    intro z; rw[z,nd1]at h; cases h
   .exact hx _ rfl
  .rw[ad8 c2]at hx
   exists ao (aaA (by simp; omega))
   show 8
   exact GQ nn a0 hge U e d x r none a0 sm (λu cc _ h=>h) (abW _) (.inl #[rfl,rfl,rfl]) (hx _ rfl)
let Dh(a:iT U e d x r)(sm:small r)(k:Q (.tup [.int (jN r).1,.str (jN r).2]) U):aj T #[n+1,hd] (.ref 512) [.ref e] Q X U:=by
 exists 2,Dj,56,b_afm
 exists dh a
 have main:∀ cd:Nat,cd<=900->jN r=(if cd=0∨cd=1 then(cd,r.value)else if cd=3 then(1,[105,110,118,111,107,101,100,32,34,98,114,101,97,107,34,32,111,117,116,115,105,100,101,32,111,102,32,97,32,108,111,111,112])else if cd=4 then(1,[105,110,118,111,107,101,100,32,34,99,111,110,116,105,110,117,101,34,32,111,117,116,115,105,100,101,32,111,102,32,97,32,108,111,111,112])else(1,[99,111,109,109,97,110,100,32,114,101,116,117,114,110,101,100,32,98,97,100,32,99,111,100,101,58,32]++dec cd)) ->
   wSs T F (match b_afm with | .cons _ (.cons _ s)=>s | _=>.nil) #[n,hd] [some (.ref e),some (.int cd),none] (PP.fn Q X) U:=by
  intro cd hcd ho
  unfold b_afm
  rw[ho]at k
  show 7
  by_cases c1:cd=0∨cd=1
  .rw[ad9 c1]at k
   change aD (aaB (by simp; omega))
   change lD a
   exact fn_agI k
  rw[ad8 c1]at k
  change ao (aaA (by simp; omega))
  by_cases c2:cd=3
  .rw[ad9 c2]at k
   change ofEq c2
   exact fn_agI k
  rw[ad8 c2]at k
  change tD c2
  by_cases c3:cd=4
  .rw[ad9 c3]at k
   change ofEq c3
   exact fn_agI k
  rw[ad8 c3]at k
  change tD c3
  change mj hcd
  change bf (dK ⋯ (aaC (wY hcd).1 ⋯))
  exact fn_agI k
 unfold jN at main
 by_cases c1:r.code=2
 .show 7
  change ofEq c1
  change xH a
  by_cases c2:r.level<=1
  .change aD (aaB ∎)
   exists Bv a
   show 8
   exact main r.ret sm.2.2.2.2.2 (by rw[ad9 (show r.code=2/\r.level<=1 from#[c1,c2])])
  .exists ao (aaA ∎)
   exists ao (aaA ∎)
   show 8
   exact main r.code sm.2.2.2.1 (by rw[ad8 (show ¬(r.code=2/\r.level<=1)from λz=>c2 z.2)])
 .show 7
  exists tD c1
  exists tD c1
  show 8
  exact main r.code sm.2.2.2.1 (by rw[ad8 (show ¬(r.code=2/\r.level<=1)from λz=>c1 z.1)])
let wC(a:iT U e d x r)(sm:small r)(ok:¬(r.code=2/\r.ret=1))(k:∀ o,bD U o->Q (.ref o) (U.set o (.list (sV (lJ r))))):aj T #[n+6,hd] (.ref 765) [.ref e] Q X U:=by
 refine(aG 2 vV (fm 88) rfl λF nd nb=>?_).call
 unfold b_aeV
 unfold lJ at k
 show 7
 change uP a
 change uJ sm.2.1.1 (aaC sm.2.1.2 ⋯)
 change dh a
 by_cases c1:r.code=1
 .rw[ad9 c1]at k
  change ofEq c1
  change CZ a
  intro o fo
  show 7
  exact fn_agI (k o fo)
 .rw[ad8 c1]at k
  change tD c1
  intro o fo
  have a1:=λy=>a.sub (bx (x:=y) fo)
  show 7
  change dh (a1 _)
  by_cases c2:r.code=2
  .change ofEq c2
   change Bv (a1 _)
   have c3:=λz=>ok #[c2,z]
   exists tD c3
   change tD c3
   exact fn_agI (k o fo)
  .exists tD c2
   change tD c2
   exact fn_agI (k o fo)
let yJ(k:Q (.str (xF none)) U):aj T #[n+1,hd] (.ref 772) [.none] Q X U:=by
 exists 5,mR,89,b_ae3
 exact fn_agI k
let yt(a:iT U e d x r)(sm:small r)(ok:Gy (some r))(k:Q (.str (xF (some r))) U):aj T #[n+7,none] (.ref 772) [.ref e] Q X U:=by
 exists 5,mR,89,b_ae3
 exists dh a
 have main:∀ cd lv:Nat,cd<=900->lv<=900->cd=(if r.code=2 then r.ret else r.code)->lv=(if r.code=2 then r.level else 0) ->
   wSs T F (match b_ae3 with | .cons _ (.cons _ (.cons _ (.cons _ s)))=>s | _=>.nil) #[n+6,none] [some (.ref e),some (.int cd),some (.int lv),none,none,none] (PP.fn Q X) U:=by
  intro cd lv h1 h2 e1 e2
  unfold b_ae3
  show 7
  change mj h1
  change mj h2
  intro o fo
  have a1:=λy=>a.sub (bx (x:=y) fo)
  show 7
  change Rn aq
  refine wC (a1 _) sm ok.2 λo2 fo2=>?_
  have n2:o≠o2:=λz=>by
   have q:=fo2.no
   rw[← z,Sg.set_same]at q; cases q
  show 7
  change Qk ((Sg.aa _ _ n2).trans aq) aq (cM (by unfold lJ; split <;> simp[sV]))
  have a3:=λz w=>a.sub (aO.turn (c:=w) (aO.trans' (bx fo) (bx (x:=z) fo2)) fo.no)
  change VM (a3 _ _)
  refine#[.lst x,by simp only[srcOf]; rw[(a3 _ _).hx],?_]
  refine bU nd nb (λo n z=>by cases z) (λo n z=>by cases z) #[rfl,by rw[(a3 _ _).hx]; trivial] ?_
  simp only[Src.item]
  rw[(a3 _ _).hx]
  show 7
  exists nA (.lst ?_) ok.1.1 (aaC ok.1.2 ⋯)
  .rw[Sg.set_same,e1,e2]
   simp[optItems,sV]
  show 7
  exact fn_agB (aO.turn (aO.trans' (bx fo) (bx fo2)) fo.no) k
 by_cases c1:r.code=2
 .show 7
  change ofEq c1
  change Bv a
  exists xH a
  show 8
  exact main r.ret r.level sm.2.2.2.2.2 sm.2.2.2.2.1 (by rw[ad9 c1]) (by rw[ad9 c1])
 .show 7
  exists tD c1
  show 8
  exact main r.code 0 sm.2.2.2.1 ⋯ (by rw[ad8 c1]) (by rw[ad8 c1])
open Mo in show _
have vD{α:Type}(E:Hv)(H:HC)(w:Wo)(U:Sg)(R:α->Wo->Sg->V->Prop)(Q:V->Ψ)(X:Addr->Ψ):Rs α->Prop
 | .ok a s' => ∀ w' U' v,Inv E H w' s' U'->az H w U w' U'->R a w' U' v->Q v U'
 | .dJ r s' => ∀ w' U' e d x,Inv E H w' s' U'->az H w U w' U'->DG H w' U U' e d x r->X e U'
 | .out s' => ∀ w' U' e d,Inv E H w' s' U'->az H w U w' U'->Ro H w' U' e d->X e U'
have At{α:Type}(T:Tp)(E:Hv)(H:HC)(m:Mo α)(R:α->Wo->Sg->V->Prop)(c:Cx)(f:V)(vs:List V)(w:Wo)(s:cj)(U:Sg):Prop :=
 ∀ r Q X,m s=some r->vD E H w U R Q X r->aj T c f vs Q X U
have jg(a:LN)(_:Wo)(_:Sg)(v:V):Prop:=v = .str a
have R7(_:Unit)(_:Wo)(_:Sg)(v:V):Prop:=v = .none
open Mo in show ∀{T:Tp}{c:Cx}{X X0:Addr->Ψ}{U U' U1 U2:Sg}{Q Q0:V->Ψ}{n:Nat}{hd:Option Addr}{O:cZ}{E:Hv}{H:HC}{w w' w1 w2:Wo}{s s' s1 s2:cj},_
let DG.back(h:DG H w' U1 U' e d x r)(k:az H w U w1 U1)(k2:az H w1 U1 w' U'):DG H w' U U' e d x r :=
 #[h.a,k.Fp h.nd λq=>h.od (k2.own _ q),h.oe,h.od,h.ox]
let DG.keep(h:DG H w1 U U1 e d x r)(k:az H w1 U1 w2 U2):DG H w2 U U2 e d x r :=
 #[#[(k.rest _ _ h.a.he h.oe).1,(k.rest _ _ h.a.hd h.od).1,(k.rest _ _ h.a.hx h.ox).1],h.nd,(k.rest _ _ h.a.he h.oe).2,(k.rest _ _ h.a.hd h.od).2,(k.rest _ _ h.a.hx h.ox).2]
let Ro.keep(h:Ro H w1 U1 e d)(k:az H w1 U1 w2 U2):Ro H w2 U2 e d :=
 #[(k.rest _ _ h.he h.oe).1,(k.rest _ _ h.hd h.od).1,(k.rest _ _ h.he h.oe).2,(k.rest _ _ h.hd h.od).2]
let vD.step{r:Rs α}(h:vD E H w U R Q X r)(k:az H w U w1 U1):vD E H w1 U1 R Q X r:=by
 cases r with
 | ok a s'=>exact λw' U' v i k' q=>h w' U' v i (k.trans k') q
 | dJ x s'=>exact λw' U' e d y i k' q=>h w' U' e d y i (k.trans k') (q.back k k')
 | out s'=>exact λw' U' e d i k' q=>h w' U' e d i (k.trans k') q
let At.use{R1:α->Wo->Sg->V->Prop}{r:Rs β}(D:At T E H m1 R1 c f vs w1 s1 U1)(hm:Mo.bnd m1 k s1=some r)(he:vD E H w1 U1 R Q0 X0 r)(hX:∀ e U',X0 e U'->X e U')(hQ:∀ a w2 s2 U2 v,k a s2=some r->Inv E H w2 s2 U2->az H w1 U1 w2 U2->R1 a w2 U2 v->Q v U2):aj T c f vs Q X U1:=by
 unfold Mo.bnd at hm
 cases e:m1 s1 with
 | none=>rw[e]at hm; cases hm
 | some z =>
  rw[e]at hm
  exists D z Q X e
  cases z with
  | ok a s'=>exact λw' U' v i k' q=>hQ a w' s' U' v hm i k' q
  | dJ x s' =>
   cases hm
   exact λw' U' e d y i k' q=>hX _ _ (he w' U' e d y i k' q)
  | out s' =>
   cases hm
   exact λw' U' e d i k' q=>hX _ _ (he w' U' e d i k' q)
let At.last{r:Rs α}(D:At T E H m R c f vs w1 s1 U1)(hm:m s1=some r)(he:vD E H w1 U1 R Q0 X0 r)(hX:∀ e U',X0 e U'->X e U')(hQ:∀ v U',Q0 v U'->Q v U'):aj T c f vs Q X U1:=by
 exists D r Q X hm
 cases r with
 | ok a s'=>exact λw' U' v i k' q=>hQ _ _ (he w' U' v i k' q)
 | dJ x s'=>exact λw' U' e d y i k' q=>hX _ _ (he w' U' e d y i k' q)
 | out s'=>exact λw' U' e d i k' q=>hX _ _ (he w' U' e d i k' q)
open Mo in show ∀{T:Tp}{c:Cx}{X X0:Addr->Ψ}{U U' U1 U2:Sg}{Q Q0:V->Ψ}{n:Nat}{hd:Option Addr}{O:cZ}{E:Hv}{H:HC}{w w' w1 w2:Wo}{s s' s1 s2:cj}{P:V->Prop},_
let ql(I:Inv E H w s U)(q:P (.ref H.tools)):aY U (.ref H.h) n_tools P:=fG I.Ol I.N7 ⋯ rfl rfl q
let Rz(I:Inv E H w s U)(q:P (.int 40)):aY U (.ref H.h) n_limit P:=fG I.Ol I.N7 ⋯ rfl rfl q
let J1:zK (lO o)=true:=by cases o <;> rfl
let Nk(I:Inv E H w s U)(q:P (lO E.fuel)):aY U (.ref H.h) n_fuel P:=fG I.Ol I.N7 ⋯ rfl J1 q
let jZ(I:Inv E H w s U)(q:P (.int s.depth)):aY U (.ref H.h) n_depth P:=fG I.Ol I.N7 ⋯ rfl rfl q
let eU(I:Inv E H w s U)(q:P (.int s.spent)):aY U (.ref H.h) n_spent P:=fG I.Ol I.N7 ⋯ rfl rfl q
let rF(I:Inv E H w s U)(q:P (oR s.frame)):aY U (.ref H.h) n_frame P:=fG I.Ol I.N7 ⋯ rfl CT q
let Ea(I:Inv E H w s U)(q:P (.ref H.vars)):aY U (.ref H.h) n_vars P:=fG I.Ol I.N7 ⋯ rfl rfl q
let Mu(I:Inv E H w s U)(q:P (.ref H.cmds)):aY U (.ref H.h) n_commands P:=fG I.Ol I.N7 ⋯ rfl rfl q
open Mo in show ∀{T:Tp}{c:Cx}{X X0:Addr->Ψ}{U U' U1 U2:Sg}{Q Q0:V->Ψ}{n:Nat}{hd:Option Addr}{O:cZ}{E:Hv}{H:HC}{w w' w1 w2:Wo}{s s' s1 s2:cj}{P:Ψ},_
let QR(I:Inv E H w s U)(q:P (U.set H.d (.dict (d9 E H { s with spent:=k })))):fK U (.ref H.h) n_spent (.int k) P:=dF I.Ol I.N7 ⋯ cC q
let GC(I:Inv E H w s U)(q:P (U.set H.d (.dict (d9 E H { s with depth:=k })))):fK U (.ref H.h) n_depth (.int k) P:=dF I.Ol I.N7 ⋯ cC q
let HW(I:Inv E H w s U)(q:P (U.set H.d (.dict (d9 E H { s with frame:=f })))):fK U (.ref H.h) n_frame (oR f) P:=dF I.Ol I.N7 ⋯ cC q
open Mo in show ∀{T:Tp}{c:Cx}{X X0:Addr->Ψ}{U U' U1 U2:Sg}{Q Q0:V->Ψ}{n:Nat}{hd:Option Addr}{O:cZ}{E:Hv}{H:HC}{w w' w1 w2:Wo}{s s' s1 s2:cj},_
let bM(I:Inv E H w s U)(hl:lkM 749 nm Kv=some f)(hn:lk nm (d9 E H s)=none)(q:P (.ref f) [.ref H.h]):MethP U (.ref H.h) nm P:=by
 unfold MethP
 show 1
 rw[I.Ol]
 show 1
 rw[I.N7,hl]
 exact#[hn,q]
let Ri(I:Inv E H w s U)(hv:lk (Cs name) (iY H)=some v)(k:Q v U):aj T #[n+1,hd] (.ref 534) [.ref H.h,.str name] Q X U:=by
 exists Iu,58,b_afL
 change ql I
 exists Fv I.wO
 change ao (by rw[hv]; rfl)
 change ql I
 change uA I.wO hv
 exact fn_agI k
let Hd(h:∀ e d U',bD U e->U d=none->aO U U'->U' e=some (.exc 63 (some d))->U' d=some (.dict [(n_why,.str zF)])->Q (.ref e) U'):aj T #[n+2,hd] (.ref 63) [.str zF] Q X U:=by
 refine call_exc (.tail _ (.head _)) (by rw[acM]; simp) λe fe=>(cu vO (fm 1) rfl λF nd nb=>?_).call
 unfold b_aeR
 show 7
 change Ml
 have he:(U.set e (.exc 63 none)) e=some (.exc 63 none):=aq
 change yF #[35,.tail _ (.head _)] he
 refine SX he ⋯ λd fd=>?_
 show 7
 have nd:d≠e:=λz=>Nat.lt_irrefl _ (fd e _ he|>(z ▸ ·))
 have nd0:=bD.no λb cc q=>fd b cc (by rw[Sg.aa _ _ (fe.ne q)]; exact q)
 refine fn_agC #[rfl,h e d _ fe nd0 (λb cc q=>?_) aq ((Sg.aa _ _ nd).trans aq)]
 rw[Sg.aa _ _ (fe.ne q),Sg.aa _ _ (λz=>by rw[z,nd0]at q; cases q),Sg.aa _ _ (fe.ne q)]
 exact q
let az.sub(k:aO U U'):az H w U w U':=az.refl.grow k
let xG(I:Inv E H w s U):At T E H (dM E) R7 #[n+3,none] (.ref 541) [.ref H.h] w s U:=by
 show 5
 refine(cu DQ (fm 59) rfl λF nd nb=>?_).call
 unfold b_afi
 unfold dM at hm
 show 7
 change eU I
 rw[show(s.spent:Int)+1=((s.spent+1:Nat):Int)from rfl]
 exists QR I
 have I1:=I.Hy (λs=>{ s with spent:=s.spent+1 }) rfl rfl rfl
 have K1:az H w U w _:=az.refl.mine (c:=.dict (d9 E H { s with spent:=s.spent+1 })) (H6)
 show 7
 exists Nk I1
 cases hf:E.fuel with
 | none =>
  rw[hf]at hm
  cases hm
  show 7
  exact fn_agC (he _ _ _ I1 K1 rfl)
 | some f =>
  rw[hf]at hm
  unfold lO
  show 7
  change eU I1
  exists Nk I1
  rw[hf]
  unfold lO
  show 7
  unfold over at hm
  by_cases c:f<s.spent+1
  .rw[ad9 (aaB c)]at hm
   cases hm
   have c':(f:Int)<((s.spent+1:Nat):Int):=∎
   change aD (aaB c')
   refine Hd λe d U' fe nd0 sb he1 hd1=>?_
   show 7
   change vI he1 (.inr rfl) (λh z=>by cases z)
   have I2:=I1.keep sb
   exact fn_agL (he _ _ _ _ I2 (K1.grow sb) #[he1,hd1,I1.off fe.no,I1.off nd0])
  .rw[ad8 (by simpa using c)]at hm
   cases hm
   have c' : ¬ (f:Int)<((s.spent+1:Nat):Int):=∎
   exists ao (aaA c')
   change ao (aaA c')
   exact fn_agC (he _ _ _ I1 K1 rfl)
open Mo in show _
have Vj(x:LN):List Vr->List (Addr×Addr×Addr)->Option (Addr×Addr×Addr)
 | v::r,p::q=>if x=v.name then some p else Vj x r q
 | _,_=>none
have oW(kd val:LN)(wr:Nat)(t:Addr):List (Str×V):=[(n_kind,.str kd),(n_value,.str val),(n_traces,.ref t),(n_is_busy,.bool false),(n_is_element,.bool false),(n_writes,.int wr)]
let RK:(Cs a=Cs b)=(a=b):=propext #[λh=>mk_inj h,λh=>by rw[h]]
let zQ:∀{l:List Vr} {q:List (Addr×Addr×Addr)},lk (Cs x) (cB l q)=(Vj x l q).map λp=>V.ref p.1
 | [],q=>by cases q <;> rfl
 | v::l,[]=>rfl
 | v::l,p::q=>by
  unfold cB Vj lk
  simp only[RK]
  by_cases h:x=v.name
  .rw[ad9 h,ad9 h]; rfl
  .rw[ad8 h,ad8 h]; exact zQ
let zL:∀{l:List Vr} {q:List (Addr×Addr×Addr)},zZ x l=some v->q.length=l.length->∃ p,Vj x l q=some p
 | [],q,h,_=>by cases h
 | u::l,[],h,e=>by cases e
 | u::l,p::q,h,e=>by
  unfold Vj
  unfold zZ at h
  by_cases c:x=u.name
  .exact#[p,ad9 c]
  .rw[ad8 c]at h ⊢
   exact zL h (Nat.succ.inj e)
let Ik:∀{l:List Vr} {q:List (Addr×Addr×Addr)},zZ x l=none->Vj x l q=none
 | [],q,h=>by cases q <;> rfl
 | u::l,[],h=>rfl
 | u::l,p::q,h=>by
  unfold Vj
  unfold zZ at h
  by_cases c:x=u.name
  .rw[ad9 c]at h; cases h
  .rw[ad8 c]at h ⊢
   exact Ik h
let rU:∀{l:List Vr} {q:List (Addr×Addr×Addr)},zZ x l=some v->Vj x l q=some p ->
  ∃ l1 l2,dI l q=l1++(p.1,.inst 473 p.2.1)::(p.2.1,.dict (Gu v p.2.2))::l2/\∀ y,dI (xW x y l) q=l1++(p.1,.inst 473 p.2.1)::(p.2.1,.dict (Gu #[v.name,y,v.wr+1] p.2.2))::l2
 | [],q,h,e=>by cases h
 | u::l,[],h,e=>by cases e
 | u::l,p'::q,h,e=>by
  unfold Vj at e
  unfold zZ at h
  by_cases c:x=u.name
  .rw[ad9 c]at h e
   cases h; cases e
   refine#[[],dI l q,rfl,λy=>?_]
   unfold xW
   rw[ad9 c]
   rfl
  .rw[ad8 c]at h e
   have#[l1,l2,e1,e2]:=rU h e
   refine#[(p'.1,.inst 473 p'.2.1)::(p'.2.1,.dict (Gu u p'.2.2))::l1,l2,?_,λy=>?_]
   .unfold dI; rw[e1]; rfl
   .unfold xW; rw[ad8 c]; unfold dI; rw[e2]; rfl
let n8:∀{l:List Vr},zZ x l=some v->(xW x y l).map Vr.name=l.map Vr.name
 | [],h=>by cases h
 | u::l,h=>by
  unfold zZ at h
  unfold xW
  by_cases c:x=u.name
  .rw[ad9 c]; rfl
  .rw[ad8 c]at h ⊢
   rw[acS,acS,n8 h]
let uI:∀{l l':List Vr} {q:List (Addr×Addr×Addr)},l.map Vr.name=l'.map Vr.name->cB l q=cB l' q
 | [],[],q,h=>rfl
 | [],_::_,q,h=>by cases h
 | _::_,[],q,h=>by cases h
 | u::l,v::l',[],h=>rfl
 | u::l,v::l',p::q,h=>by
  rw[acS,acS]at h
  injection h with h1 h2
  unfold cB
  rw[h1,uI h2]
let xu:∀{l:List Vr},zZ x l=none->xW x y l=l++[#[x,y,1]]
 | [],h=>rfl
 | u::l,h=>by
  unfold zZ at h
  unfold xW
  by_cases c:x=u.name
  .rw[ad9 c]at h; cases h
  .rw[ad8 c]at h ⊢
   rw[xu h]; rfl
let Gl:∀{l:List Vr},zZ x l=none->x∉l.map Vr.name
 | [],h,q=>by cases q
 | u::l,h,q=>by
  unfold zZ at h
  by_cases c:x=u.name
  .rw[ad9 c]at h; cases h
  .rw[ad8 c]at h
   rcases acR.mp q with q | q
   .exact c q
   .exact Gl h q
let CX:∀{l:List Vr} {q:List (Addr×Addr×Addr)},q.length=l.length->cB (l++[v]) (q++[p])=cB l q++[(Cs v.name,.ref p.1)]
 | [],[],_=>rfl
 | u::l,p'::q,h=>by
  show(Cs u.name,V.ref p'.1)::cB (l++[v]) (q++[p])=_
  rw[CX (Nat.succ.inj h)]; rfl
let xT:∀{l:List Vr} {q:List (Addr×Addr×Addr)},q.length=l.length->dI (l++[v]) (q++[p])=dI l q++[(p.1,.inst 473 p.2.1),(p.2.1,.dict (Gu v p.2.2))]
 | [],[],_=>rfl
 | u::l,p'::q,h=>by
  show(p'.1,Cell.inst 473 p'.2.1)::(p'.2.1,.dict (Gu u p'.2.2))::dI (l++[v]) (q++[p])=_
  rw[xT (Nat.succ.inj h)]; rfl
let Gv:∀{q:List (Addr×Addr×Addr)},Hr (q++[p])=Hr q++[p.1,p.2.1]
 | []=>rfl
 | p'::q=>by
  show p'.1::p'.2.1::Hr (q++[p])=_
  rw[Gv]; rfl
let CW:∀{l:List Vr} {q:List (Addr×Addr×Addr)},(cB l q).length<=l.length
 | [],q=>by cases q <;> exact abW _
 | u::l,[]=>adD _
 | u::l,p::q=>Nat.succ_le_succ CW
open Mo in show ∀{T:Tp}{c:Cx}{X X0:Addr->Ψ}{U U' U1 U2:Sg}{Q Q0:V->Ψ}{n:Nat}{hd:Option Addr}{O:cZ}{E:Hv}{H:HC}{w w' w1 w2:Wo}{s s' s1 s2:cj},_
let Ip{wr:Nat}(ha:U a=some (.inst 473 d))(hd':U d=some (.dict (oW kd y' wr t)))(k:Q (.str y) (U.set d (.dict (oW scalar y (wr+1) t)))) :
  aj T #[n+1,hd] (.ref 618) [.ref a,.str scalar,.str y] Q X U:=by
 refine(cu GK (fm 69) rfl λF nd nb=>?_).call
 unfold b_afB
 have ne:=wX ha hd' (by intro z; cases z)
 show 7
 change dF ha hd' ⋯ cC
 exists dF ((Sg.aa _ _ ne).trans ha) aq ⋯ cC
 rw[Sg.set_set]
 show 7
 change fG ((Sg.aa _ _ ne).trans ha) aq ⋯ rfl rfl
 exists dF ((Sg.aa _ _ ne).trans ha) aq ⋯ cC
 rw[Sg.set_set]
 show 7
 exact fn_agI k
let uO{wr:Nat}(ha:U a=some (.inst 473 d))(hd':U d=some (.dict (oW kd y' wr t)))(k:Q (.str y) (U.set d (.dict (oW scalar y (wr+1) t)))) :
  aj T #[n+2,hd] (.ref 675) [.ref H.h,.ref a,.str x,.str y] Q X U:=by
 exists mF,76,b_aey
 change Ip ha hd'
 exact fn_agI k
let abf(k:∀ d t,bD U d->U (d+1)=none->bD ((U.set d (.dict [(n_kind,.str [110,111,110,101]),(n_value,.str [])])).set (d+1) (.inst 473 d)) t->Q (.ref (d+1)) ((((U.set d (.dict [])).set (d+1) (.inst 473 d)).set t (.list [])).set d (.dict (oW [110,111,110,101] [] 0 t)))) :
  aj T #[n+2,hd] (.ref 473) [] Q X U:=by
 refine sS (aaQ (i:=1) rfl) λx d fd hx=>(cu Jq (fm 51) rfl λF nd nb=>?_)
 subst hx
 unfold b_afM
 have ha:((U.set d (.dict [])).set (d+1) (.inst 473 d)) (d+1)=some (.inst 473 d):=aq
 have ne:=Nat.succ_ne_self d
 have hn:=bD.no λb cc q=>adX (fd b cc q)
 have hd0:((U.set d (.dict [])).set (d+1) (.inst 473 d)) d=some (.dict []):=(Sg.aa _ _ (Ne.symm ne)).trans aq
 show 7
 change dF ha hd0 ⋯ cC
 exists dF ((Sg.aa _ _ ne).trans ha) aq ⋯ cC
 rw[Sg.set_set]
 show 7
 intro t ft
 have htd:=ft.ne aq
 have hta:=ft.ne ((Sg.aa _ _ ne).trans ha)
 show 7
 change dF ((Sg.aa _ _ hta).trans ((Sg.aa _ _ ne).trans ha)) ((Sg.aa _ _ htd).trans aq) ⋯ cC
 exists dF ((Sg.aa _ _ ne).trans ((Sg.aa _ _ hta).trans ((Sg.aa _ _ ne).trans ha))) aq ⋯ cC
 rw[Sg.set_set]
 show 7
 exists dF ((Sg.aa _ _ ne).trans ((Sg.aa _ _ hta).trans ((Sg.aa _ _ ne).trans ha))) aq ⋯ cC
 rw[Sg.set_set]
 show 7
 exists dF ((Sg.aa _ _ ne).trans ((Sg.aa _ _ hta).trans ((Sg.aa _ _ ne).trans ha))) aq ⋯ cC
 rw[Sg.set_set]
 show 7
 refine fn_agC #[rfl,?_]
 have e1:((((U.set d (.dict [])).set (d+1) (.inst 473 d)).set d (.dict [(n_kind,.str [110,111,110,101]),(n_value,.str [])])).set t (.list [])).set d (.dict (oW [110,111,110,101] [] 0 t))=((((U.set d (.dict [])).set (d+1) (.inst 473 d)).set t (.list [])).set d (.dict (oW [110,111,110,101] [] 0 t))):=by
  funext b
  by_cases z:b=d
  .subst z; rw[Sg.set_same,Sg.set_same]
  .rw[Sg.aa _ _ z,Sg.aa _ _ z]
   by_cases z2:b=t
   .subst z2; rw[Sg.set_same,Sg.set_same]
   .rw[Sg.aa _ _ z2,Sg.aa _ _ z2,Sg.aa _ _ z]
 rw[show([110,111,110,101]:LN)=[110,111,110,101]from rfl]at *
 have:=k d t fd hn (λb cc q=>ft b cc (by
  by_cases z:b=d
  .subst z
   rw[Sg.set_same]
   rw[Sg.aa _ _ (Ne.symm ne),Sg.set_same]at q
   exact q
  .rw[Sg.aa _ _ z]
   by_cases z2:b=d+1
   .subst z2; rw[Sg.set_same]at q ⊢; exact q
   .rw[Sg.aa _ _ z2,Sg.aa _ _ z]at q ⊢; exact q))
 rw[← e1]at this
 exact this
let uT(I:Inv E H w s U)(hp:Vj x s.vars w.va=some p)(k:Q (.ref p.1) U):aj T #[n+4,hd] (.ref 661) [.ref H.h,.str x] Q X U:=by
 exists jn,74,b_aeD
 change Ea I
 refine(cu GJ (fm 68) rfl λF nd nb=>?_).call
 unfold b_agm
 have hl:lk (Cs x) (cB s.vars w.va)=some (.ref p.1):=by rw[zQ,hp]; rfl
 show 7
 exists Fv I.nO
 change ao (by rw[hl]; rfl)
 change uA I.nO hl
 change fn_agI
 exact fn_agI k
let Zt(h:a∈Hr w.va):a∈addrs H w:=.tail _ (.tail _ (.tail _ (.tail _ (.tail _ (.tail _ (.tail _ (.tail _ (.tail _ (ad4 _ h)))))))))
let Inv.vf(I:Inv E H w s U)(p:Addr×Cell)(h:p∈dI s.vars w.va):U p.1=some p.2:=I.fs p (.tail _ (.tail _ (.tail _ (.tail _ (.tail _ (.tail _ (.tail _ (.tail _ (.tail _ (ad4 _ h))))))))))
let Facts.adz{c c':Cell}(h:Facts U (A++((l1++x::(a,c)::l2)++R)))(nd:((A++((l1++x::(a,c)::l2)++R)).map (·.1)).Nodup):Facts (U.set a c') (A++((l1++x::(a,c')::l2)++R)):=by
 have e:∀ c,A++((l1++x::(a,c)::l2)++R)=(A++l1++[x])++(a,c)::(l2++R):=λc=>by simp
 rw[e]at h nd ⊢
 exact Facts.upd h nd
let Nq{α:Type}{l1 l2:List α}{a d b:α}:b∈l1++[a,d]++l2↔b∈l1++l2∨b=a∨b=d:=by
 rw[ado,ado,ado,acR,adk]
 exact#[λh=>h.elim (λh=>h.elim (λh=>.inl (.inl h)) .inr) λh=>.inl (.inr h),λh=>h.elim (λh=>h.elim (λh=>.inl (.inl h)) .inr) λh=>.inl (.inr h)]
let Yv{α:Type}{l1 l2:List α}{a d:α}(nd:(l1++l2).Nodup)(ha:a∉l1++l2)(hd:d∉l1++l2)(n:a≠d):(l1++[a,d]++l2).Nodup:=by
 rw[ad5,(List.perm_append_comm_assoc l1 [a,d] l2).nodup_iff]
 exact adm.mpr #[λh=>(acR.mp h).elim n ha,adm.mpr #[hd,nd]]
let Facts.ins(h:Facts U (l1++l2))(hp:U p.1=some p.2)(hq:U q.1=some q.2):Facts U (l1++[p,q]++l2):=λb hb=>(Nq.mp hb).elim (h b) λz=>z.elim (λz=>z▸hp) λz=>z▸hq
let Tw{a d t:Addr}(I:Inv E H w s U)(na:U a=none)(nd:U d=none)(had:a≠d)(x y)(hv:zZ x s.vars=none)(h:aO U U1)(h1:U1 a=some (.inst 473 d))(h2:U1 d=some (.dict (oW scalar y 1 t))) :
  Inv E H { w with va:=w.va++[(a,d,t)] } { s with vars:=xW x y s.vars } (U1.set H.vars (.dict (cB s.vars w.va++[(Cs x,.ref a)])))/\az H w U { w with va:=w.va++[(a,d,t)] } (U1.set H.vars (.dict (cB s.vars w.va++[(Cs x,.ref a)]))):=by
 have oa:=I.off na
 have od:=I.off nd
 have I1:=I.keep h
 have ea:addrs H { w with va:=w.va++[(a,d,t)] }=(H.d::H.rounds::H.vars::H.log::H.h::H.tools::H.inl::H.cmds::H.firsts::Hr w.va)++[a,d]++w.rows:=by
  unfold addrs
  show 1
  rw[Gv]
  rfl
 have mem:∀ b,b∈addrs H { w with va:=w.va++[(a,d,t)] }↔(b∈addrs H w∨b=a∨b=d):=λb=>by rw[ea]; exact Nq
 have av:a≠H.vars:=λz=>oa (z▸wL)
 have dv:d≠H.vars:=λz=>od (z▸wL)
 have tna:H.texts≠a:=λz=>by rw[← z,I.tx]at na; cases na
 have tnd:H.texts≠d:=λz=>by rw[← z,I.tx]at nd; cases nd
 refine#[#[?_,?_,?_,I.lr,?_,?_,?_],λb hb=>(mem b).mpr (.inl hb),λb cc hb nb=>#[?_,λq=>?_]]
 .have F:=Facts.upd (wc:=[_,_]) (c' := .dict (cB s.vars w.va++[(Cs x,.ref a)])) I1.fs I.fnd
  have G:=Facts.ins (l1:=(H.d,.dict (d9 E H s))::(H.rounds,.list (sV s.rounds))::(H.vars,.dict (cB s.vars w.va++[(Cs x,.ref a)]))::(H.log,.list (jf s.log w.rows))::(H.h,.inst 749 H.d)::(H.tools,.dict (iY H))::(H.inl,.dict [])::(H.cmds,.dict (uK H))::(H.firsts,.dict [])::dI s.vars w.va) (p:=(a,.inst 473 d)) (q:=(d,.dict (oW scalar y 1 t))) F ((Sg.aa _ _ av).trans h1) ((Sg.aa _ _ dv).trans h2)
  unfold facts
  show 1
  rw[xu hv,CX I.lv,xT I.lv]
  exact G
 .rw[ea]; exact Yv I.nd oa od had
 .rw[xu hv,aaG,aaG,I.lv]; rfl
 .rw[xu hv,adH]
  refine List.nodup_append.mpr #[I.nm,adm.mpr #[acX,List.nodup_nil],λb hb c hc z=>?_]
  rw[adk.mp hc]at z
  rw[z]at hb
  exact Gl hv hb
 .rw[Sg.aa _ _ (Ne.symm (I.ne wL))]; exact I1.tx
 .exact λh=>((mem _).mp h).elim I.tn λh=>h.elim tna tnd
 .exact(Sg.aa _ _ (λz:b=H.vars=>nb (by rw[z]; exact wL))).trans (h b cc hb)
 .rcases(mem b).mp q with q | q | q
  .exact nb q
  .rw[q,na]at hb; cases hb
  .rw[q,nd]at hb; cases hb
let Q7(I:Inv E H w s U):At T E H (readM x) jg #[n+6,hd] (.ref 682) [.ref H.h,.str x] w s U:=by
 show 5
 unfold readM at hm
 cases hv:zZ x s.vars with
 | none=>rw[hv]at hm; cases hm
 | some v =>
 rw[hv]at hm
 cases hm
 have#[p,hp]:=zL hv I.lv
 have#[l1,l2,e1,_]:=rU hv hp
 have f1:=I.vf (_,_) (by rw[e1]; exact adW _ (.head _))
 have f2:=I.vf (_,_) (by rw[e1]; exact adW _ (.tail _ (.head _)))
 exists tQ,77,b_aeN
 change bM I rfl rfl
 change bM I rfl rfl
 change uT I hp
 exists nj,75,b_aez
 change fG f1 f2 ⋯ rfl rfl
 change fG f1 f2 ⋯ rfl rfl
 change fn_agI
 exact fn_agI (he _ _ _ I az.refl rfl)
have wrR(y:LN)(_:Unit)(_:Wo)(_:Sg)(v:V):Prop:=v = .str y
let Sg.set_comm(U:Sg)(x y)(n:a≠b):(U.set a x).set b y=(U.set b y).set a x:=by
 funext u
 by_cases h:u=a
 .subst h; rw[Sg.aa _ _ n,Sg.set_same,Sg.set_same]
 .by_cases h2:u=b
  .subst h2; rw[Sg.set_same,Sg.aa _ _ h,Sg.set_same]
  .rw[Sg.aa _ _ h2,Sg.aa _ _ h,Sg.aa _ _ h,Sg.aa _ _ h2]
let jk{x y:LN}(I:Inv E H w s U):At T E H (cP x y) (wrR y) #[n+6,hd] (.ref 689) [.ref H.h,.str x,.str y] w s U:=by
 show 5
 unfold cP at hm
 by_cases hz:s.vars.length<=900
 case neg=>rw[ad8 hz]at hm; cases hm
 rw[ad9 hz]at hm
 cases hm
 refine(cu qX (fm 78) rfl λF nd nb=>?_).call
 unfold b_aeE
 cases hv:zZ x s.vars with
 | some v =>
  have#[p,hp]:=zL hv I.lv
  have#[l1,l2,e1,e2]:=rU hv hp
  have f1:=I.vf (_,_) (by rw[e1]; exact adW _ (.head _))
  have m2:(p.2.1,Cell.dict (Gu v p.2.2))∈dI s.vars w.va:=by rw[e1]; exact adW _ (.tail _ (.head _))
  have f2:=I.vf (_,_) m2
  have hmem:p.2.1∈addrs H w:=Zt (by rw[← pN I.lv]; exact adw.mpr #[_,m2,rfl])
  show 7
  change bM I rfl rfl
  change bM I rfl rfl
  change uT I hp
  change uO f1 f2
  refine fn_agI (he w _ _ ?_ (az.refl.mine hmem) rfl)
  have q:=Facts.adz (A:=[(H.d,Cell.dict (d9 E H s)),(H.rounds,.list (sV s.rounds)),(H.vars,.dict (cB s.vars w.va)),(H.log,.list (jf s.log w.rows)),(H.h,.inst 749 H.d),(H.tools,.dict (iY H)),(H.inl,.dict []),(H.cmds,.dict (uK H)),(H.firsts,.dict [])]) (c' := .dict (oW scalar y (v.wr+1) p.2.2))
   (by have:=I.fs; unfold facts at this; rw[e1]at this; exact this) (by have:=I.fnd; unfold facts at this; rw[e1]at this; exact this)
  refine#[?_,I.nd,?_,I.lr,?_,by rw[Sg.aa _ _ (Ne.symm (I.ne hmem))]; exact I.tx,I.tn]
  .unfold facts
   show 1
   rw[e2 y,uI (n8 hv)]
   exact q
  .rw[I.lv,← ac0,← n8 hv,ac0]
  .rw[n8 hv]
   exact I.nm
 | none =>
  show 7
  change bM I rfl rfl
  change bM I rfl rfl
  exists jn,74,b_aeD
  change Ea I
  refine(cu GJ (fm 68) rfl λF nd nb=>?_).call
  unfold b_agm
  have hl:lk (Cs x) (cB s.vars w.va)=none:=by rw[zQ,Ik hv]; rfl
  show 7
  exists Fv I.nO
  change aD (by rw[hl]; rfl)
  refine abf λd t fd hn ft=>?_
  have nd0:=fd.no
  have ne:=Nat.succ_ne_self d
  have td:=ft.ne (by rw[Sg.aa _ _ (Ne.symm ne),Sg.set_same])
  have ta:=ft.ne aq
  have sub:aO U ((((U.set d (.dict [])).set (d+1) (.inst 473 d)).set t (.list [])).set d (.dict (oW [110,111,110,101] [] 0 t))):=by
   intro b cc q
   have n1:b≠d:=λz=>by rw[z,nd0]at q; cases q
   have n2:b≠d+1:=λz=>by rw[z,hn]at q; cases q
   have n3:=ft.ne (by rw[Sg.aa _ _ n2,Sg.aa _ _ n1]; exact q)
   rw[Sg.aa _ _ n1,Sg.aa _ _ n3,Sg.aa _ _ n2,Sg.aa _ _ n1]
   exact q
  have f1:((((U.set d (.dict [])).set (d+1) (.inst 473 d)).set t (.list [])).set d (.dict (oW [110,111,110,101] [] 0 t))) (d+1)=some (.inst 473 d):=by
   rw[Sg.aa _ _ ne,Sg.aa _ _ ta,Sg.set_same]
  have f2:((((U.set d (.dict [])).set (d+1) (.inst 473 d)).set t (.list [])).set d (.dict (oW [110,111,110,101] [] 0 t))) d=some (.dict (oW [110,111,110,101] [] 0 t)):=aq
  generalize ((((U.set d (.dict [])).set (d+1) (.inst 473 d)).set t (.list [])).set d (.dict (oW [110,111,110,101] [] 0 t)))=U1 at sub f1 f2 ⊢
  have hvar:=sub _ _ I.nO
  have hz':(cB s.vars w.va).length<=999:=aaC CW (aaC hz ⋯)
  show 7
  exists Ii hvar hz'
  rw[FW (jm hl)]
  have n1:d+1≠H.vars:=λz=>by rw[z,I.nO]at hn; cases hn
  have n2:d≠H.vars:=λz=>by rw[z,I.nO]at nd0; cases nd0
  show 7
  exists uA aq (v:=.ref (d+1)) ?_
  .have:=jb (Cs x) (V.ref (d+1)) (cB s.vars w.va)
   rwa [FW (jm hl)]at this
  show 7
  change fn_agI
  change fn_agI
  exists uO ((Sg.aa _ _ n1).trans f1) ((Sg.aa _ _ n2).trans f2)
  rw[Sg.set_comm _ _ _ (Ne.symm n2)]
  show 7
  have sub2:aO U (U1.set d (.dict (oW scalar y 1 t))):=aO.turn sub nd0
  have#[I2,K2]:=Tw I hn nd0 ne x y hv sub2 ((Sg.aa _ _ ne).trans f1) aq
  exact fn_agI (he _ _ _ I2 K2 rfl)
open Mo in show _
have gH(T:Tp)(E:Hv)(H:HC)(N:Nat)(run:bY):Prop:=∀{n:Nat},N<=n->∀{text:LN} {w:Wo} {s:cj} {U:Sg},Inv E H w s U->At T E H (run text) jg #[n,none] (.ref 555) [.ref H.h,.str text] w s U
have Yp(H:HC)(ls:aX)(w:Wo)(U:Sg)(v:V):Prop:=∃ a,v = .ref a/\U a=some (.list (sV ls))/\a∉addrs H w
let dZ{f:α->Mo β}{g:β->Mo γ}:Mo.bnd (Mo.bnd m f) g s=Mo.bnd m (λa=>Mo.bnd (f a) g) s:=by
 unfold Mo.bnd
 cases m s with
 | none=>rfl
 | some z=>cases z <;> rfl
let bK{β:Type}{b:Prop}[Decidable b]{f:Unit->Mo β}{s:cj}{r:Rs β}(h:Mo.bnd (Mo.eE b) f s=some r):b/\f () s=some r:=by
 unfold Mo.bnd Mo.eE at h
 by_cases c:b
 .rw[ad9 c]at h; exact#[c,h]
 .rw[ad8 c]at h; cases h
let ju{f:α->Mo β}(h:Mo.bnd (Mo.opt o) f s=some r):∃ a,o=some a/\f a s=some r:=by
 cases o with
 | none=>cases h
 | some a=>exact#[a,rfl,h]
let pX:sV ls++[.str l]=sV (ls++[l]):=by simp[sV]
let fP:(sV ls).length=ls.length:=by simp[sV]
let az.at(k:az H w U w' U')(h:U a=some c)(n:a∉addrs H w):U' a=some c:=(k.rest a c h n).1
let az.off(k:az H w U w' U')(h:U a=some c)(n:a∉addrs H w):a∉addrs H w':=(k.rest a c h n).2
open Mo in show ∀{T:Tp}{c:Cx}{X X0:Addr->Ψ}{U U' U1 U2:Sg}{Q Q0:V->Ψ}{n N:Nat}{hd:Option Addr}{O:cZ}{E:Hv}{H:HC}{w w' w1 w2:Wo}{s s' s1 s2:cj}{run:bY},_
let Own.new{c:Cell}(I:Inv E H w s U)(f:bD U a):Own H w U w (U.set a c) a c:=#[f.no,aq,I.off f.no,λz=>by have:=f.no; rw[z,I.tx]at this; cases this]
let Own.keep{c:Cell}(o:Own H w U w1 U1 a c)(k:az H w1 U1 w2 U2):Own H w U w2 U2 a c:=#[o.no,k.at o.at1 o.off,k.off o.at1 o.off,o.tx]
let Own.turn{c c':Cell}(o:Own H w U w1 U1 a c):Own H w U w1 (U1.set a c') a c':=#[o.no,aq,o.off,o.tx]
let Own.inv{c c':Cell}(o:Own H w U w1 U1 a c)(I:Inv E H w1 s1 U1):Inv E H w1 s1 (U1.set a c'):=I.Td o.off o.tx
let Own.kp{c c':Cell}(o:Own H w U w1 U1 a c)(k:az H w U w1 U1):az H w U w1 (U1.set a c'):=k.turn o.no
let gH.mono(h:gH T E H N run)(hn:N<=N'):gH T E H N' run:=λhn'=>h (aaC hn hn')
have Hg(acc:aX):Mo LN:=Mo.bnd (Mo.eE (wM acc)) λ_=>Mo.ret (bJ [] acc)
let PN(hr:gH T E H N run)(hn:N<=n){F:Fc}(nd:gD F)(nb:bw F)(he:vD E H w U jg Q X r)(hall:all.length<=1000) :
  ∀(rest pre:List Part) (acc:aX) (w1:Wo) (s1:cj) (U1:Sg) (v3:Option V),all=pre++rest->acc.length=pre.length->Inv E H w1 s1 U1->az H w U w1 U1->Own H w U w1 U1 a (.list (sV acc))->Mo.bnd (nU run rest acc) Hg s1=some r ->
   mD T F (.loc 3) (.tup (all.map pV)) pre.length (match b_agj with | .cons _ (.cons (.for _ _ b) _)=>b | _=>.nil) #[n+6,none] [some (.ref H.h),some (.tup (all.map pV)),some (.ref a),v3,none]
    (PP.seq T F #[n+6,none] (match b_agj with | .cons _ (.cons _ s)=>s | _=>.nil) (PP.fn Q X)) U1:=by
 intro rest
 induction rest with
 | nil =>
  intro pre acc w1 s1 U1 v3 e1 e2 I K o hm
  have#[hf,hm]:=bK (show Mo.bnd (Mo.eE (wM acc)) (λ_=>Mo.ret (bJ [] acc)) s1=some r from hm)
  cases hm
  exists bU nd nb (by intro _ _ z; cases z) (by intro _ _ z; cases z) trivial
  have:(Src.tup (all.map pV)).item U1 pre.length=none:=by
   show(all.map pV)[pre.length]? = none
   rw[e1,adL]; simp
  rw[this]
  unfold b_agj
  show 7
  change lH
  exists iy o.at1 (km _) (cM ?_)
  .have:=hf.1; unfold tot at this; simp; omega
  show 7
  exact fn_agI (he _ _ _ I K rfl)
 | cons p rest ih =>
  intro pre acc w1 s1 U1 v3 e1 e2 I K o hm
  exists bU nd nb (by intro _ _ z; cases z) (by intro _ _ z; cases z) trivial
  have:(Src.tup (all.map pV)).item U1 pre.length=some (pV p):=by
   show(all.map pV)[pre.length]? = some (pV p)
   rw[e1]; simp
  rw[this]
  have hz:(sV acc).length+1<=sizeLine:=cM (by rw[fP,e2]; have:=congrArg List.length e1; simp at this; omega)
  have e1':all=(pre++[p])++rest:=by rw[e1]; simp
  have step:∀(l:LN) (w2:Wo) (s2:cj) (U2:Sg) (v3:Option V),Inv E H w2 s2 U2->az H w1 U1 w2 U2->Mo.bnd (nU run rest (acc++[l])) Hg s2=some r ->
    mD T F (.loc 3) (.tup (all.map pV)) (pre.length+1) (match b_agj with | .cons _ (.cons (.for _ _ b) _)=>b | _=>.nil) #[n+6,none] [some (.ref H.h),some (.tup (all.map pV)),some (.ref a),v3,none]
    (PP.seq T F #[n+6,none] (match b_agj with | .cons _ (.cons _ s)=>s | _=>.nil) (PP.fn Q X)) (U2.set a (.list (sV acc++[.str l]))):=by
   intro l w2 s2 U2 v3 I2 K2 hm2
   have o2:=o.keep K2
   rw[pX]
   have:=ih (pre++[p]) (acc++[l]) w2 s2 _ v3 e1' (by simp[e2]) (o2.inv (c' := .list (sV (acc++[l]))) I2) (o2.kp (K.trans K2)) o2.turn hm2
   simpa using this
  have hX:∀(e:Addr) (U':Sg) (O:cZ),X e U'->(PP.fn Q X).exc e O U':=λ_ _ _=>fn_agL
  cases p with
  | text l =>
   unfold b_agj
   dsimp only[pV]
   show 7
   change aD ⋯
   change aN o.at1
   change aH o.at1 hz
   exact step l w1 s1 U1 _ I az.refl hm
  | cmd sc =>
   unfold b_agj
   dsimp only[pV]
   show 7
   change ao ⋯
   change aD ⋯
   change aN o.at1
   change bM I rfl rfl
   have hm':Mo.bnd (run sc) (λv=>Mo.bnd (nU run rest (acc++[v])) Hg) s1=some r:=by
    have h1:Mo.bnd (Mo.eE (¬mq sc)) (λ_=>Mo.bnd (Mo.bnd (run sc) λv=>nU run rest (acc++[v])) Hg) s1=some r:=by rw[← dZ]; exact hm
    rw[← dZ]; exact(bK h1).2
   refine(hr (aaC hn (adt _ _)) I).use hm' (he.step K) (λe U' z=>?_) λv w2 s2 U2 v' hm2 I2 K2 q=>?_
   .show 7
    exact hX _ _ _ z
   cases q
   show 7
   change aH (o.keep K2).at1 hz
   exact step v w2 s2 U2 _ I2 K2 hm2
  | var x =>
   unfold b_agj
   dsimp only[pV]
   show 7
   change ao ⋯
   change ao ⋯
   change aN o.at1
   change bM I rfl rfl
   have hm':Mo.bnd (readM x) (λv=>Mo.bnd (nU run rest (acc++[v])) Hg) s1=some r:=by rw[← dZ]; exact hm
   refine(Q7 I).use hm' (he.step K) (λe U' z=>?_) λv w2 s2 U2 v' hm2 I2 K2 q=>?_
   .show 7
    exact hX _ _ _ z
   cases q
   show 7
   change aH (o.keep K2).at1 hz
   exact step v w2 s2 U2 _ I2 K2 hm2
let Ce(hr:gH T E H N run)(hn:N<=n){ps:List Part}(I:Inv E H w s U):At T E H (nY run ps) jg #[n+7,none] (.ref 484) [.ref H.h,.tup (ps.map pV)] w s U:=by
 show 5
 unfold nY at hm
 have#[hl,hm]:=bK hm
 exists 3,O9,52,b_agj
 intro a fa
 show 7
 refine#[_,rfl,?_]
 have o:=Own.new (c:=.list (sV [])) I fa
 exact PN hr hn nd nb he hl ps [] [] w s _ none rfl rfl (o.inv (c' := .list []) (I.fresh fa.no)|>λi=>by simpa [sV]using I.fresh fa.no) (az.refl.new fa.no) o hm
open Mo in show _
have Km(H:HC):Got->Wo->Sg->V->Prop
 | .str l,_,_,v=>v = .str l
 | .nest sc back ip lb,w,U,v=>∃ a d,v = .ref a/\jd U a d sc back ip lb/\a∉addrs H w/\d∉addrs H w
let H7(h:uG t=true):Trim t:=by
 unfold uG at h
 show 2
 .rename_i a b h1 h2
  simp only[acV,Bool.not_eq_true',decide_eq_true_eq]at h
  exact#[a,b,h1,h.1.1,h2,h.1.2,h.2]
 .cases h
let Rc:cut (sV (x::ls)) (some 1) none=sV ls:=by
 unfold cut
 simp[sV]
 have:clipAt (ls.length+1) 1=1:=by
  have:=jJ (t:=0::List.replicate ls.length 0) (acU _ _)
  simp only[pos,aaE,List.length_replicate]at this
  have e:((ls.length+1:Nat):Int)-(ls.length:Int)=1:=∎
  rw[e]at this
  omega
 rw[this]
 simp[List.take_of_length_le]
open Mo in show ∀{T:Tp}{c:Cx}{X X0:Addr->Ψ}{U U' U1 U2:Sg}{Q Q0:V->Ψ}{n N:Nat}{hd:Option Addr}{O:cZ}{E:Hv}{H:HC}{w w' w1 w2:Wo}{s s' s1 s2:cj}{run:bY}{a:Addr}{ws:aX},_
let Ec.keep(o:Ec H w1 U1 a ws)(k:az H w1 U1 w2 U2):Ec H w2 U2 a ws:=#[k.at o.at_ o.off,k.off o.at_ o.off]
let Yb(h:U a=some (.list (sV (x::ws))))(q:∀ r,bD U r->Q (.ref r) (U.set r (.list (sV ws)))):lE U (.ref a) (.int 1) .none Q:=by
 unfold lE
 show 1
 rw[h]
 intro r hr
 rw[Rc]
 exact q r hr
let wQ{R:α->Wo->Sg->V->Prop}(he:vD E H w U R Q X (.dJ r s1))(I:Inv E H w1 s1 U1)(K:az H w U w1 U1)(z:Tt U1 U2 e r):X e U2:=by
 have#[sb,fe,d,x,nd,nx,ea]:=z
 exact he _ _ _ _ _ (I.keep sb) (K.grow sb) #[ea,K.Fp nd (I.off nd),I.off fe.no,I.off nd,I.off nx]
let Wj(hv:bO 5 (.ref (a+1)::vs) [.none,.bool false,.str []]=[.ref (a+1),.str sc,oR back,.bool ip,.str lb])(hl:vs.length=1∨vs.length=4)(h:U a=some (.dict []))(h1:U (a+1)=some (.inst 105 a))(k:Q .none (U.set a (.dict (nestD sc back ip lb)))):gR T #[n+1,hd] (.ref 102) (.ref (a+1)::vs) Q X U:=by
 refine qZ GZ (fm 3) (aaQ (i:=1) rfl) (by simp) (by simp; omega) (by simp; omega) λF nd nb=>?_
 rw[hv]
 unfold b_afx
 have ne:=Nat.succ_ne_self a
 show 7
 change dF h1 h ⋯ cC
 exists dF ((Sg.aa _ _ ne).trans h1) aq ⋯ cC
 rw[Sg.set_set]
 show 7
 exists dF ((Sg.aa _ _ ne).trans h1) aq ⋯ cC
 rw[Sg.set_set]
 show 7
 exists dF ((Sg.aa _ _ ne).trans h1) aq ⋯ cC
 rw[Sg.set_set]
 show 7
 exact fn_agC k
let Lq(hv:∀ a,bO 5 (.ref (a+1)::vs) [.none,.bool false,.str []]=[.ref (a+1),.str sc,oR back,.bool ip,.str lb])(hl:vs.length=1∨vs.length=4)(I:Inv E H w s U)(K:az H w1 U1 w U)(he:vD E H w1 U1 (Km H) Q X (.ok (.nest sc back ip lb) s)):aj T #[n+2,hd] (.ref 105) vs Q X U:=by
 refine sS (.head _) λx d fd hx=>?_
 subst hx
 have ne:=Nat.succ_ne_self d
 have hn:=bD.no λb cc q=>adX (fd b cc q)
 refine Wj (hv d) hl ((Sg.aa _ _ (Ne.symm ne)).trans aq) aq #[rfl,?_]
 have sb:aO U (((U.set d (.dict [])).set (d+1) (.inst 105 d)).set d (.dict (nestD sc back ip lb))):=λb cc q=>by
  have n1:=fd.ne q
  have n2:b≠d+1:=λz=>by rw[z,hn]at q; cases q
  rw[Sg.aa _ _ n1,Sg.aa _ _ n2,Sg.aa _ _ n1]; exact q
 exact he _ _ _ (I.keep sb) (K.grow sb) #[d+1,d,rfl,#[(Sg.aa _ _ ne).trans aq,aq],I.off hn,I.off fd.no]
let acx(I:Inv E H w s U)(o:Ec H w U a ws):At T E H (Zv ws) jg #[n+7,hd] (.ref 944) [.ref H.h,.ref a] w s U:=by
 show 5
 match ws,hm,o with
 | [_,x,v],hm,o =>
  exists O5,114,b_af9
  change bM I rfl rfl
  change oX o.at_
  change Ig o.at_
  refine(jk I).use hm he (λe U' z=>?_) λv w2 s2 U2 v' hm2 I2 K2 q=>?_
  .show 7
   exact fn_agL z
  cases q
  cases hm2
  show 7
  exact fn_agI (he _ _ _ I2 K2 rfl)
let abK(I:Inv E H w s U)(o:Ec H w U a ws):At T E H (RD ws) jg #[n+1,hd] (.ref 951) [.ref H.h,.ref a] w s U:=by
 show 5
 match ws,hm,o with
 | x::ws,hm,o =>
  have#[hf,hm]:=bK hm
  cases hm
  exists Px,115,b_agd
  change lH
  refine Yb o.at_ λb fb=>?_
  show 7
  have h1:=hf.1
  have h2:=hf.2
  unfold tot at h1
  exists iy aq (km _) (cM ?_)
  .simp; omega
  show 7
  have hj:(bJ [44] ws).length<=2001000:=by
   have:∀(l:aX),(bJ [44] l).length<=(l.map List.length).sum+l.length:=by
    intro l
    induction l with
    | nil=>simp[bJ]
    | cons y l ih =>
     cases l with
     | nil=>simp[bJ]
     | cons z l =>
      simp only[bJ,aaG,acS,ad2,aaE,acT]at ih ⊢
      omega
   have:=this ws
   omega
  change bf (cM (by simp; omega))
  change bf (cM (by simp; omega))
  exact fn_agI (he _ _ _ (I.fresh fb.no) (az.refl.new fb.no) rfl)
let YW(I:Inv E H w s U):At T E H (Mo.bnd (Mo.eE (ws.length=1)) λ_=>Mo.bnd (dM E) λ_=>Mo.ret [100]) jg #[n+4,none] (.ref 958) [.ref H.h,.ref a] w s U:=by
 show 5
 have hm:=(bK hm).2
 exists KC,116,b_af4
 change bM I rfl rfl
 refine(xG I).use hm he (λe U' z=>?_) λv w2 s2 U2 v' hm2 I2 K2 q=>?_
 .show 7
  exact fn_agL z
 cases hm2
 show 7
 exact fn_agI (he _ _ _ I2 K2 rfl)
let ace(I:Inv E H w s U)(o:Ec H w U a ws):At T E H (YB ws) jg #[n+3,none] (.ref 965) [.ref H.h,.ref a] w s U:=by
 show 5
 match ws,hm,o with
 | [_,i],hm,o =>
  have#[p,hp,hm]:=ju hm
  cases hm
  exists 4,OD,117,b_agc
  refine#[_,rfl,by decide,by unfold dw; decide +kernel,λd fd nd0=>?_]
  show 7
  change oX ((Sg.aa _ _ (λz=>by rw[z]at o; exact absurd (fd.ne o.at_) (λq=>q rfl))).trans o.at_)
  have main:∀ cd lv rt:Nat,p=(cd,lv,rt)->wSs T F (match b_agc with | .cons _ (.cons _ s)=>s | _=>.nil) #[n+2,none] [some (.ref H.h),some (.ref a),some (.ref d),some (.int cd),some (.int lv),some (.int rt)] (PP.fn Q X)
    (U.set d (.dict [(Cs [48],.tup [.int 1,.int 0,.int 0]),(Cs [49],.tup [.int 2,.int 1,.int 0]),(Cs [50],.tup [.int 2,.int 2,.int 3]),(Cs [51],.tup [.int 3,.int 0,.int 0]),(Cs [52],.tup [.int 4,.int 0,.int 0]),(Cs [53],.tup [.int 7,.int 0,.int 0])])):=by
   intro cd lv rt e
   subst e
   unfold b_agc
   show 7
   refine Us (ec:=[[65],[98]]) λe U' z=>?_
   show 7
   have#[dd,xx,_,_,ea]:=z.at_
   change vI ea.he (.inl rfl) (λh z=>by cases z)
   exact fn_agL (wQ he (I.fresh fd.no) (az.refl.new fd.no) z)
  unfold KN at hp
  by_cases e0:i=[48]
  .subst e0; cases hp; exact uA aq rfl (qY rfl (main 1 0 0 rfl))
  rw[ad8 e0]at hp
  by_cases e1:i=[49]
  .subst e1; cases hp; exact uA aq rfl (qY rfl (main 2 1 0 rfl))
  rw[ad8 e1]at hp
  by_cases e2:i=[50]
  .subst e2; cases hp; exact uA aq rfl (qY rfl (main 2 2 3 rfl))
  rw[ad8 e2]at hp
  by_cases e3:i=[51]
  .subst e3; cases hp; exact uA aq rfl (qY rfl (main 3 0 0 rfl))
  rw[ad8 e3]at hp
  by_cases e4:i=[52]
  .subst e4; cases hp; exact uA aq rfl (qY rfl (main 4 0 0 rfl))
  rw[ad8 e4]at hp
  by_cases e5:i=[53]
  .subst e5; cases hp; exact uA aq rfl (qY rfl (main 7 0 0 rfl))
  rw[ad8 e5]at hp
  cases hp
let W8(I:Inv E H w s U)(o:Ec H w U a ws):At T E H (Gj 3 ws) jg #[n+3,none] (.ref 849) [.ref H.h,.ref a] w s U:=by
 show 5
 match ws,hm,o with
 | [_],hm,o =>
  cases hm
  exists G7,100,b_afF
  change aQ o.at_
  change ao rfl
  refine BR λe U' z=>?_
  show 7
  have#[dd,xx,_,_,ea]:=z.at_
  change vI ea.he (.inl rfl) (λh z=>by cases z)
  exact fn_agL (wQ he I az.refl z)
let J0(I:Inv E H w s U)(o:Ec H w U a ws):At T E H (Gj 4 ws) jg #[n+3,none] (.ref 856) [.ref H.h,.ref a] w s U:=by
 show 5
 match ws,hm,o with
 | [_],hm,o =>
  cases hm
  exists yj,101,b_ae2
  change aQ o.at_
  change ao rfl
  refine BR λe U' z=>?_
  show 7
  have#[dd,xx,_,_,ea]:=z.at_
  change vI ea.he (.inl rfl) (λh z=>by cases z)
  exact fn_agL (wQ he I az.refl z)
let ZQ(I:Inv E H w s U)(o:Ec H w U a ws):At T E H (Cv ws) (Km H) #[n+5,none] (.ref 863) [.ref H.h,.ref a] w s U:=by
 show 5
 match ws,hm,o with
 | [_,sc],hm,o =>
  cases hm
  exists yr,102,b_afT
  change aQ o.at_
  change ao rfl
  change aQ o.at_
  change aD rfl
  change oX o.at_
  refine Lq (back:=none) (λ_=>rfl) (.inl rfl) I az.refl λw' U' v i k q=>?_
  show 7
  exact fn_agI (he w' U' v i k q)
 | [_,x,y],hm,o =>
  have#[#[t1,t2,hf],hm]:=bK hm
  cases hm
  exists yr,102,b_afT
  change aQ o.at_
  change ao rfl
  change aQ o.at_
  change ao rfl
  refine Yb o.at_ λb fb=>?_
  show 7
  change Sw aq (by intro l hl; simp at hl; rcases hl with rfl | rfl; exact H7 t1; exact H7 t2) hf.1 (aaC hf.2 ⋯)
  refine Lq (back:=none) (λ_=>rfl) (.inl rfl) (I.fresh fb.no) (az.refl.new fb.no) λw' U' v i k q=>?_
  show 7
  exact fn_agI (he w' U' v i k q)
let ZS(I:Inv E H w s U)(o:Ec H w U a ws):At T E H (Cw E ws) (Km H) #[n+3,none] (.ref 972) [.ref H.h,.ref a,.ref H.texts] w s U:=by
 show 5
 match ws,hm,o with
 | [_,i],hm,o =>
  have#[hi,hm]:=bK hm
  have#[t,ht,hm]:=ju hm
  cases hm
  exists 1,Jz,118,b_afU
  change rF I
  change oX o.at_
  have hl:i.length<=1:=by
   unfold eX at hi
   simp only[acR,acX,or_false]at hi
   rcases hi with rfl | rfl | rfl | rfl <;> decide
  change bf (cM (by simp; omega))
  exists HW I (f:=some (102::i))
  have I1:=I.Hy (λs=>{ s with frame:=some (102::i) }) rfl rfl rfl
  have K1:az H w U w _:=az.refl.mine (c:=.dict (d9 E H { s with frame:=some (102::i) })) (H6)
  have o1:=o.keep K1
  show 7
  intro b fb
  have I2:=I1.fresh (c:=.list (sV eX)) fb.no
  have K2:=K1.new (c:=.list (sV eX)) fb.no
  have o2:=o.keep K2
  show 7
  change VD aq
  change oX o2.at_
  change Qv (ls:=eX) aq rfl hi
  change pQ I2.tx (by unfold sV; rw[acZ,ht]; rfl)
  refine Lq (λ_=>rfl) (.inr rfl) I2 K2 λw' U' v i k q=>?_
  show 7
  exact fn_agI (he w' U' v i k q)
open Mo in show _
let some_inj{α:Type}{a b:α}(h:some a=some b):a=b:=Option.some.inj h
have aa2(b:Bool)(_:Wo)(_:Sg)(v:V):Prop:=v = .bool b
have acO(p:Nat×LN)(_:Wo)(_:Sg)(v:V):Prop:=v = .tup [.int p.1,.str p.2]
have ZK(H:HC)(p:LN×Option iw)(w:Wo)(U:Sg)(v:V):Prop:=match p.2 with
 | none=>v = .tup [.str p.1,.none]
 | some r=>∃ e d x,v = .tup [.str p.1,.ref e]/\iT U e d x r/\small r/\e∉addrs H w/\d∉addrs H w/\x∉addrs H w
let Ca(h:cP x y s=some r):∃ s',r = .ok () s':=by
 unfold cP at h
 show 2
 .exact#[_,(some_inj h).symm]
 .cases h
open Mo in show ∀{T:Tp}{c:Cx}{X X0:Addr->Ψ}{U U' U1 U2:Sg}{Q Q0:V->Ψ}{n N:Nat}{hd:Option Addr}{O:cZ}{E:Hv}{H:HC}{w w' w1 w2:Wo}{s s' s1 s2:cj}{run:bY}{a:Addr}{ws:aX},_
let JH(hr:gH T E H N run)(hn:N<=n)(nd:gD F)(nb:bw F)(he:vD E H w U (Yp H) Q X r)(hall:all.length<=1000) :
  ∀(rest pre:List (List Part)) (acc:aX) (w1:Wo) (s1:cj) (U1:Sg) (v3 v4:Option V),all=pre++rest->acc.length=pre.length->Inv E H w1 s1 U1->az H w U w1 U1->Own H w U w1 U1 a (.list (sV acc))->kJ run rest acc s1=some r ->
   mD T F (.loc 3) (.tup (all.map wV)) pre.length (match b_afO with | .cons _ (.cons (.for _ _ b) _)=>b | _=>.nil) #[n+7,none] [some (.ref H.h),some (.tup (all.map wV)),some (.ref a),v3,v4]
    (PP.seq T F #[n+7,none] (match b_afO with | .cons _ (.cons _ s)=>s | _=>.nil) (PP.fn Q X)) U1:=by
 intro rest
 induction rest with
 | nil =>
  intro pre acc w1 s1 U1 v3 v4 e1 e2 I K o hm
  cases hm
  exists bU nd nb (by intro _ _ z; cases z) (by intro _ _ z; cases z) trivial
  have:(Src.tup (all.map wV)).item U1 pre.length=none:=by
   show(all.map wV)[pre.length]? = none
   rw[e1,adL]; simp
  rw[this]
  unfold b_afO
  show 7
  exact fn_agI (he _ _ _ I K #[a,rfl,o.at1,o.off])
 | cons p rest ih =>
  intro pre acc w1 s1 U1 v3 v4 e1 e2 I K o hm
  exists bU nd nb (by intro _ _ z; cases z) (by intro _ _ z; cases z) trivial
  have:(Src.tup (all.map wV)).item U1 pre.length=some (wV p):=by
   show(all.map wV)[pre.length]? = some (wV p)
   rw[e1]; simp
  rw[this]
  have hz:(sV acc).length+1<=sizeLine:=cM (by rw[fP,e2]; have:=congrArg List.length e1; simp at this; omega)
  have e1':all=(pre++[p])++rest:=by rw[e1]; simp
  unfold b_afO
  dsimp only[wV]
  show 7
  refine(Ce hr hn I).use hm (he.step K) (λe U' z=>?_) λv w2 s2 U2 v' hm2 I2 K2 q=>?_
  .show 7
   exact fn_agL z
  cases q
  show 7
  have o2:=o.keep K2
  change aN o2.at1
  change aH o2.at1 hz
  rw[pX]
  have:=ih (pre++[p]) (acc++[v]) w2 s2 _ (some (wV p)) (some (.str v)) e1' (by simp[e2]) (o2.inv (c' := .list (sV (acc++[v]))) I2) (o2.kp (K.trans K2)) o2.turn hm2
  unfold b_afO at this
  simpa [wV]using this
let Jp(hr:gH T E H N run)(hn:N<=n)(I:Inv E H w s U):At T E H (gw run qs) (Yp H) #[n+8,none] (.ref 491) [.ref H.h,.tup (qs.map wV)] w s U:=by
 show 5
 unfold gw at hm
 have#[hl,hm]:=bK hm
 exists 3,Lf,53,b_afO
 intro a fa
 show 7
 refine#[_,rfl,?_]
 have o:=Own.new (c:=.list (sV [])) I fa
 exact JH hr hn nd nb he hl qs [] [] w s _ none none rfl rfl (I.fresh fa.no) (az.refl.new fa.no) o hm
have acG(b:Bool)(_:Wo)(_:Sg)(v:V):Prop:=v = .str [if b=true then 49 else 48]
let aaq(I:Inv E H w s U):At T E H (testM x) acG #[n+7,none] (.ref 979) [.ref H.h,.str x] w s U:=by
 show 5
 refine(aG 1 Jv (fm 119) rfl λF nd nb=>?_).call
 unfold b_afR
 unfold testM at hm
 show 7
 change bM I rfl rfl
 refine(Q7 I).use hm he (λe U' z=>?_) λv w2 s2 U2 v' hm2 I2 K2 q=>?_
 .show 7
  exact fn_agL z
 cases q
 show 7
 by_cases c1:v=[48]
 .rw[ad9 c1]at hm2
  cases hm2
  change aD (aaB c1)
  exact fn_agI (he _ _ _ I2 K2 rfl)
 rw[ad8 c1]at hm2
 change ao (aaA c1)
 change bM I2 rfl rfl
 have main:∀ y,y=(if v=[50]then [49]else [48])->aj T #[n+6,none] (.ref 689) [.ref H.h,.str x,.str y] (λ_ xb=>wSs T F (match b_afR with | .cons _ (.cons _ (.cons _ s))=>s | _=>.nil) #[n+6,none] [some (.ref H.h),some (.str x),some (.str v)] (PP.fn Q X) xb) (λe U'=>(PP.fn Q X).exc e [some (.ref H.h),some (.str x),some (.str v)] U') U2:=by
  intro y hy
  rw[← hy]at hm2
  refine(jk I2).use hm2 (he.step K2) (λe U' z=>fn_agL z) λv w3 s3 U3 v' hm3 I3 K3 q=>?_
  cases hm3
  unfold b_afR
  show 7
  exact fn_agI (he _ _ _ I3 (K2.trans K3) rfl)
 by_cases c2:v=[50]
 .change aD (aaB c2)
  exact main [49] (by rw[ad9 c2])
 .change ao (aaA c2)
  exact main [48] (by rw[ad8 c2])
let Xy(I:Inv E H w s U):At T E H (testM x) aa2 #[n+8,none] (.ref 807) [.ref H.h,.str x] w s U:=by
 show 5
 exists 1,W4,94,b_agt
 change bM I rfl rfl
 change Ri I rfl
 change Eb rfl ⋯
 exists aaq I r _ _ hm
 cases r with
 | ok b s' =>
  intro w' U' v i k q
  cases q
  show 7
  change Jc (by cases b <;> simp)
  exact fn_agI (he _ _ _ i k (by cases b <;> rfl))
 | dJ r' s' =>
  intro w' U' e d x i k nx
  show 7
  exact fn_agL (he _ _ _ _ _ i k nx)
 | out s' =>
  intro w' U' e d i k nx
  show 7
  exact fn_agL (he _ _ _ _ i k nx)
let yS(hr:gH T E H N run)(hn:N<=n)(I:Inv E H w s U):At T E H (yH run b) acO #[n+1,none] (.ref 814) [.ref H.h,.str b] w s U:=by
 show 5
 refine(aG 1 JL (fm 95) rfl λF nd nb=>?_).call
 unfold b_afN
 unfold yH Mo.jG Mo.bnd at hm
 show 7
 change bM I rfl rfl
 cases e:run b s with
 | none=>rw[e]at hm; cases hm
 | some z =>
 rw[e]at hm
 exists hr hn I z _ _ e
 cases z with
 | ok v s' =>
  cases hm
  intro w' U' v' i k q
  cases q
  show 7
  exact fn_agI (he _ _ _ i k rfl)
 | dJ r' s' =>
  intro w' U' e d x i k nx
  show 7
  change lu (.inl rfl) nx.a.he
  exists dh nx.a
  dsimp only at hm
  show 7
  by_cases c1:r'.code=3
  .rw[ad9 (Or.inl c1)]at hm
   cases hm
   rw[show decide ((r'.code:Int)=3)=true from aaB ∎]
   show 7
   change dh nx.a
   exact fn_agI (he _ _ _ i k rfl)
  rw[show decide ((r'.code:Int)=3)=false from aaA ∎]
  show 7
  change dh nx.a
  by_cases c2:r'.code=4
  .rw[ad9 (Or.inr c2)]at hm
   cases hm
   rw[show decide ((r'.code:Int)=4)=true from aaB ∎]
   show 7
   change dh nx.a
   exact fn_agI (he _ _ _ i k rfl)
  rw[ad8 (λz=>z.elim c1 c2)]at hm
  cases hm
  rw[show decide ((r'.code:Int)=4)=false from aaA ∎]
  show 7
  change vI nx.a.he (.inl rfl) (λh z=>by cases z; exact abW _)
  exact fn_agL (he _ _ _ _ _ i k nx)
 | out s' =>
  cases hm
  intro w' U' e d i k nx
  show 7
  change jc (.inr rfl) ⋯ nx.he
  exact fn_agL (he _ _ _ _ i k nx)
let lQ(I:Inv E H w s U):At T E H (cP x y) (λ_ _ _ _=>True) #[n+7,hd] (.ref 779) [.ref H.h,.str x,.str y] w s U:=by
 show 5
 exists vW,90,b_aeT
 change bM I rfl rfl
 exists jk I r _ _ hm
 have#[s',rfl]:=Ca hm
 intro w' U' v i k q
 show 7
 exact fn_agC (he _ _ _ i k trivial)
let Ak(I:Inv E H w s U)(ex:iT U e d x r0)(oe:e∉addrs H w)(od:d∉addrs H w)(ox:x∉addrs H w)(sm:small r0):At T E H (eZ r0) (λ_ _ _ _=>True) #[n+8,hd] (.ref 786) [.ref H.h,.ref e] w s U:=by
 show 5
 refine(cu Be (fm 91) rfl λF nd nb=>?_).call
 unfold b_afa
 unfold eZ at hm
 show 7
 change dh ex
 by_cases c:r0.code=1
 .rw[ad9 c]at hm
  change ofEq c
  change CZ ex
  refine(lQ I).use hm he (λe U' z=>?_) λv w2 s2 U2 v' hm2 I2 K2 q=>?_
  .show 7
   exact fn_agL z
  have ex2:iT U2 e d x r0:=#[K2.at ex.he oe,K2.at ex.hd od,K2.at ex.hx ox]
  show 7
  change uP ex2
  change uJ sm.2.1.1 (aaC sm.2.1.2 ⋯)
  exists lQ I2 r _ _ hm2
  have#[s',rfl]:=Ca hm2
  intro w' U' v i k q
  show 7
  exact fn_agC (he _ _ _ i (K2.trans k) trivial)
 .rw[ad8 c]at hm
  cases hm
  change tD c
  exact fn_agC (he _ _ _ I az.refl trivial)
let DR(hr:gH T E H N run)(hn:N<=n){b:LN}(I:Inv E H w s U):At T E H (tried run b) (ZK H) #[n+9,none] (.ref 793) [.ref H.h,.str b] w s U:=by
 show 5
 refine(aG 1 W6 (fm 92) rfl λF nd nb=>?_).call
 unfold b_agp
 unfold tried at hm
 have hm:=(bK hm).2
 unfold Mo.jG Mo.bnd at hm
 show 7
 change bM I rfl rfl
 cases e:run b s with
 | none=>rw[e]at hm; cases hm
 | some z =>
 rw[e]at hm
 exists hr (aaC hn (adt _ _)) I z _ _ e
 cases z with
 | ok v s' =>
  cases hm
  intro w' U' v' i k q
  cases q
  show 7
  exact fn_agI (he _ _ _ i k rfl)
 | dJ r' s' =>
  intro w' U' e d x i k nx
  have#[sm,hm]:=bK hm
  show 7
  change lu (.inl rfl) nx.a.he
  refine(Ak i nx.a nx.oe nx.od nx.ox sm).use hm (he.step k) (λe U' z=>?_) λv w2 s2 U2 v' hm2 I2 K2 q=>?_
  .show 7
   exact fn_agL z
  cases hm2
  have n2:=nx.keep K2
  show 7
  change lD n2.a
  exact fn_agI (he _ _ _ I2 (k.trans K2) #[e,d,x,rfl,n2.a,sm,n2.oe,n2.od,n2.ox])
 | out s' =>
  cases hm
  intro w' U' e d i k nx
  show 7
  change jc (.inr rfl) ⋯ nx.he
  exact fn_agL (he _ _ _ _ i k nx)
open Mo in show _
have Bq(H:HC)(w:Wo)(U:Sg):Option iw->V->Prop
 | none,v=>v = .none
 | some r,v=>∃ e d x,v = .ref e/\iT U e d x r/\small r/\e∉addrs H w/\d∉addrs H w/\x∉addrs H w
open Mo in show ∀{T:Tp}{c:Cx}{X X0:Addr->Ψ}{U U' U1 U2:Sg}{Q Q0:V->Ψ}{n N:Nat}{hd:Option Addr}{O:cZ}{E:Hv}{H:HC}{w w' w1 w2:Wo}{s s' s1 s2:cj}{run:bY}{a:Addr}{ws:aX},_
let Bq.keep{o:Option iw}{v:V}(h:Bq H w1 U1 o v)(k:az H w1 U1 w2 U2):Bq H w2 U2 o v:=by
 cases o with
 | none=>exact h
 | some r =>
  have#[e,d,x,h1,h2,h3,oe,od,ox]:=h
  exact#[e,d,x,h1,#[k.at h2.he oe,k.at h2.hd od,k.at h2.hx ox],h3,k.off h2.he oe,k.off h2.hd od,k.off h2.hx ox]
let rW{p:LN×Option iw}{v:V}(h:ZK H p w U v):∃ hv,v = .tup [.str p.1,hv]/\Bq H w U p.2 hv:=by
 unfold ZK at h
 cases hp:p.2 with
 | none=>rw[hp]at h; exact#[.none,h,rfl]
 | some r =>
  rw[hp]at h
  have#[e,d,x,h1,h2]:=h
  exact#[.ref e,h1,e,d,x,rfl,h2]
let qj{F:Fc}{o:Option iw}{v v2:V}(h:Bq H w U o v)(k:Q (.str (nW o)) U) :
  wSs T F (match b_afD with | .cons _ (.cons _ (.cons _ (.cons _ s)))=>s | _=>.nil) #[n,none] [some (.ref H.h),some (.ref a),some v2,some v] (PP.fn Q X) U:=by
 unfold b_afD
 cases o with
 | none =>
  cases h
  show 7
  exact fn_agI k
 | some r =>
  have#[e,d,x,rfl,h2,h3,_]:=h
  show 7
  change dh h2
  change mj h3.2.2.2.1
  exact fn_agI k
let Qh{o:Option iw}{v:V}(h:Bq H w U o v)(ok:Gy o)(k:Q (.str (xF o)) U):aj T #[n+7,none] (.ref 772) [v] Q X U:=by
 cases o with
 | none=>cases h; exact yJ k
 | some r =>
  have#[e,d,x,rfl,h2,h3,_]:=h
  exact yt h2 h3 ok k
let VR(hr:gH T E H N run)(hn:N<=n)(I:Inv E H w s U)(o:Ec H w U a ws):At T E H (Dn run ws) jg #[n+10,none] (.ref 800) [.ref H.h,.ref a] w s U:=by
 show 5
 match ws,hm,o with
 | [w0,sc],hm,o =>
  refine(aG 2 m5 (fm 93) rfl λF nd nb=>?_).call
  have tail:=λo (v v2:V) (U:Sg) (w:Wo)=>@qj T X U Q (n+9) H w a F o v v2
  unfold b_afD at tail ⊢
  show 7
  exists aQ o.at_
  show 9
  exists aQ o.at_
  show 9
  change oX o.at_
  refine(DR hr hn I).use hm he (λe U' z=>?_) λp w2 s2 U2 v' hm2 I2 K2 q=>?_
  .show 7
   exact fn_agL z
  cases hm2
  have#[hv,rfl,hA]:=rW q
  have o2:=o.keep K2
  show 7
  exists aQ o2.at_
  show 9
  exists aQ o2.at_
  show 10
  exact tail p.2 hv (.str p.1) U2 w2 hA (he _ _ _ I2 K2 rfl)
 | [w0,sc,x],hm,o =>
  refine(aG 2 m5 (fm 93) rfl λF nd nb=>?_).call
  have tail:=λo (v v2:V) (U:Sg) (w:Wo)=>@qj T X U Q (n+9) H w a F o v v2
  unfold b_afD at tail ⊢
  show 7
  exists aQ o.at_
  show 9
  exists aQ o.at_
  show 9
  change oX o.at_
  refine(DR hr hn I).use hm he (λe U' z=>?_) λp w2 s2 U2 v' hm2 I2 K2 q=>?_
  .show 7
   exact fn_agL z
  have#[hv,rfl,hA]:=rW q
  have o2:=o.keep K2
  show 7
  exists aQ o2.at_
  show 9
  change bM I2 rfl rfl
  change Ig o2.at_
  refine(jk I2).use hm2 (he.step K2) (λe U' z=>?_) λ_ w3 s3 U3 v' hm3 I3 K3 q=>?_
  .show 7
   exact fn_agL z
  cases hm3
  have o3:=o2.keep K3
  show 7
  exists aQ o3.at_
  show 10
  exact tail p.2 hv (.str p.1) U3 w3 (hA.keep K3) (he _ _ _ I3 (K2.trans K3) rfl)
 | [w0,sc,x,y],hm,o =>
  refine(aG 2 m5 (fm 93) rfl λF nd nb=>?_).call
  have tail:=λo (v v2:V) (U:Sg) (w:Wo)=>@qj T X U Q (n+9) H w a F o v v2
  unfold b_afD at tail ⊢
  show 7
  exists aQ o.at_
  show 9
  exists aQ o.at_
  show 9
  change oX o.at_
  refine(DR hr hn I).use hm he (λe U' z=>?_) λp w2 s2 U2 v' hm2 I2 K2 q=>?_
  .show 7
   exact fn_agL z
  have#[hv,rfl,hA]:=rW q
  have o2:=o.keep K2
  show 7
  exists aQ o2.at_
  show 9
  change bM I2 rfl rfl
  change Ig o2.at_
  refine(jk I2).use hm2 (he.step K2) (λe U' z=>?_) λ_ w3 s3 U3 v' hm3 I3 K3 q=>?_
  .show 7
   exact fn_agL z
  have#[ok,hm3]:=bK hm3
  have o3:=o2.keep K3
  have hA3:=hA.keep K3
  show 7
  exists aQ o3.at_
  show 9
  change bM I3 rfl rfl
  change aaJ o3.at_
  change Qh hA3 ok
  refine(jk I3).use hm3 (he.step (K2.trans K3)) (λe U' z=>?_) λ_ w4 s4 U4 v' hm4 I4 K4 q=>?_
  .show 7
   exact fn_agL z
  cases hm4
  show 8
  exact tail p.2 hv (.str p.1) U4 w4 (hA3.keep K4) (he _ _ _ I4 ((K2.trans K3).trans K4) rfl)
let Wk(hr:gH T E H N run)(hn:N<=n)(I:Inv E H w s U)(o:Ec H w U a ws):At T E H (Dk E run ws) jg #[n+9,none] (.ref 821) [.ref H.h,.ref a] w s U:=by
 show 5
 match ws,hm,o with
 | [w0,x,body],hm,o =>
  have hm:=(bK hm).2
  exists 1,Hl,96,b_afH
  exists aQ o.at_
  show 9
  refine eY nd nb (λk O U1=>∃(cd:Nat) (w1:Wo) (s1:cj),O=[some (.ref H.h),some (.ref a),some (.int cd)]/\Inv E H w1 s1 U1/\az H w U w1 U1/\Mo.bnd (kE E run x body k cd) (λ_=>Mo.ret []) s1=some r) ?_ 900 _ _ #[0,w,s,rfl,I,az.refl,hm]
  rintro k O U1 ⟨cd,w1,s1,rfl,I1,K1,hm1⟩
  have o1:=o.keep K1
  cases k with
  | zero=>cases hm1
  | succ k =>
  unfold kE at hm1
  show 7
  by_cases c1:cd=3
  .rw[ad9 c1]at hm1
   cases hm1
   rw[show decide ((cd:Int)≠3)=false from aaA ∎]
   show 7
   exact fn_agI (he _ _ _ I1 K1 rfl)
  rw[ad8 c1]at hm1
  rw[show decide ((cd:Int)≠3)=true from aaB ∎]
  show 7
  change oX o1.at_
  rw[dZ]at hm1
  refine(Xy I1).use hm1 (he.step K1) (λe U' z=>?_) λb w2 s2 U2 v' hm2 I2 K2 q=>?_
  .show 7
   exact fn_agL z
  cases q
  cases b with
  | false =>
   cases hm2
   show 7
   exact fn_agI (he _ _ _ I2 (K1.trans K2) rfl)
  | true =>
   rw[ad9 rfl]at hm2
   have o2:=o1.keep K2
   show 7
   change bM I2 rfl rfl
   rw[dZ]at hm2
   refine(xG I2).use hm2 (he.step (K1.trans K2)) (λe U' z=>?_) λb w3 s3 U3 v' hm3 I3 K3 q=>?_
   .show 7
    exact fn_agL z
   have o3:=o2.keep K3
   show 7
   change Ig o3.at_
   rw[dZ]at hm3
   refine(yS hr (aaC hn (adt _ _)) I3).use hm3 (he.step ((K1.trans K2).trans K3)) (λe U' z=>?_) λp w4 s4 U4 v' hm4 I4 K4 q=>?_
   .show 7
    exact fn_agL z
   cases q
   show 7
   exact#[k,ad6 k,p.1,w4,s4,rfl,I4,((K1.trans K2).trans K3).trans K4,hm4]
let Xr.keep{names values:aX}(h:Xr H w1 U1 g a b names values)(k:az H w1 U1 w2 U2):Xr H w2 U2 g a b names values :=
 #[k.at h.hg h.og,k.at h.ha h.oa,k.at h.hb h.ob,k.off h.hg h.og,k.off h.ha h.oa,k.off h.hb h.ob]
let j9:∀{r:LN} {acc ls:aX},fQ k r acc=some ls->ls.length<=acc.length+k:=by
 induction k with
 | zero=>intro r acc ls h; cases h
 | succ k ih =>
  intro r acc ls h
  unfold fQ at h
  show 2
  .cases h
  .cases h; omega
  .have:=ih h
   simp at this
   omega
let Ax{names values:aX}(I:Inv E H w s U)(o:Ec H w U a [w0,ns,vs,body])(h1:zW ns)(h2:zW vs)(e1:fQ 1000 ns []=some names)(e2:fQ 1000 vs []=some values)(hl:0<names.length)(k:∀ U' g x y,Inv E H w s U'->az H w U w U'->Xr H w U' g x y names values->Q (.tup [.ref g,.int ((values.length+names.length-1)/names.length:Nat)]) U'):aj T #[n+5,none] (.ref 828) [.ref a,.str kind] Q X U:=by
 exists 6,Ai,97,b_afd
 intro g fg
 have I1:=I.fresh (c:=.list []) fg.no
 have K1:az H w U w _:=az.refl.new (c:=.list []) fg.no
 have o1:=o.keep K1
 have og1:=Own.new (c:=.list []) I fg
 generalize U.set g (.list [])=U1 at I1 K1 o1 og1 ⊢
 show 7
 change aQ o1.at_
 change Oe ⋯ ⋯
 rw[show((sV [w0,ns,vs,body]).length:Int)-1=3 from rfl]
 refine#[.rng 1 2 1,by simp[srcOf],?_]
 exists bU nd nb (by intro _ _ z; cases z) (by intro _ _ z; cases z) rfl
 simp only[Src.item]
 rw[ad9 ⋯]
 show 7
 change oX o1.at_
 refine rM h1.1 h1.2 e1 λx fx=>?_
 have I2:=I1.fresh (c:=.list (sV names)) fx.no
 have K2:=az.refl (H:=H) (w:=w) |>.new (c:=.list (sV names)) fx.no
 have ox2:=Own.new (c:=.list (sV names)) I1 fx
 have o2:=o1.keep K2
 have og2:=og1.keep K2
 generalize U1.set x (.list (sV names))=U2 at I2 K2 ox2 o2 og2 ⊢
 show 7
 change aQ ox2.at1
 rw[fP]
 change ao (aaA ∎)
 change Ig o2.at_
 refine rM h2.1 h2.2 e2 λy fy=>?_
 have I3:=I2.fresh (c:=.list (sV values)) fy.no
 have K3:=az.refl (H:=H) (w:=w) |>.new (c:=.list (sV values)) fy.no
 have oy3:=Own.new (c:=.list (sV values)) I2 fy
 have ox3:=ox2.keep K3
 have og3:=og2.keep K3
 generalize U2.set y (.list (sV values))=U3 at I3 K3 oy3 ox3 og3 ⊢
 show 7
 change aQ oy3.at1
 change aQ ox3.at1
 change aQ ox3.at1
 rw[fP,fP]
 have hn:=j9 e1
 have hv:=j9 e2
 simp only[acT,Nat.zero_add]at hn hv
 refine sJ #[by omega,by omega] ?_
 rw[show((values.length:Int)+names.length-1)/names.length=((values.length+names.length-1)/names.length:Nat) by
  rw[Int.natCast_ediv]; congr 1; omega]
 generalize (values.length+names.length-1)/names.length=m at k ⊢
 have fin:∀ v7,aj T #[n+4,none] (.bi "list.append") [.ref g,.tup [.ref x,.ref y]] (λ_ U'=>mD T F (.loc 4) (.rng 1 2 1) 1 (match b_afd with | .cons _ (.cons _ (.cons (.for _ _ b) _))=>b | _=>.nil) #[n+4,none] [some (.ref a),some (.str kind),some (.ref g),some (.int m),some (.int (1+(0:Nat)*2)),some (.ref x),some (.ref y),some (v7)]
   (PP.seq T F #[n+4,none] (match b_afd with | .cons _ (.cons _ (.cons _ s))=>s | _=>.nil) (PP.fn Q X)) U') (λe U'=>(PP.fn Q X).exc e [] U') U3:=by
  intro v7
  exists aH og3.at1 (cM ⋯)
  exists bU nd nb (by intro _ _ z; cases z) (by intro _ _ z; cases z) rfl
  simp only[Src.item]
  rw[ad8 ⋯]
  unfold b_afd
  show 7
  have K4:=og3.kp (c' := .list ([]++[.tup [.ref x,.ref y]])) ((K1.trans K2).trans K3)
  refine fn_agI (k _ g x y (og3.inv I3) K4 #[aq,?_,?_,og3.off,ox3.off,oy3.off])
  .rw[Sg.aa]; exact ox3.at1
   intro z; have:=ox3.no; rw[z]at this; exact absurd og1.at1 (by rw[this]; intro q; cases q)
  .rw[Sg.aa]; exact oy3.at1
   intro z; have:=oy3.no; rw[z,og2.at1]at this; cases this
 unfold b_afd at fin
 show 7
 by_cases c:0<m
 .change aD (aaB ∎)
  change aN og3.at1
  exact fin (.int m)
 .exists ao (aaA ∎)
  have:m=0:=∎
  subst this
  show 7
  change aN og3.at1
  exact fin (.int 0)
let Li(nd:gD F)(nb:bw F){names values:aX}{turn:Nat}(he:vD E H w U R7 Q X r)(hP:∀(w1:Wo) (s1:cj) (U1:Sg) (v5 v6 v7:Option V),r = .ok () s1->Inv E H w1 s1 U1->az H w U w1 U1->P.nxt [some (.ref H.h),some (.ref g),some (.int turn),some (.ref x),some (.ref y),v5,v6,v7] U1)(hPe:∀ e O U',X e U'->P.exc e O U') :
  ∀(rest pre:aX) (at_:Nat) (w1:Wo) (s1:cj) (U1:Sg) (v6 v7:Option V),names=pre++rest->Inv E H w1 s1 U1->az H w U w1 U1->Xr H w1 U1 g x y names values->iG values rest at_ s1=some r ->
   mD T F (.loc 6) (.lst x) pre.length (match b_afG with | .cons (.for _ _ (.cons _ (.cons (.for _ _ b) _))) _=>b | _=>.nil) #[n+6,none] [some (.ref H.h),some (.ref g),some (.int turn),some (.ref x),some (.ref y),some (.int at_),v6,v7] P U1:=by
 intro rest
 induction rest with
 | nil =>
  intro pre at_ w1 s1 U1 v6 v7 e1 I K gr hm
  cases hm
  refine bU nd nb (by intro _ _ z; cases z) (by intro _ _ z; cases z) #[rfl,by rw[gr.ha]; trivial] ?_
  have:(Src.lst x).item U1 pre.length=none:=by
   simp only[Src.item]
   rw[gr.ha,e1,adL]; simp[sV]
  rw[this]
  exact hP _ _ _ _ _ _ rfl I K
 | cons nm rest ih =>
  intro pre at_ w1 s1 U1 v6 v7 e1 I K gr hm
  refine bU nd nb (by intro _ _ z; cases z) (by intro _ _ z; cases z) #[rfl,by rw[gr.ha]; trivial] ?_
  have:(Src.lst x).item U1 pre.length=some (.str nm):=by
   simp only[Src.item]
   rw[gr.ha,e1]; simp[sV]
  rw[this]
  have e1':names=(pre++[nm])++rest:=by rw[e1]; simp
  have fin:∀(v:LN),v=values[at_]?.getD []->aj T #[n+6,none] (.ref 689) [.ref H.h,.str nm,.str v] (λ_ U'=>mD T F (.loc 6) (.lst x) (pre.length+1) (match b_afG with | .cons (.for _ _ (.cons _ (.cons (.for _ _ b) _))) _=>b | _=>.nil) #[n+6,none] [some (.ref H.h),some (.ref g),some (.int turn),some (.ref x),some (.ref y),some (.int ((at_:Int)+1)),some (.str nm),some (.str v)] P U') (λe U'=>P.exc e [some (.ref H.h),some (.ref g),some (.int turn),some (.ref x),some (.ref y),some (.int at_),some (.str nm),some (.str v)] U') U1:=by
   intro v hv
   have hm':Mo.bnd (cP nm v) (λ_=>iG values rest (at_+1)) s1=some r:=by rw[hv]; exact hm
   refine(jk I).use hm' (he.step K) (λe U' z=>hPe _ _ _ z) λ_ w2 s2 U2 v' hm2 I2 K2 q=>?_
   have:=ih (pre++[nm]) (at_+1) w2 s2 U2 (some (.str nm)) (some (.str v)) e1' I2 (K.trans K2) (gr.keep K2) hm2
   simpa using this
  unfold b_afG at fin ⊢
  show 7
  change aQ gr.hb
  rw[fP]
  by_cases c:at_<values.length
  .change aD (aaB ∎)
   change pQ gr.hb (v:=.str (values[at_]?.getD [])) (by unfold sV; rw[acZ,aa1 c]; rfl)
   change bM I rfl rfl
   exact fin _ rfl
  .change ao (aaA ∎)
   change bM I rfl rfl
   exact fin [] (by rw[adM ∎]; rfl)
let HJ{names values:aX}(I:Inv E H w s U)(gr:Xr H w U g x y names values)(ht:turn<=100000):At T E H (iG values names (turn*names.length)) R7 #[n+7,none] (.ref 835) [.ref H.h,.ref g,.int turn] w s U:=by
 show 5
 exists 5,HX,98,b_afG
 refine#[.lst g,by simp only[srcOf]; rw[gr.hg],?_]
 refine bU nd nb (by intro _ _ z; cases z) (by intro _ _ z; cases z) #[rfl,by rw[gr.hg]; trivial] ?_
 have:(Src.lst g).item U 0=some (.tup [.ref x,.ref y]):=by
  simp only[Src.item]
  rw[gr.hg]; rfl
 rw[this]
 show 7
 change aQ gr.ha
 rw[fP]
 exists KJ ∎
 rw[show(turn:Int)*(names.length:Int)=((turn*names.length:Nat):Int)from(Int.natCast_mul _ _).symm]
 show 7
 refine#[.lst x,by simp only[srcOf]; rw[gr.ha],?_]
 have lp:=λP hP hPe=>Li (T:=T) (n:=n) nd nb (P:=P) (turn:=turn) he hP hPe names [] (turn*names.length) w s U none none rfl I az.refl gr hm
 unfold b_afG at lp
 exists lp _ ?_
 .intro w1 s1 U1 v5 v6 v7 e1 I1 K1
  subst e1
  have g1:=gr.keep K1
  show 7
  refine bU nd nb (by intro _ _ z; cases z) (by intro _ _ z; cases z) #[rfl,by rw[g1.hg]; trivial] ?_
  have:(Src.lst g).item U1 1=none:=by
   simp only[Src.item]
   rw[g1.hg]; rfl
  rw[this]
  show 7
  exact fn_agC (he _ _ _ I1 K1 rfl)
 .intro e O U' z
  show 7
  exact fn_agL z
let Od(hl:0<n):(v+n-1)/n<=v:=by
 apply Nat.le_of_lt_succ
 rw[Nat.div_lt_iff_lt_mul hl,Nat.succ_mul]
 have h4:v<=v*n:=Nat.le_mul_of_pos_right _ hl
 omega
have zG(E:Hv)(run:bY)(names values:aX)(body:LN)(rounds k turn:Nat)(kept:aX):Mo aX :=
 if rounds<=turn then Mo.ret kept else lR E run names values body rounds k turn kept
have kO(lm:Bool)(kept:aX):Mo LN:=if lm=true then Mo.bnd (Mo.eE (wM kept)) λ_=>Mo.ret (kZ kept)else Mo.ret []
let Vb(hr:gH T E H N run)(hn:N<=n)(I:Inv E H w s U)(o:Ec H w U a ws):At T E H (Cq E run lm ws) jg #[n+8,none] (.ref 842) [.ref H.h,.ref a,.str (if lm=true then [108,109,97,112]else [102,111,114,101,97,99,104])] w s U:=by
 show 5
 match ws,hm,o with
 | [w0,ns,vs,body],hm,o =>
  have#[#[h1,h2,_],hm]:=bK hm
  have#[names,e1,hm]:=ju hm
  have#[values,e2,hm]:=ju hm
  have#[hl,hm]:=bK hm
  have hk:∀ lm:Bool,(if lm=true then [108,109,97,112]else [102,111,114,101,97,99,104]:LN).length<=10:=by intro b; cases b <;> decide
  have hd:decide ((if lm=true then [108,109,97,112]else [102,111,114,101,97,99,104]:LN)=[108,109,97,112])=lm:=by cases lm <;> decide
  generalize (if lm=true then [108,109,97,112]else [102,111,114,101,97,99,104]:LN)=kind at hk hd
  exists 6,Kc,99,b_afY
  exists aQ o.at_
  show 9
  change aQ o.at_
  exists iR ⋯
  rw[show((sV [w0,ns,vs,body]).length:Int)%2=0 from by rw[show(sV [w0,ns,vs,body]).length=4 from rfl]; decide]
  show 9
  refine Ax I o h1 h2 e1 e2 hl λU1 g x y I1 K1 gr=>?_
  have o1:=o.keep K1
  generalize hrd:(values.length+names.length-1)/names.length=rounds at hm ⊢
  have hrb:rounds<=1000:=by
   have:=j9 e1
   have:=j9 e2
   simp only[acT,Nat.zero_add]at *
   rw[← hrd]
   exact aaC (Od hl) ∎
  show 7
  intro kp fk
  have ng:=fk.ne gr.hg
  have na:=fk.ne gr.ha
  have ny:=fk.ne gr.hb
  have I2:=I1.fresh (c:=.list (sV [])) fk.no
  have K2:=K1.new (c:=.list (sV [])) fk.no
  have ok2:Own H w U w (U1.set kp (.list (sV []))) kp (.list (sV [])):=#[K1.Fp fk.no (I1.off fk.no),aq,I1.off fk.no,λz=>by have:=fk.no; rw[z,I1.tx]at this; cases this]
  have gr2:=gr.keep ((az.refl).new (c:=.list (sV [])) fk.no)
  have o2:=o1.keep ((az.refl).new (c:=.list (sV [])) fk.no)
  have e0:([]:List V)=sV []:=rfl
  rw[e0]
  generalize U1.set kp (.list (sV []))=U2 at I2 K2 ok2 gr2 o2 ⊢
  show 7
  have hm0:Mo.bnd (zG E run names values body rounds 900 0 []) (kO lm) s=some r:=by
   unfold zG
   by_cases c:rounds<=0
   .rw[ad9 c]
    unfold lR at hm
    rw[ad9 c]at hm
    exact hm
   .rw[ad8 c]; exact hm
  refine eY nd nb (λk O U1=>∃(turn:Nat) (kept:aX) (v7 v8:Option V) (w1:Wo) (s1:cj),turn+k<=2000/\kept.length<=turn/\O=[some (.ref H.h),some (.ref a),some (.str kind),some (.ref g),some (.int rounds),some (.ref kp),some (.int turn),v7,v8]/\Inv E H w1 s1 U1/\az H w U w1 U1/\Xr H w1 U1 g x y names values/\Own H w U w1 U1 kp (.list (sV kept))/\Mo.bnd (zG E run names values body rounds k turn kept) (kO lm) s1=some r) ?_ 900 _ _ #[0,[],none,none,w,s,by decide,abW _,rfl,I2,K2,gr2,ok2,hm0]
  clear hm hm0 I1 K1 gr I2 K2 gr2 o2 ok2 o1
  rintro k O U3 ⟨turn,kept,v7,v8,w3,s3,hb,hkl,rfl,I3,K3,gr3,ok3,hm⟩
  have o3:=o.keep K3
  unfold zG at hm
  by_cases c:rounds<=turn
  .rw[ad9 c]at hm
   replace hm:kO lm kept s3=some r:=hm
   show 7
   rw[show decide ((turn:Int)<rounds)=false from aaA ∎]
   show 7
   rw[hd]
   unfold kO at hm
   cases lm with
   | true =>
    rw[ad9 rfl]at hm
    have#[hf,hm]:=bK hm
    cases hm
    show 7
    change nA (.lst ok3.at1) hf.1 (aaC hf.2 ⋯)
    exact fn_agI (he _ _ _ I3 K3 rfl)
   | false =>
    cases hm
    show 7
    exact fn_agI (he _ _ _ I3 K3 rfl)
  rw[ad8 c]at hm
  cases k with
  | zero=>cases hm
  | succ k =>
  unfold lR at hm
  rw[ad8 c,dZ]at hm
  show 7
  rw[show decide ((turn:Int)<rounds)=true from aaB ∎]
  show 7
  change bM I3 rfl rfl
  refine(xG I3).use hm (he.step K3) (λe U' z=>?_) λ_ w4 s4 U4 v' hm4 I4 K4 q=>?_
  .show 7
   exact fn_agL z
  clear q hm
  show 7
  rw[dZ]at hm4
  refine(HJ I4 (gr3.keep K4) ∎).use hm4 (he.step (K3.trans K4)) (λe U' z=>?_) λ_ w5 s5 U5 v' hm5 I5 K5 q=>?_
  .show 7
   exact fn_agL z
  clear q hm4
  have gr5:=(gr3.keep K4).keep K5
  have o5:=(o3.keep K4).keep K5
  show 7
  change LC (vs:=sV [w0,ns,vs]) o5.at_
  rw[dZ]at hm5
  refine(yS hr (aaC hn (adt _ _)) I5).use hm5 (he.step ((K3.trans K4).trans K5)) (λe U' z=>?_) λp w6 s6 U6 v' hm6 I6 K6 q=>?_
  .show 7
   exact fn_agL z
  cases q
  have K36:=((K3.trans K4).trans K5).trans K6
  have gr6:=gr5.keep K6
  have ok6:=((ok3.keep K4).keep K5).keep K6
  show 7
  have fin:∀(kept2:aX) (U7:Sg),kept2.length<=turn+1->Inv E H w6 s6 U7->az H w U w6 U7->Xr H w6 U7 g x y names values->Own H w U w6 U7 kp (.list (sV kept2))->(p.1=3->Mo.bnd (Mo.ret kept2) (kO lm) s6=some r)->(p.1≠3->Mo.bnd (lR E run names values body rounds k (turn+1) kept2) (kO lm) s6=some r) ->
    wSs T F (match b_afY with | .cons _ (.cons _ (.cons _ (.cons _ (.cons (.whl _ (.cons _ (.cons _ (.cons _ (.cons _ s))))) _))))=>s | _=>.nil) #[n+7,none] [some (.ref H.h),some (.ref a),some (.str kind),some (.ref g),some (.int rounds),some (.ref kp),some (.int turn),some (.int p.1),some (.str p.2)]
    ((PP.seq T F #[n+7,none] (match b_afY with | .cons _ (.cons _ (.cons _ (.cons _ (.cons _ s))))=>s | _=>.nil) (PP.fn Q X)).loop λO' U' => ∃ k',k'<k+1/\∃(turn:Nat) (kept:aX) (v7 v8:Option V) (w1:Wo) (s1:cj),turn+k'<=2000/\kept.length<=turn/\O'=[some (.ref H.h),some (.ref a),some (.str kind),some (.ref g),some (.int rounds),some (.ref kp),some (.int turn),v7,v8]/\Inv E H w1 s1 U'/\az H w U w1 U'/\Xr H w1 U' g x y names values/\Own H w U w1 U' kp (.list (sV kept))/\Mo.bnd (zG E run names values body rounds k' turn kept) (kO lm) s1=some r) U7:=by
   intro kept2 U7 hk2 I7 K7 gr7 ok7 h3 hn3
   unfold b_afY
   show 7
   by_cases c3:p.1=3
   .rw[show decide ((p.1:Int)=3)=true from aaB ∎]
    show 7
    refine#[0,Nat.succ_pos _,rounds,kept2,_,_,w6,s6,by omega,by omega,rfl,I7,K7,gr7,ok7,?_]
    unfold zG
    rw[ad9 (abW _)]
    exact h3 c3
   .rw[show decide ((p.1:Int)=3)=false from aaA ∎]
    show 7
    refine#[k,ad6 k,turn+1,kept2,_,_,w6,s6,by omega,hk2,rfl,I7,K7,gr7,ok7,?_]
    unfold zG
    by_cases c4:rounds<=turn+1
    .rw[ad9 c4]
     have:=hn3 c3
     cases k with
     | zero=>cases this
     | succ k =>
      unfold lR at this
      rw[ad9 c4]at this
      exact this
    .rw[ad8 c4]
     exact hn3 c3
  unfold b_afY at fin
  by_cases c0:p.1=0
  .rw[show decide ((p.1:Int)=0)=true from aaB ∎]
   show 7
   change aN ok6.at1
   exists aH ok6.at1 (cM (by rw[fP]; omega))
   rw[pX]
   show 8
   have hne:p.1≠3:=∎
   refine fin (kept++[p.2]) _ (by simp; omega) (ok6.inv I6) (ok6.kp K36) #[?_,?_,?_,gr6.og,gr6.oa,gr6.ob] ok6.turn (λz=>absurd z hne) (λ_=>?_)
   .rw[Sg.aa _ _ ng]; exact gr6.hg
   .rw[Sg.aa _ _ na]; exact gr6.ha
   .rw[Sg.aa _ _ ny]; exact gr6.hb
   .rw[ad8 hne,ad9 c0]at hm6
    exact hm6
  .rw[show decide ((p.1:Int)=0)=false from aaA ∎]
   show 8
   refine fin kept _ ∎ I6 K36 gr6 ok6 (λz=>?_) (λz=>?_)
   .rw[ad9 z]at hm6
    exact hm6
   .rw[ad8 z,ad8 c0]at hm6
    exact hm6
open Mo in show _
have adQ(o:Option LN)(_:Wo)(_:Sg)(v:V):Prop:=v=match o with | none=>V.none | some l=>.str l
open Mo in show ∀{T:Tp}{c:Cx}{X X0:Addr->Ψ}{U U' U1 U2:Sg}{Q Q0:V->Ψ}{n N:Nat}{hd:Option Addr}{O:cZ}{E:Hv}{H:HC}{w w' w1 w2:Wo}{s s' s1 s2:cj}{run:bY}{a:Addr}{ws:aX},_
let Kh(h58:58∉t)(hr:(36::r)<:+t)(hq:nG r=some (nm,r'))(h:Q (.tup [pV (.var nm),.int (pos t r'),.none]) U):aj T #[n+4,hd] (.ref 877) [.str t,.int (pos t (36::r))] Q X U:=by
 exists 4,Bw,104,b_agb
 exists aC hr
 show 9
 change yo h58 hr hq
 exact fn_agI h
let J7(ht:tH t)(hr:(91::r)<:+t)(hq:wN r=some (sc,r'))(h:Q (.tup [pV (.cmd sc),.int (pos t r'),.none]) U):aj T #[n+16,hd] (.ref 877) [.str t,.int (pos t (91::r))] Q X U:=by
 exists 4,Bw,104,b_agb
 exists aC hr
 show 9
 change TY ht hr hq
 exact fn_agI h
let uX(hr:gH T E H N run)(hn:N<=n)(I:Inv E H w s U):At T E H (mQ run p) adQ #[n+8,none] (.ref 884) [.ref H.h,pV p] w s U:=by
 show 5
 refine(aG 1 IV (fm 105) rfl λF nd nb=>?_).call
 unfold b_afz
 unfold mQ Mo.jG Mo.bnd at hm
 show 7
 cases e:nY run [p] s with
 | none=>rw[e]at hm; cases hm
 | some z =>
 rw[e]at hm
 exists Ce hr hn I z _ _ e
 cases z with
 | ok v s' =>
  cases hm
  intro w' U' v' i k q
  cases q
  show 7
  exact fn_agI (he _ _ _ i k rfl)
 | dJ r' s' =>
  intro w' U' e d x i k nx
  show 7
  change lu (.inl rfl) nx.a.he
  exists dh nx.a
  dsimp only at hm
  show 7
  by_cases c1:r'.code=1
  .rw[ad9 c1]at hm
   cases hm
   rw[show decide ((r'.code:Int)=1)=true from aaB ∎]
   show 7
   change vI nx.a.he (.inl rfl) (λh z=>by cases z; exact abW _)
   exact fn_agL (he _ _ _ _ _ i k nx)
  rw[ad8 c1]at hm
  rw[show decide ((r'.code:Int)=1)=false from aaA ∎]
  show 7
  change dh nx.a
  by_cases c2:r'.code=3
  .rw[ad9 c2]at hm
   cases hm
   rw[show decide ((r'.code:Int)=3)=true from aaB ∎]
   show 7
   exact fn_agI (he _ _ _ i k rfl)
  rw[ad8 c2]at hm
  rw[show decide ((r'.code:Int)=3)=false from aaA ∎]
  show 7
  change dh nx.a
  by_cases c3:r'.code=4
  .rw[ad9 c3]at hm
   cases hm
   rw[show decide ((r'.code:Int)=4)=true from aaB ∎]
   show 7
   exact fn_agI (he _ _ _ i k rfl)
  rw[ad8 c3]at hm
  cases hm
  rw[show decide ((r'.code:Int)=4)=false from aaA ∎]
  show 7
  change lD nx.a
  exact fn_agI (he _ _ _ i k rfl)
 | out s' =>
  cases hm
  intro w' U' e d i k nx
  show 7
  change jc (.inr rfl) ⋯ nx.he
  exact fn_agL (he _ _ _ _ i k nx)
let rY(he:vD E H w U jg Q X r)(I:Inv E H w1 s1 U1)(K:az H w U w1 U1)(o:Own H w U w1 U1 mk (.list (sV acc)))(hm:joinM acc s1=some r)(h5:rd O 5=some (.ref mk))(hP:∀ v O,P.ret v O U1=(PP.fn Q X).ret v O U1):wS T F (.ret (.mth (.kon (.str [])) n_join (.cons (.loc 5) .nil))) c O P U1:=by
 have#[hf,hm]:=bK hm
 cases hm
 show 7
 exists lH
 exists Tz
 exists X7 h5
 exists Yl
 have:=hf.1
 unfold tot at this
 exists iy o.at1 (km _) (cM (by simp; omega))
 rw[hP]
 exact fn_agI (he _ _ _ I K rfl)
let Ew(hr:gH T E H N run)(hn:N<=n)(h92:92∉t)(h58:58∉t)(hz:t.length<=900)(I:Inv E H w s U):At T E H (dz run 1000 t []) jg #[n+17,none] (.ref 892) [.ref H.h,.str t,.bool true,.bool true,.bool true] w s U:=by
 show 5
 have ht:tH t:=#[h92,h58,by omega]
 refine(fB 6 Ff (fm 106) (aaQ (i:=8) rfl) (by simp) (by simp) (by simp) λF nd nb=>?_).call
 unfold b_afn
 show 7
 intro mk fm
 have o0:=Own.new (c:=.list (sV [])) I fm
 have I0:=I.fresh (c:=.list (sV [])) fm.no
 have K0:=(az.refl (H:=H) (w:=w)).new (c:=.list (sV [])) fm.no
 rw[show([]:List V)=sV []from rfl]
 generalize U.set mk (.list (sV []))=U0 at o0 I0 K0 ⊢
 show 7
 rw[show(0:Int)=pos t t from mK.symm]
 refine eY nd nb (λk O U1=>∃(r1:LN) (acc:aX) (v7 v8 v9 v10:Option V) (w1:Wo) (s1:cj),O=[some (.ref H.h),some (.str t),some (.bool true),some (.bool true),some (.bool true),some (.ref mk),some (.int (pos t r1)),v7,v8,v9,v10]/\r1<:+t/\acc.length+r1.length<=900/\Inv E H w1 s1 U1/\az H w U w1 U1/\Own H w U w1 U1 mk (.list (sV acc))/\dz run k r1 acc s1=some r) ?_ 1000 _ _ #[t,[],none,none,none,none,w,s,rfl,acQ _,by simpa using hz,I0,K0,o0,hm]
 clear hm I0 K0 o0
 rintro k O U1 ⟨r1,acc,v7,v8,v9,v10,w1,s1,rfl,hs,hl,I1,K1,o1,hm⟩
 cases k with
 | zero=>cases hm
 | succ k =>
 unfold dz at hm
 show 7
 rw[cL]
 cases r1 with
 | nil =>
  show 9
  exact rY (F:=F) (O:=[some (.ref H.h),some (.str t),some (.bool true),some (.bool true),some (.bool true),some (.ref mk),some (.int (pos t [])),v7,v8,v9,v10]) he I1 K1 o1 hm rfl λv O=>rfl
 | cons ch r1 =>
 dsimp only at hm
 have c92:ch≠92:=λz=>h92 (by rw[← z]; exact hs.subset (.head _))
 rw[ad8 c92]at hm
 have hs1:=bC hs
 have app:∀(got:LN) (r2:LN) (w2:Wo) (s2:cj) (U2:Sg) (u7 u8 u9 u10:Option V),r2<:+t->r2.length<=r1.length->Inv E H w2 s2 U2->az H w1 U1 w2 U2->dz run k r2 (acc++[got]) s2=some r ->
   aj T #[n+16,none] (.bi "list.append") [.ref mk,.str got] (λ_ U' => ∃ k',k'<k+1/\∃(r1:LN) (acc:aX) (v7 v8 v9 v10:Option V) (w1:Wo) (s1:cj),([some (.ref H.h),some (.str t),some (.bool true),some (.bool true),some (.bool true),some (.ref mk),some (.int (pos t r2)),u7,u8,u9,u10]:cZ)=[some (.ref H.h),some (.str t),some (.bool true),some (.bool true),some (.bool true),some (.ref mk),some (.int (pos t r1)),v7,v8,v9,v10]/\r1<:+t/\acc.length+r1.length<=900/\Inv E H w1 s1 U'/\az H w U w1 U'/\Own H w U w1 U' mk (.list (sV acc))/\dz run k' r1 acc s1=some r) (λe U'=>(PP.fn Q X).exc e [] U') U2:=by
  intro got r2 w2 s2 U2 u7 u8 u9 u10 h1 h2 I2 K2 hm2
  have o2:=o1.keep K2
  simp only[aaE]at hl
  exists aH o2.at1 (cM (by rw[fP]; omega))
  rw[pX]
  exact#[k,ad6 k,r2,acc++[got],u7,u8,u9,u10,w2,s2,rfl,h1,by simp; omega,o2.inv I2,o2.kp (K1.trans K2),o2.turn,hm2]
 show 9
 change aC hs
 rw[show decide ([ch]=[92])=false from aaA (by simpa using c92)]
 show 7
 by_cases c91:ch=91
 .subst c91
  rw[ad9 rfl]at hm
  have#[p,hp,hm]:=ju hm
  show 9
  exists J7 ht hs hp
  have hsuf:=kW 3 _ _ _ hp
  show 7
  refine(uX hr (aaC hn (adt _ _)) I1).use hm (he.step K1) (λe U' z=>?_) λgot w2 s2 U2 v' hm2 I2 K2 q=>?_
  .show 7
   exact fn_agL z
  cases q
  cases got with
  | none =>
   show 9
   exact rY (F:=F) (O:=[some (.ref H.h),some (.str t),some (.bool true),some (.bool true),some (.bool true),some (.ref mk),some (.int (pos t p.2)),some (.str [91]),some .none,some (pV (.cmd p.1)),some .none]) he I2 (K1.trans K2) (o1.keep K2) hm2 rfl λv O=>rfl
  | some got =>
   show 1
   show 9
   change aN (o1.keep K2).at1
   exact app got p.2 w2 s2 U2 (some (.str [91])) (some (.str got)) (some (pV (.cmd p.1))) (some .none) (hsuf.1.trans hs1) hsuf.1.length_le I2 K2 hm2
 rw[ad8 c91]at hm
 rw[show decide ([ch]=[91])=false from aaA (by simpa using c91)]
 show 7
 by_cases c36:ch=36
 .subst c36
  rw[ad9 rfl]at hm
  have#[p,hp,hm]:=ju hm
  show 9
  exists Kh h58 hs hp
  have hsuf:=qt hp
  show 7
  refine(uX hr (aaC hn (adt _ _)) I1).use hm (he.step K1) (λe U' z=>?_) λgot w2 s2 U2 v' hm2 I2 K2 q=>?_
  .show 7
   exact fn_agL z
  cases q
  cases got with
  | none =>
   show 9
   exact rY (F:=F) (O:=[some (.ref H.h),some (.str t),some (.bool true),some (.bool true),some (.bool true),some (.ref mk),some (.int (pos t p.2)),some (.str [36]),some .none,some (pV (.var p.1)),some .none]) he I2 (K1.trans K2) (o1.keep K2) hm2 rfl λv O=>rfl
  | some got =>
   show 1
   show 9
   change aN (o1.keep K2).at1
   exact app got p.2 w2 s2 U2 (some (.str [36])) (some (.str got)) (some (pV (.var p.1))) (some .none) (hsuf.1.trans hs1) hsuf.1.length_le I2 K2 hm2
 rw[ad8 c36]at hm
 rw[show decide ([ch]=[36])=false from aaA (by simpa using c36)]
 show 9
 rw[bA]
 change aN o1.at1
 exact app [ch] r1 w1 s1 U1 _ _ _ _ hs1 (abW _) I1 az.refl hm
open Mo in show _
have kdF:Kd->Addr
 | .catch=>800
 | .foreach=>842
 | .lmap=>842
 | .whl=>821
 | .eval=>863
 | .subst=>897
 | .brk=>849
 | .cnt=>856
 | .put=>944
 | .say=>951
 | .dear=>958
 | .bad=>965
 | .proc=>972
have kdM(H:HC):Kd->V
 | .foreach=>.str [102,111,114,101,97,99,104]
 | .lmap=>.str [108,109,97,112]
 | .proc=>.ref H.texts
 | _=>.none
let SQ{f:Kd->V}:∀{l:List (LN×Kd)},lk (Cs x) (l.map λp=>(Cs p.1,f p.2))=(pU x l).map f
 | []=>rfl
 | (y,k)::l=>by
  rw[acS]
  unfold lk pU
  simp only[RK]
  by_cases h:x=y
  .rw[ad9 h,ad9 h]; rfl
  .rw[ad8 h,ad8 h]; exact SQ
let Lw{H:HC}:lk (Cs x) (uK H)=(pU x cW).map λk=>.tup [.ref 937,.tup [.ref H.log,.ref (kdF k),kdM H k]]:=SQ (l:=cW) (f:=λk=>.tup [.ref 937,.tup [.ref H.log,.ref (kdF k),kdM H k]])
let Gw:∀{l:List Row} {q:List Addr},q.length=l.length->jf (l++[r]) (q++[b])=jf l q++[qI r b]
 | [],[],_=>rfl
 | u::l,p::q,h=>by
  show qI u p::jf (l++[r]) (q++[b])=_
  rw[Gw (Nat.succ.inj h)]; rfl
let z6:∀{l:List Row} {q:List Addr},q.length=l.length->gm (l++[r]) (q++[b])=gm l q++[(b,.list (bZ r.vs))]
 | [],[],_=>rfl
 | u::l,p::q,h=>by
  show(p,Cell.list (bZ u.vs))::gm (l++[r]) (q++[b])=_
  rw[z6 (Nat.succ.inj h)]; rfl
let Jb:∀{l:List Row} {q:List Addr},(jf l q).length<=l.length
 | [],q=>by cases q <;> exact abW _
 | u::l,[]=>adD _
 | u::l,p::q=>Nat.succ_le_succ Jb
open Mo in show ∀{T:Tp}{c:Cx}{X X0:Addr->Ψ}{U U' U1 U2:Sg}{Q Q0:V->Ψ}{n N:Nat}{hd:Option Addr}{O:cZ}{E:Hv}{H:HC}{w w' w1 w2:Wo}{s s' s1 s2:cj}{run:bY}{a:Addr}{ws:aX},_
let fL(D:At T E H m jg c f vs w s U):At T E H (je m) (Km H) c f vs w s U:=by
 show 5
 unfold je Mo.bnd at hm
 cases e:m s with
 | none=>rw[e]at hm; cases hm
 | some z =>
  rw[e]at hm
  exists D z Q X e
  cases z with
  | ok v s'=>cases hm; exact λw' U' v i k q=>he w' U' v i k q
  | dJ x s'=>cases hm; exact he
  | out s'=>cases hm; exact he
let Xj(C:Vi T)(hr:gH T E H N run)(hn:N<=n)(I:Inv E H w s U)(o:Ec H w U a ws):At T E H (EY run ws) jg #[n+18,none] (.ref 897) [.ref H.h,.ref a] w s U:=by
 show 5
 match ws,hm,o with
 | [w0,t],hm,o =>
  have#[#[h1,h2,h3],hm]:=bK hm
  exact C.subst o.at_ λU' sb=>Ew hr hn h1 h2 h3 (I.keep sb) r Q X hm (he.step (az.sub sb))
let Uu(C:Vi T)(hr:gH T E H N run)(hn:N<=n)(kd)(I:Inv E H w s U)(o:Ec H w U a ws) :
  At T E H (lz E run ws kd) (Km H) #[n+20,none] (.ref (kdF kd)) (.ref H.h :: .ref a::(match kdM H kd with | .none=>[] | v=>[v])) w s U:=by
 cases kd with
 | «catch» => exact fL (VR hr ∎ I o)
 | foreach=>exact fL (Vb hr ∎ I o)
 | lmap=>exact fL (Vb hr ∎ I o)
 | whl=>exact fL (Wk hr ∎ I o)
 | eval=>exact ZQ I o
 | subst=>exact fL (Xj C hr ∎ I o)
 | brk=>exact fL (W8 I o)
 | cnt=>exact fL (J0 I o)
 | put=>exact fL (acx I o)
 | say=>exact fL (abK I o)
 | dear=>exact fL (YW I)
 | bad=>exact fL (ace I o)
 | proc=>exact ZS I o
let Pb(kd):uQ (.ref (kdF kd))=true:=by cases kd <;> decide +kernel
let Inv.row(I:Inv E H w s U)(hb:U b=none):Inv E H { w with rows:=w.rows++[b] } (gA ws s) ((U.set b (.list (bZ s.vars))).set H.log (.list (jf s.log w.rows++[qI #[s.spent,s.rounds.length,s.depth,s.frame,ws,s.vars] b]))) /\
  az H w U { w with rows:=w.rows++[b] } ((U.set b (.list (bZ s.vars))).set H.log (.list (jf s.log w.rows++[qI #[s.spent,s.rounds.length,s.depth,s.frame,ws,s.vars] b]))):=by
 have ob:=I.off hb
 have I1:=I.fresh (c:=.list (bZ s.vars)) hb
 have nl:H.log≠b:=λz=>by rw[← z,I.j5]at hb; cases hb
 have e1:jf (s.log++[#[s.spent,s.rounds.length,s.depth,s.frame,ws,s.vars]]) (w.rows++[b])=jf s.log w.rows++[qI #[s.spent,s.rounds.length,s.depth,s.frame,ws,s.vars] b]:=Gw I.lr
 have e2:gm (s.log++[#[s.spent,s.rounds.length,s.depth,s.frame,ws,s.vars]]) (w.rows++[b])=gm s.log w.rows++[(b,.list (bZ s.vars))]:=z6 I.lr
 have q:=Facts.upd (wc:=[(H.d,Cell.dict (d9 E H s)),(H.rounds,.list (sV s.rounds)),(H.vars,.dict (cB s.vars w.va))]) (c' := .list (jf s.log w.rows++[qI #[s.spent,s.rounds.length,s.depth,s.frame,ws,s.vars] b])) I1.fs I1.fnd
 have e3:addrs H { w with rows:=w.rows++[b] }=addrs H w++[b]:=by unfold addrs; simp
 refine#[#[?_,?_,I.lv,?_,I.nm,?_,?_],?_]
 .intro p hp
  have hp':p∈([(H.d,Cell.dict (d9 E H s)),(H.rounds,.list (sV s.rounds)),(H.vars,.dict (cB s.vars w.va))]++(H.log,.list (jf s.log w.rows++[qI #[s.spent,s.rounds.length,s.depth,s.frame,ws,s.vars] b]))::([(H.h,.inst 749 H.d),(H.tools,.dict (iY H)),(H.inl,.dict []),(H.cmds,.dict (uK H)),(H.firsts,.dict [])]++(dI s.vars w.va++gm s.log w.rows)))∨p=(b,.list (bZ s.vars)):=by
   unfold facts gA at hp
   rw[e1,e2]at hp
   simp only[acR,ado,acX,or_false]at hp ⊢
   rcases hp with h | h | h | h | h | h | h | h | h | h | h | h
   all_goals first | exact .inr h | (refine .inl ?_; simp[h]; done) | skip
   all_goals
    exists .inl
    first
     | exact .inl (.inl h)
     | exact .inl (.inr (.inl h))
     | exact .inl (.inr (.inr h))
     | exact .inr (.inl h)
     | exact .inr (.inr (.inl (.inl h)))
     | exact .inr (.inr (.inl (.inr (.inl h))))
     | exact .inr (.inr (.inl (.inr (.inr (.inl h)))))
     | exact .inr (.inr (.inl (.inr (.inr (.inr (.inl h))))))
     | exact .inr (.inr (.inl (.inr (.inr (.inr (.inr h))))))
     | exact .inr (.inr (.inr (.inl h)))
     | exact .inr (.inr (.inr (.inr h)))
  rcases hp' with h | rfl
  .exact q p h
  .rw[Sg.aa _ _ (Ne.symm nl),Sg.set_same]
 .rw[e3,List.nodup_append]
  exact#[I.nd,by simp,λu hu v hv z=>by simp at hv; subst hv; subst z; exact ob hu]
 .show(w.rows++[b]).length=(s.log++[_]).length
  rw[aaG,aaG,I.lr]; rfl
 .rw[Sg.aa _ _ (Ne.symm (I.ne Q4))]; exact I1.tx
 .rw[e3]
  intro z
  rcases ado.mp z with z | z
  .exact I.tn z
  .simp at z; rw[← z,I.tx]at hb; cases hb
 .refine#[λu hu=>by rw[e3]; exact ad4 _ hu,λu cc hu nu=>#[?_,λz=>?_]]
  .rw[Sg.aa _ _ (λz=>nu (by rw[z]; exact Q4)),Sg.aa _ _ (λz=>by rw[z,hb]at hu; cases hu)]; exact hu
  .rw[e3]at z
   rcases ado.mp z with z | z
   .exact nu z
   .simp at z; rw[z,hb]at hu; cases hu
let O7(C:Vi T)(hr:gH T E H N run)(hn:N<=n)(kd)(I:Inv E H w s U)(o:Ec H w U a ws)(hl:room s) :
  At T E H (λs=>lz E run ws kd (gA ws s)) (Km H) #[n+21,none] (.ref 937) [.ref H.h,.ref a,.tup [.ref H.log,.ref (kdF kd),kdM H kd]] w s U:=by
 show 5
 exists 4,Py,113,b_af8
 change ql I
 change uA I.wO rfl
 change aQ I.yZ
 rw[fP]
 change aN I.j5
 change eU I
 change jZ I
 change rF I
 change jQ o.at_
 refine C.vars I hl.2.1 hl.2.2 λb fb=>?_
 have nl:H.log≠b:=λz=>by have:=fb.no; rw[← z,I.j5]at this; cases this
 show 7
 exists aH ((Sg.aa _ _ nl).trans I.j5) (cM ?_)
 .have:=Jb (l:=s.log) (q:=w.rows)
  have:=hl.1
  omega
 have#[I2,K2]:=I.row fb.no
 have o2:=o.keep K2
 unfold qI at I2 K2 o2
 dsimp only at I2 K2 o2
 generalize ((U.set b (.list (bZ s.vars))).set H.log _:Sg)=U2 at I2 K2 o2 ⊢
 have D:=Uu C hr hn kd I2 o2
 have hv:kdM H kd = .none∨(∃ l,kdM H kd = .str l)∨∃ b,kdM H kd = .ref b:=by cases kd <;> first | exact .inl rfl | exact .inr (.inl #[_,rfl]) | exact .inr (.inr #[_,rfl])
 have hc:=Pb kd
 have he2:=he.step K2
 generalize hf:kdF kd=f at D hc ⊢
 generalize hg:kdM H kd=v at D hv ⊢
 rcases hv with rfl | ⟨l,rfl⟩ | ⟨b,rfl⟩
 all_goals
  show 9
  change Eb rfl hc
  refine D.last hm he2 (λe U' z=>?_) (λv U' z=>?_)
  .show 7
   exact fn_agL z
  .show 7
   exact fn_agI z
open Mo in show _
let yG:∀{r:LN} {c:Nat} {r':LN},cG r=c::r'->Rk c≠true
 | [],c,r',h=>by cases h
 | d::r,c,r',h=>by
  unfold cG at h
  by_cases g:Rk d=true
  .rw[ad9 g]at h; exact yG h
  .rw[ad8 g]at h; cases h; exact g
let mZ:∀{n:Nat} {r:LN},r.length<n->∀ m,aA (m+1) (aA n r)=aA n r
 | 0,r,h,m=>absurd h (Nat.not_lt_zero _)
 | n+1,r,h,m=>by
  have hl:=Dg r
  have e:aA (n+1) r=match cG r with
   | []=>[]
   | c::r'=>if c=35 then aA n (bL r')else if c=10∨c=59 then aA n r' else c::r':=rfl
  rw[e]
  cases hs:cG r with
  | nil=>rfl
  | cons c r' =>
   rw[hs]at hl
   simp only[aaE]at hl
   show 1
   by_cases c1:c=35
   .rw[ad9 c1]
    exact mZ (by have:=(d7 r').length_le; omega) m
   .rw[ad8 c1]
    by_cases c2:c=10∨c=59
    .rw[ad9 c2]; exact mZ ∎ m
    .rw[ad8 c2]
     have g:=yG hs
     have:cG (c::r')=c::r':=by unfold cG; rw[ad8 g]
     show(match cG (c::r')with | []=>[] | c::r'=>if c=35 then aA m (bL r')else if c=10∨c=59 then aA m r' else c::r')=_
     rw[this]
     show 1
     rw[ad8 c1,ad8 c2]
let Xf(t:LN):cut t none (some 1)=t.take 1:=by
 unfold cut
 simp only[Option.elim_none,Option.elim_some,List.drop_zero]
 cases t with
 | nil=>simp
 | cons a t =>
  have:clipAt (t.length+1) 1=1:=by
   have:=jJ (t:=0::List.replicate t.length 0) (acU _ _)
   simp only[pos,aaE,List.length_replicate]at this
   have e:((t.length+1:Nat):Int)-(t.length:Int)=1:=∎
   rw[e]at this
   omega
  simp[this]
let acK(hl:r.length<=100000)(e:aJ wN false r=some (some q)):q.e<:+aA 100001 q.b:=by
 have#[h1,h2,h3]:=ig (kW 3) e
 have:q.b=aA 100001 r:=by
  unfold aJ at e
  cases hs:aA 100001 r with
  | nil=>rw[hs]at e; cases e
  | cons c r' =>
   rw[hs]at e
   dsimp only at e
   rw[ad8 (by simp)]at e
   cases ev:dN wN false (c::r') 100001 (c::r') []with
   | none=>rw[ev]at e; cases e
   | some q' =>
    rw[ev]at e
    cases e
    exact(pI (kW 3) ev).1
 rw[this,mZ ∎ 100000,← this]
 exact h2
open Mo in show ∀{T:Tp}{c:Cx}{X X0:Addr->Ψ}{U U' U1 U2:Sg}{Q Q0:V->Ψ}{n N:Nat}{hd:Option Addr}{O:cZ}{E:Hv}{H:HC}{w w' w1 w2:Wo}{s s' s1 s2:cj}{run:bY}{a:Addr}{ws:aX},_
let Inv.but(I:Inv E H w s U)(h:∀ u cc,u≠d->U u=some cc->U' u=some cc)(od:d∉addrs H w)(nt:d≠H.texts):Inv E H w s U' :=
 #[λp hp=>h _ _ (λz=>od (by rw[← z]; exact n7 I.lv I.lr▸adw.mpr #[p,hp,rfl])) (I.fs p hp),I.nd,I.lv,I.lr,I.nm,h _ _ (Ne.symm nt) I.tx,I.tn]
let az.but(k:az H w U w1 U1)(h:∀ u cc,u≠d->U1 u=some cc->U2 u=some cc)(nd:U d=none):az H w U w1 U2 :=
 #[k.own,λb cc hb nb=>#[h _ _ (λz=>by rw[z,nd]at hb; cases hb) (k.rest b cc hb nb).1,(k.rest b cc hb nb).2]]
let Vp:mz E ws s=Mo.bnd (dM E) (λ_=>λs=>if room s then some (.ok () (gA ws s))else none) s:=by
 unfold mz Mo.bnd dM
 by_cases c:over E.fuel (s.spent+1)=true
 .rw[ad9 c,ad9 c]
 .rw[ad8 c,ad8 c]
  rfl
let aj.gj(h:aj T c f vs Q X U)(hq:∀ v U',Q v U'->Q' v U')(hx:∀ e U',X e U'->X' e U'):aj T c f vs Q' X' U:=λg s A l fv args a b d e r =>
 aaz (h g s A l fv args a b d e r) (λ_ _ #[g',x,U',h1,h2,h3,h4,h5]=>#[g',x,U',h1,h2,h3,h4,hq _ _ h5]) λ_ _ #[g',e,U',h1,h2,h3,h4,h5,h6]=>#[g',e,U',h1,h2,h3,h4,h5,hx _ _ h6]
let acN{v:V}(hv:isNone v=false)(hc:uQ (.ref f)=true)(k:aj T #[n,hd] (.ref f) [.ref H.h,.ref a,v] Q X U):aj T #[n+1,hd] (.ref 632) [.ref H.h,.ref a,.ref f,v] Q X U:=by
 exists abj,71,b_agD
 rw[hv]
 show 7
 change Eb rfl hc
 exact k.gj (λv U' z=>fn_agI z) (λe U' z=>by show 7; exact fn_agL z)
let Vy(C:Vi T)(hr:gH T E H N run)(hn:N<=n)(I:Inv E H w s U)(o:Ec H w U a ws):At T E H (yw E run ws) (Km H) #[n+23,none] (.ref 746) [.ref H.h,.ref a] w s U:=by
 show 5
 match ws,hm,o with
 | x::ws,hm,o =>
  refine(aG 2 rJ (fm 86) rfl λF nd nb=>?_).call
  unfold b_aeH
  unfold yw at hm
  dsimp only at hm
  show 7
  change Mz o.at_
  change Mu I
  exists Fv I.Sx
  rw[Lw]
  cases hk:pU x cW with
  | none =>
   rw[hk]at hm
   have#[hx,hm]:=bK hm
   cases hm
   show 9
   change Mz o.at_
   change bf (cM (by simp; omega))
   change bf (cM (by simp; omega))
   change Mz o.at_
   refine Nv (ec:=[[84,67,76],[76,79,79,75,85,80],[67,79,77,77,65,78,68],x]) λe U' z=>?_
   show 7
   have#[dd,xx,_,_,ea]:=z.at_
   change vI ea.he (.inl rfl) (λh z=>by cases z)
   exact fn_agL (wQ he I az.refl z)
  | some kd =>
   rw[hk]at hm
   dsimp only at hm
   have hm':Mo.bnd (dM E) (λ_ s=>if room s then lz E run (x::ws) kd (gA (x::ws) s)else none) s=some r:=by
    rw[← hm]
    unfold Mo.bnd
    rw[Vp]
    unfold Mo.bnd
    cases dM E s with
    | none=>rfl
    | some z=>cases z with
     | ok u s' =>
      by_cases c:room s'
      .simp only[ad9 c]
      .simp only[ad8 c]
     | dJ _ _=>rfl
     | out _=>rfl
   show 9
   change bM I rfl rfl
   refine(xG I).use hm' he (λe U' z=>?_) λ_ w2 s2 U2 v' hm2 I2 K2 q=>?_
   .show 7
    exact fn_agL z
   have o2:=o.keep K2
   by_cases c:room s2
   case neg=>rw[ad8 c]at hm2; cases hm2
   rw[ad9 c]at hm2
   show 7
   change Mu I2
   change Mz o2.at_
   change uA I2.Sx (by rw[Lw,hk]; rfl)
   exists acN rfl ⋯
   refine(O7 C hr hn kd I2 o2 c).last hm2 (he.step K2) (λe U' z=>?_) (λv U' z=>?_)
   .show 7
    exact fn_agL z
   .show 7
    exact fn_agI z
let Wy(I:Inv E H w s U)(nn:jd U b d sc back ip lb)(k:∀ U',Inv E H w (sE back s) U'->az H w U w U'->Q .none U'):aj T #[n+1,hd] (.ref 583) [.ref H.h,.ref b] Q X U:=by
 exists Ei,65,b_afj
 exists n_g_back nn
 cases back with
 | none =>
  unfold oR
  show 7
  exact fn_agC (k U I az.refl)
 | some f =>
  unfold oR
  show 7
  change n_g_back nn
  change HW I
  exact fn_agC (k _ (I.Hy (λs=>{ s with frame:=some f }) rfl rfl rfl) (az.refl.mine H6))
let qp(I:Inv E H w s U)(nn:jd U b d sc back ip lb)(k:∀ U',Inv E H w (sE back s) U'->az H w U w U'->P.nxt [some (.ref H.h),some (.ref b),v2] U') :
  wSs T F (.cons (.exp (.mth (.loc 0) n_leave (.cons (.loc 1) .nil))) .nil) #[n+1,hd] [some (.ref H.h),some (.ref b),v2] P U:=by
 show 7
 change bM I rfl rfl
 refine Wy I nn λU' i k' => ?_
 show 7
 exact k U' i k'
let Qu(hr:gH T E H N run)(hn:N<=n)(I:Inv E H w s U)(nn:jd U b d sc back ip lb)(ob:b∉addrs H w)(od:d∉addrs H w) :
  At T E H (bk run (.nest sc back ip lb)) jg #[n+6,none] (.ref 576) [.ref H.h,.ref b] w s U:=by
 show 5
 refine(aG 1 Al (fm 64) rfl λF nd nb=>?_).call
 unfold b_ae9
 unfold bk at hm
 have hm:=(bK hm).2
 unfold Mo.H3 Mo.jG at hm
 show 7
 change bM I rfl rfl
 change n_g_script nn
 cases e:run sc s with
 | none=>rw[e]at hm; cases hm
 | some z =>
 rw[e]at hm
 exists hr (aaC hn (adt _ _)) I z _ _ e
 have nk:∀{w1:Wo} {U1:Sg},az H w U w1 U1->jd U1 b d sc back ip lb:=λk=>#[k.at nn.ha ob,k.at nn.hd od]
 cases z with
 | ok v s' =>
  cases hm
  intro w' U' v' i k q
  cases q
  show 8
  refine qp i (nk k) λU2 i2 k2=>?_
  show 7
  exact fn_agI (he _ _ _ i2 (k.trans k2) rfl)
 | dJ r' s' =>
  intro w' U' e d' x i k nx
  dsimp only at hm
  show 7
  change lu (.inl rfl) nx.a.he
  exists n_g_proc (nk k)
  cases ip with
  | false =>
   rw[ad8 Bool.false_ne_true]at hm
   cases hm
   show 7
   exists vI nx.a.he (.inl rfl) (λh z=>by cases z; exact abW _)
   show 8
   refine qp i (nk k) λU2 i2 k2=>?_
   show 7
   exact fn_agL (he _ _ _ _ _ i2 (k.trans k2) (nx.keep k2))
  | true =>
   rw[ad9 rfl]at hm
   cases e2:jW lb r' s' with
   | none=>rw[e2]at hm; cases hm
   | some z2 =>
   rw[e2]at hm
   have#[#[sm,hlb],e3]:=bK e2
   show 7
   refine Ln (nk k) hlb nx.a sm rfl (λr2 hr2=>?_) (λv hv=>?_)
   .rw[hr2]at e3
    cases e3
    cases hm
    refine#[λe' d2 x2 U2 ea2 hag hnew=>?_]
    have ntx:d'≠H.texts:=λz=>by have:=nx.nd; rw[z,I.tx]at this; cases this
    have i2:=i.but hag nx.od ntx
    have k2:=k.but hag nx.nd
    have nx2:DG H w' U U2 e' d2 x2 r2:=by
     rcases hnew with⟨rfl,rfl,rfl⟩ | ⟨n1,n2,n3⟩
     .exact#[ea2,nx.nd,nx.oe,nx.od,nx.ox]
     .exact#[ea2,k.Fp n2 (i.off n2),i.off n1,i.off n2,i.off n3]
    show 8
    refine qp i2 (nk k2) λU3 i3 k3=>?_
    show 7
    exact fn_agL (he _ _ _ _ _ i3 (k2.trans k3) (nx2.keep k3))
   .rw[hv]at e3
    cases e3
    cases hm
    show 8
    refine qp i (nk k) λU3 i3 k3=>?_
    show 7
    exact fn_agI (he _ _ _ i3 (k.trans k3) rfl)
 | out s' =>
  cases hm
  intro w' U' e d' i k nx
  show 7
  exists jc (.inr rfl) ⋯ nx.he
  show 8
  refine qp i (nk k) λU2 i2 k2=>?_
  show 7
  exact fn_agL (he _ _ _ _ i2 (k.trans k2) (nx.keep k2))
let Y8(C:Vi T)(hr:gH T E H N run)(hn:N<=n)(I:Inv E H w s U)(o:Ec H w U a ws):At T E H (b7 E run ws) jg #[n+24,none] (.ref 569) [.ref H.h,.ref a] w s U:=by
 show 5
 have hne:ws≠[]:=by
  rintro rfl
  cases hm
 exists 1,Hq,63,b_afA
 exists abn o.at_
 have hne':sV ws≠[]:=by cases ws with
  | nil=>exact absurd rfl hne
  | cons _ _=>simp[sV]
 rw[show decide (sV ws≠[])=true from aaB hne']
 show 7
 change bM I rfl rfl
 refine(Vy C hr hn I o).use hm he (λe U' z=>?_) λg w2 s2 U2 v' hm2 I2 K2 q=>?_
 .show 7
  exact fn_agL z
 cases g with
 | str l =>
  cases q
  cases hm2
  show 7
  change o8 ⋯
  change o8 ⋯
  exact fn_agI (he _ _ _ I2 K2 rfl)
 | nest sc back ip lb =>
  have#[b,d,rfl,nn,ob,od]:=q
  show 7
  change yl ⋯ nn.ha
  change bM I2 rfl rfl
  refine(Qu hr ∎ I2 nn ob od).last hm2 (he.step K2) (λe U' z=>?_) (λv U' z=>?_)
  .show 7
   exact fn_agL z
  .show 7
   exact fn_agI z
have Xu(E:Hv)(run:bY)(text:LN)(k:Nat)(o:Option Ko)(res:LN):Mo LN:=match o with
 | none=>Mo.ret res
 | some q=>Mo.bnd (uW E run text q) λv=>ik E run text k q.z v
let rO(C:Vi T)(hr:gH T E H N run)(hn:N<=n){text:LN}(I:Inv E H w s U):At T E H (qy E run text) jg #[n+25,none] (.ref 505) [.ref H.h,.str text] w s U:=by
 show 5
 unfold qy at hm
 have#[ht,hm]:=bK hm
 replace hm:Mo.bnd (Mo.opt (aJ wN false text)) (λo=>Xu E run text 899 o []) s=some r:=hm
 have#[o,eo,hm]:=ju hm
 exists 7,Dt,55,b_afr
 change Aj ht eo
 refine eY nd nb (λk O U1=>∃(r1 res:LN) (o:Option Ko) (v3 v4:V) (v6 v7:Option V) (w1:Wo) (s1:cj),O=[some (.ref H.h),some (.str text),some (.str res),some v3,some v4,some (oV text o),v6,v7,none]/\r1<:+text/\aJ wN false r1=some o/\Inv E H w1 s1 U1/\az H w U w1 U1/\Xu E run text k o res s1=some r) ?_ 899 _ _ #[text,[],o,_,_,none,none,w,s,rfl,acQ _,eo,I,az.refl,hm]
 clear hm eo o
 rintro k O U1 ⟨r1,res,o,v3,v4,v6,v7,w1,s1,rfl,hs,eo,I1,K1,hm⟩
 cases o with
 | none =>
  cases hm
  dsimp only[oV]
  show 7
  exact fn_agI (he _ _ _ I1 K1 rfl)
 | some q =>
  have#[q1,q2,q3]:=ig (kW 3) eo
  have hl1:=hs.length_le
  have hqe:=acK (by have:=ht.2.2; omega) eo
  have hqb:=q1.trans hs
  have hqz:=(q3.trans q2).trans hqb
  dsimp only[oV,cV]
  unfold Xu at hm
  dsimp only at hm
  have bad:∀(x:iw) (s2:cj) (w2:Wo) (U2:Sg) (e d y:Addr) (O:cZ) (h8:O=[some (.ref H.h),some (.str text),some (.str res),some (.int (pos text q.b)),some (.int (pos text q.e)),some (oV text (some q)),some (.tup (q.ws.map wV)),some (.int (pos text q.z)),none]),Mo.bnd (Mo.eE (small x/\text.length<=800)) (λ_=>Mo.rai (gV x text q.b q.e):Unit->Mo LN) s2=some (.dJ (gV x text q.b q.e) s2)->r = .dJ (gV x text q.b q.e) s2->Inv E H w2 s2 U2->az H w U w2 U2->DG H w2 U U2 e d y x ->
    Jo T F #[n+24,none] (PP.seq T F #[n+24,none] (.cons (.ret (.loc 2)) .nil) (PP.fn Q X)) 84 (some 8) (match b_afr with | .cons _ (.cons _ (.cons _ (.cons (.tryE _ _ _ _ _ h) _)))=>h | _=>.nil) e O U2:=by
   rintro x s2 w2 U2 e d y O rfl hg hr2 I2 K2 nx
   subst hr2
   have#[#[sm,h800],_]:=bK hg
   exists lu (.inl rfl) nx.a.he
   unfold b_afr
   show 7
   refine Xp nx.a sm ht h800 hqb hqe λU3 ea3 hag=>?_
   have ntx:d≠H.texts:=λz=>by have:=nx.nd; rw[z,I.tx]at this; cases this
   show 7
   change vI ea3.he (.inl rfl) (λh z=>by cases z; exact abW _)
   exact fn_agL (he _ _ _ _ _ (I2.but hag nx.od ntx) (K2.but hag nx.nd) #[ea3,nx.nd,nx.oe,nx.od,nx.ox])
  unfold b_afr at bad
  show 7
  change bM I1 rfl rfl
  unfold Mo.bnd uW Mo.jG Mo.bnd at hm
  cases e1:gw run q.ws s1 with
  | none=>rw[e1]at hm; cases hm
  | some z =>
  rw[e1]at hm
  exists Jp hr ∎ I1 z _ _ e1
  cases z with
  | out s' =>
   cases hm
   intro w' U' e d i k' nx
   show 7
   change jc (.inr rfl) ⋯ nx.he
   exact fn_agL (he _ _ _ _ i (K1.trans k') nx)
  | dJ x s' =>
   dsimp only at hm
   intro w' U' e d y i k' nx
   have nx':=nx.back K1 k'
   by_cases g:small x/\text.length<=800
   case neg =>
    unfold Mo.eE at hm
    rw[ad8 g]at hm
    cases hm
   have hg:Mo.bnd (Mo.eE (small x/\text.length<=800)) (λ_=>Mo.rai (gV x text q.b q.e):Unit->Mo LN) s'=some (.dJ (gV x text q.b q.e) s'):=by unfold Mo.bnd Mo.eE; rw[ad9 g]; rfl
   unfold Mo.eE at hm
   rw[ad9 g]at hm
   cases hm
   show 7
   exact bad x s' w' U' e d y _ rfl hg rfl i (K1.trans k') nx'
  | ok ws s' =>
   intro w' U' v i k' qq
   have#[b,rfl,hb,ob]:=qq
   dsimp only at hm
   show 7
   cases e2:b7 E run ws s' with
   | none=>rw[e2]at hm; cases hm
   | some z =>
   rw[e2]at hm
   exists Y8 C hr hn i #[hb,ob] z _ _ e2
   have K2:=K1.trans k'
   cases z with
   | out s2 =>
    cases hm
    intro w3 U3 e d i3 k3 nx
    show 7
    change jc (.inr rfl) ⋯ nx.he
    exact fn_agL (he _ _ _ _ i3 (K2.trans k3) nx)
   | dJ x s2 =>
    dsimp only at hm
    intro w3 U3 e d y i3 k3 nx
    have nx':=nx.back K2 k3
    by_cases g:small x/\text.length<=800
    case neg =>
     unfold Mo.eE at hm
     rw[ad8 g]at hm
     cases hm
    have hg:Mo.bnd (Mo.eE (small x/\text.length<=800)) (λ_=>Mo.rai (gV x text q.b q.e):Unit->Mo LN) s2=some (.dJ (gV x text q.b q.e) s2):=by unfold Mo.bnd Mo.eE; rw[ad9 g]; rfl
    unfold Mo.eE at hm
    rw[ad9 g]at hm
    cases hm
    show 7
    exact bad x s2 w3 U3 e d y _ rfl hg rfl i3 (K2.trans k3) nx'
   | ok v s2 =>
    intro w3 U3 v' i3 k3 qq
    cases qq
    show 7
    cases k with
    | zero=>cases hm
    | succ k =>
    replace hm:Mo.bnd (Mo.opt (aJ wN false q.z)) (λo=>Xu E run text k o v) s2=some r:=hm
    have#[o2,eo2,hm]:=ju hm
    change pg ht hqz eo2
    exact#[k,ad6 k,q.z,v,o2,_,_,_,_,w3,s2,rfl,hqz,eo2,i3,K2.trans k3,hm]
let N6(C:Vi T)(hr:gH T E H N run)(hn:N<=n)(I:Inv E H w s U)(hz:s.rounds.length<=900):At T E H (d8 E run text) jg #[n+26,none] (.ref 986) [.ref H.h,.str text] w s U:=by
 show 5
 refine(cu Qe (fm 120) rfl λF nd nb=>?_).call
 unfold b_agh
 unfold d8 at hm
 show 7
 rw[Xf]
 by_cases c:text.take 1=[32]
 .rw[ad9 c]at hm
  rw[show decide (text.take 1=[32])=true from aaB c]
  show 7
  change ql I
  change uA I.wO rfl
  change aN I.yZ
  exists aH I.yZ (cM (by rw[fP]; omega))
  rw[pX]
  have I2:=I.Jm text
  have K2:az H w U w _:=az.refl.mine (c:=.list (sV (s.rounds++[text]))) (CN)
  show 7
  refine(rO C hr hn I2).last hm (he.step K2) (λe U' z=>?_) (λv U' z=>?_)
  .show 7
   exact fn_agL z
  .show 7
   exact fn_agI z
 .rw[ad8 c]at hm
  rw[show decide (text.take 1=[32])=false from aaA c]
  show 7
  refine(rO C hr hn I).last hm he (λe U' z=>?_) (λv U' z=>?_)
  .show 7
   exact fn_agL z
  .show 7
   exact fn_agI z
let ach(C:Vi T)(hr:gH T E H N run)(hn:N<=n)(I:Inv E H w s U) :
  At T E H (Mo.bnd (λs=>if s.depth<40/\s.rounds.length<=900 then some (.ok () { s with depth:=s.depth+1 })else none) λ_=>zE (d8 E run text)) jg #[n+27,none] (.ref 555) [.ref H.h,.str text] w s U:=by
 show 5
 refine(aG 1 JM (fm 61) rfl λF nd nb=>?_).call
 unfold b_af3
 unfold Mo.bnd at hm
 dsimp only at hm
 by_cases hd:s.depth<40/\s.rounds.length<=900
 case neg=>rw[ad8 hd]at hm; cases hm
 rw[ad9 hd]at hm
 dsimp only at hm
 show 7
 change jZ I
 change Rz I
 rw[show decide ((40:Int)<=s.depth)=false from aaA ∎]
 show 7
 change bM I rfl rfl
 change Ri I rfl
 change jZ I
 rw[show(s.depth:Int)+1=((s.depth+1:Nat):Int)from rfl]
 exists GC I
 have I1:=I.Hy (λs=>{ s with depth:=s.depth+1 }) rfl rfl rfl
 have K1:az H w U w _:=az.refl.mine (c:=.dict (d9 E H { s with depth:=s.depth+1 })) (H6)
 show 7
 change Eb rfl ⋯
 unfold zE at hm
 cases e1:d8 E run text { s with depth:=s.depth+1 }with
 | none=>rw[e1]at hm; cases hm
 | some z =>
 rw[e1]at hm
 have sub:∀(s':cj),0<s'.depth->((s'.depth:Int)-1)=((s'.depth-1:Nat):Int):=λs' h=>by omega
 have fin:∀{w2:Wo} {s2:cj} {U2:Sg} {hd2:Option Addr} {P:PP},0<s2.depth->Inv E H w2 s2 U2->(∀ U3,Inv E H w2 { s2 with depth:=s2.depth-1 } U3->az H w2 U2 w2 U3->P.nxt [some (.ref H.h),some (.str text),some (.ref 986)] U3)->wSs T F (.cons (.augA (.loc 0) n_depth .Sub (.kon (.int 1))) .nil) #[n+26,hd2] [some (.ref H.h),some (.str text),some (.ref 986)] P U2:=by
  intro w2 s2 U2 hd2 P hp I2 k
  show 7
  change jZ I2
  rw[sub s2 hp]
  change GC I2
  exact k _ (I2.Hy (λs=>{ s with depth:=s.depth-1 }) rfl rfl rfl) (az.refl.mine H6)
 exists N6 C hr hn I1 hd.2 z _ _ e1
 cases z with
 | ok v s' =>
  dsimp only at hm
  by_cases hp:0<s'.depth
  case neg=>rw[ad8 hp]at hm; cases hm
  rw[ad9 hp]at hm
  cases hm
  intro w' U' v' i k q
  cases q
  show 8
  refine fin hp i λU3 i3 k3=>?_
  show 7
  exact fn_agI (he _ _ _ i3 ((K1.trans k).trans k3) rfl)
 | dJ x s' =>
  dsimp only at hm
  by_cases hp:0<s'.depth
  case neg=>rw[ad8 hp]at hm; cases hm
  rw[ad9 hp]at hm
  cases hm
  intro w' U' e d y i k nx
  show 8
  refine fin hp i λU3 i3 k3=>?_
  show 7
  exact fn_agL (he _ _ _ _ _ i3 ((K1.trans k).trans k3) ((nx.back K1 k).keep k3))
 | out s' =>
  dsimp only at hm
  by_cases hp:0<s'.depth
  case neg=>rw[ad8 hp]at hm; cases hm
  rw[ad9 hp]at hm
  cases hm
  intro w' U' e d i k nx
  show 8
  refine fin hp i λU3 i3 k3=>?_
  show 7
  exact fn_agL (he _ _ _ _ i3 ((K1.trans k).trans k3) (nx.keep k3))
let runC(C:Vi T)(g:Nat):gH T E H (27*g) (runM E g):=by
 induction g with
 | zero=>intro n hn text w s U I r Q X hm _; cases hm
 | succ g ih =>
  intro n hn text w s U I
  obtain⟨m,rfl⟩:∃ m,n=m+27:=#[n-27,by omega]
  exact ach C ih ∎ I
open Mo in show _
let Ss(h:ZX l)(hr:r.sp=l.length+1+r.rd+Gb l):ZX (l++[r]):=λi x hx=>by
 rcases Nat.lt_or_ge i l.length with hi | hi
 .rw[List.getElem?_append_left hi]at hx
  rw[List.take_append_of_le_length (Nat.le_of_lt hi)]
  exact h i x hx
 .rw[List.getElem?_append_right hi]at hx
  have hi0:i-l.length=0:=by
   rcases Nat.eq_zero_or_pos (i-l.length)with z | z
   .exact z
   .rw[adM (by simpa using Nat.succ_le_of_lt z)]at hx; cases hx
  have:=Nat.le_antisymm (Nat.sub_eq_zero_iff_le.mp hi0) hi
  subst this
  rw[Nat.sub_self]at hx
  cases hx
  rw[List.take_left]
  exact hr
let Hu(l)(r):Gb (l++[r])=Gb l+if qg r=true then 1 else 0:=by
 unfold Gb
 rw[List.filter_append,aaG]
 cases h:qg r <;> simp[List.filter,h]
let Fr.same(h1:s'.log=s.log)(h2:s'.spent=s.spent)(h3:s'.depth=s.depth)(h4:s'.frame=s.frame):Fr s s' :=
 #[#[[],by rw[h1,adL],λ_ z=>nomatch z],Nat.le_of_eq h2.symm,h3,h4]
let Fr.refl(s):Fr s s:=.same rfl rfl rfl rfl
let Fr.trans(h:Fr a b)(k:Fr b c):Fr a c:=by
 have#[#[n1,e1,h1],l1,d1,f1]:=h
 have#[#[n2,e2,h2],l2,d2,f2]:=k
 refine#[#[n1++n2,by rw[e2,e1,ad5],λr hr=>?_],aaC l1 l2,d2.trans d1,f2.trans f1]
 rcases ado.mp hr with hr | hr
 .exact#[(h1 r hr).1,aaC (h1 r hr).2 l2]
 .exact#[Nat.lt_of_le_of_lt l1 (h2 r hr).1,(h2 r hr).2]
let s8.fr:∀{r:Rs α},s8 E d s r->Fr s (stOf r)
 | .ok _ _,h=>h.2
 | .dJ _ _,h=>h.2
 | .out _,h=>h.1
let s8.trans{d:Nat}(k:Fr s s'):∀{r:Rs α},s8 E d s' r->s8 E d s r
 | .ok _ _,h=>#[h.1,k.trans h.2]
 | .dJ _ _,h=>#[h.1,k.trans h.2]
 | .out _,h=>#[k.trans h.1,h.2]
open Mo in show ∀{α β:Type}{F f:Nat}{tx:aX},_
let vC.up(hf:f<=F)(h:vC #[some f,tx] d s):vC #[some F,tx] d s :=
 #[by have:=h.ov; simp only[over,decide_eq_false_iff_not,Nat.not_lt]at this ⊢; omega,h.eq,h.cnt,h.sp,h.fm]
let vC.down(hs:s.spent<=f)(h:vC #[some F,tx] d s):vC #[some f,tx] d s :=
 #[by simpa [over]using hs,h.eq,h.cnt,h.sp,h.fm]
let Ay.later{γ:Type}{r1:Rs β}(hs:f<s1.spent)(k:Fr s1 (stOf r1))(h:s2.spent=f+1/\s2.log=s1.log.filter (λr=>decide (r.sp<=f))/\(∀ r∈s1.log,r.sp=f+1->s2.vars=r.vs)/\s2.depth=s.depth/\s2.frame=s.frame):Ay f s r1 (.out s2):=by
 have#[#[new,e,hn],le,_,_]:=k
 refine .inr #[Nat.lt_of_lt_of_le hs le,s2,rfl,h.1,?_,λr hr hsp=>?_,h.2.2.2]
 .have h0:new.filter (λr=>decide (r.sp<=f))=[]:=List.filter_eq_nil_iff.mpr λr hr=>by have:=(hn r hr).1; simp; omega
  rw[e,List.filter_append,h.2.1,h0,adL]
 .rw[e]at hr
  rcases ado.mp hr with hr | hr
  .exact h.2.2.1 r hr hsp
  .have:=(hn r hr).1; omega
let Ay.base{r1 r2:Rs α}(hd:s'.depth=s.depth)(hf:s'.frame=s.frame)(h:Ay f s' r1 r2):Ay f s r1 r2:=by
 rcases h with h | ⟨h1,s2,h2,h3,h4,h5,h6,h7⟩
 .exact .inl h
 .exact .inr #[h1,s2,h2,h3,h4,h5,h6.trans hd,h7.trans hf]
let bB{d0 d1 d2:Nat}{k1 k2:α->Mo β}(hf:f<=F)(h:Cut F f tx d0 d1 m1 m2)(k:∀ a,Cut F f tx d1 d2 (k1 a) (k2 a)):Cut F f tx d0 d2 (bnd m1 k1) (bnd m2 k2):={
 fin s r hi hr:=by
  unfold bnd at hr
  cases hm:m1 s with
  | none=>rw[hm]at hr; cases hr
  | some x =>
   have hx:=h.fin s x hi hm
   rw[hm]at hr
   cases x with
   | ok a s'=>exact((k a).fin s' r hx.1 hr).trans hx.2
   | dJ e s'=>cases hr; exact hx
   | out s'=>cases hr; exact hx
 cut s r1 r2 hi hr1 hr2:=by
  unfold bnd at hr1 hr2
  cases hm:m1 s with
  | none=>rw[hm]at hr1; cases hr1
  | some x1 =>
   cases hn:m2 s with
   | none=>rw[hn]at hr2; cases hr2
   | some x2 =>
    have hx:=h.fin s x1 (hi.up hf) hm
    have hc:=h.cut s x1 x2 hi hm hn
    rw[hm]at hr1
    rw[hn]at hr2
    rcases hc with⟨hs,rfl⟩ | ⟨hs,s2,rfl,hq⟩
    .cases x2 with
     | ok a s'=>exact((k a).cut s' r1 r2 (hx.1.down hs) hr1 hr2).base hx.2.depth hx.2.frame
     | dJ e s'=>cases hr1; cases hr2; exact .inl #[hs,rfl]
     | out s'=>cases hr1; cases hr2; exact .inl #[hs,rfl]
    .cases hr2
     cases x1 with
     | ok a s'=>exact Ay.later (γ:=α) hs ((k a).fin s' r1 hx.1 hr1).fr hq
     | dJ e s'=>cases hr1; exact .inr #[hs,s2,rfl,hq]
     | out s'=>cases hr1; exact .inr #[hs,s2,rfl,hq] }
let oh{d0 d1:Nat}{k1 k2:iw->Mo α}(hf:f<=F)(h:Cut F f tx d0 d1 m1 m2)(k:∀ a,Cut F f tx 1 d1 (k1 a) (k2 a)):Cut F f tx d0 d1 (jG m1 k1) (jG m2 k2):={
 fin s r hi hr:=by
  unfold jG at hr
  cases hm:m1 s with
  | none=>rw[hm]at hr; cases hr
  | some x =>
   have hx:=h.fin s x hi hm
   rw[hm]at hr
   cases x with
   | ok a s'=>cases hr; exact hx
   | dJ e s'=>exact((k e).fin s' r hx.1 hr).trans hx.2
   | out s'=>cases hr; exact hx
 cut s r1 r2 hi hr1 hr2:=by
  unfold jG at hr1 hr2
  cases hm:m1 s with
  | none=>rw[hm]at hr1; cases hr1
  | some x1 =>
   cases hn:m2 s with
   | none=>rw[hn]at hr2; cases hr2
   | some x2 =>
    have hx:=h.fin s x1 (hi.up hf) hm
    have hc:=h.cut s x1 x2 hi hm hn
    rw[hm]at hr1
    rw[hn]at hr2
    rcases hc with⟨hs,rfl⟩ | ⟨hs,s2,rfl,hq⟩
    .cases x2 with
     | ok a s'=>cases hr1; cases hr2; exact .inl #[hs,rfl]
     | dJ e s'=>exact((k e).cut s' r1 r2 (hx.1.down hs) hr1 hr2).base hx.2.depth hx.2.frame
     | out s'=>cases hr1; cases hr2; exact .inl #[hs,rfl]
    .cases hr2
     cases x1 with
     | ok a s'=>cases hr1; exact .inr #[hs,s2,rfl,hq]
     | dJ e s'=>exact Ay.later (γ:=α) hs ((k e).fin s' r1 hx.1 hr1).fr hq
     | out s'=>cases hr1; exact .inr #[hs,s2,rfl,hq] }
let vC.le(h:vC #[some f,tx] d s):s.spent<=f:=by simpa [over]using h.ov
have Still(m:Mo α):Prop:=∀ s r,m s=some r->∃ a v,r = .ok a { s with vars:=v }
let vC.vars(h:vC E d s):vC E d { s with vars:=v }:=#[h.ov,h.eq,h.cnt,h.sp,h.fm]
let cQ{m:Mo α}(h:Still m):Cut F f tx d d m m:={
 fin s r hi hr:=by
  have#[a,v,rfl]:=h s r hr
  exact#[hi.vars,.same rfl rfl rfl rfl]
 cut s r1 r2 hi hr1 hr2:=by
  have#[a,v,rfl]:=h s r1 hr1
  rw[hr1]at hr2
  cases hr2
  exact .inl #[hi.le,rfl] }
let dm(a:α):Still (ret a):=λs r h=>by cases h; exact#[a,s.vars,rfl]
let aaH:Still (vL:Mo α):=λs r h=>nomatch h
let tB(p)[Decidable p]:Still (eE p):=λs r h=>by
 unfold eE at h
 show 2
 .cases h; exact#[(),s.vars,rfl]
 .cases h
let xX(x):Still (readM x):=λs r h=>by
 unfold readM at h
 show 2
 .cases h; exact#[_,s.vars,rfl]
 .cases h
let cX(x y):Still (cP x y):=λs r h=>by
 unfold cP at h
 show 2
 .cases h; exact#[(),_,rfl]
 .cases h
let cO{k:α->Mo β}(h:Still m)(g:∀ a,Still (k a)):Still (bnd m k):=λs r hr=>by
 unfold bnd at hr
 cases hm:m s with
 | none=>rw[hm]at hr; cases hr
 | some x =>
  have#[a,v,rfl]:=h s x hm
  rw[hm]at hr
  have#[b,w,e]:=g a _ r hr
  exact#[b,w,e]
let bR(a:α):Cut F f tx d d (ret a) (ret a):=cQ (dm a)
let aL:Cut F f tx d d' (vL:Mo α) vL:=#[(λ_ _ _ h=>nomatch h),(λ_ _ _ _ h=>nomatch h)]
let bN{d d':Nat}{p:Prop}[Decidable p]{m1 m2:Mo α}(hf:f<=F)(h:p->Cut F f tx d d' m1 m2):Cut F f tx d d' (bnd (eE p) λ_=>m1) (bnd (eE p) λ_=>m2):=by
 by_cases hp:p
 .exact bB hf (cQ (tB p)) λ_=>h hp
 .have e:∀ m:Mo α,(bnd (eE p) λ_=>m)=vL:=λm=>funext λs=>by unfold bnd eE; rw[ad8 hp]; rfl
  rw[e,e]
  exact aL
let lG{m1 m2:β->Mo α}(hf:f<=F)(h:∀ b,o=some b->Cut F f tx d d' (m1 b) (m2 b)):Cut F f tx d d' (bnd (opt o) m1) (bnd (opt o) m2):=by
 cases o with
 | none=>exact(aL:Cut F f tx d d' (vL:Mo α) vL)
 | some b=>exact h b rfl
let iB(e):Cut F f tx 1 d (rai e:Mo α) (rai e):={
 fin s r hi hr:=by cases hr; exact#[hi,.refl s]
 cut s r1 r2 hi hr1 hr2:=by cases hr1; cases hr2; exact .inl #[hi.le,rfl] }
let filter_all{l:List Row}(h:∀ r∈l,r.sp<=f):l.filter (λr=>decide (r.sp<=f))=l:=List.filter_eq_self.mpr λr hr=>aaB (h r hr)
let dO:over (some f) n=true↔f<n:=by simp[over]
let oF{d:Nat}(hf:f<=F):Cut F f tx d (d+1) (dM #[some F,tx]) (dM #[some f,tx]):={
 fin s r hi hr:=by
  have l:=hi.le
  have fr:Fr s { s with spent:=s.spent+1 }:=#[#[[],(adL _).symm,λ_ z=>nomatch z],adp _,rfl,rfl]
  unfold dM at hr
  split at hr
  .rename_i ho
   cases hr
   have ho:=dO.mp ho
   exact#[fr,#[F,rfl,(by omega:s.spent+1=F+1)],hi.cnt]
  .rename_i ho
   cases hr
   have e:=hi.eq
   exact#[#[Bool.eq_false_iff.mpr ho,(by omega:s.spent+1+1=s.log.length+s.rounds.length+Gb s.log+(d+1)),hi.cnt,λr hr=>Nat.le_succ_of_le (hi.sp r hr),hi.fm],fr]
 cut s r1 r2 hi hr1 hr2:=by
  have l:=hi.le
  have key:stOf r1={ s with spent:=s.spent+1 }:=by
   unfold dM at hr1
   split at hr1 <;> (cases hr1; rfl)
  unfold dM at hr1 hr2
  split at hr2
  .rename_i ho
   cases hr2
   refine .inr #[by rw[key]; exact dO.mp ho,_,rfl,(by have:=dO.mp ho; omega:s.spent+1=f+1),?_,?_,rfl,rfl]
   .rw[key]; exact(filter_all λr hr=>aaC (hi.sp r hr) l).symm
   .rw[key]; exact λr hr z=>absurd (hi.sp r hr) ∎
  .rename_i ho
   cases hr2
   have ho:¬f<s.spent+1:=λz=>ho (dO.mpr z)
   split at hr1
   .rename_i h2; exact absurd (dO.mp h2) ∎
   .cases hr1; exact .inl #[(by omega:s.spent+1<=f),rfl] }
let Fx(hf:f<=F)(hd:d=if ws=[[100,101,97,114]]then 0 else 1):Cut F f tx 1 d (mz #[some F,tx] ws) (mz #[some f,tx] ws):={
 fin s r hi hr:=by
  have l:=hi.le
  unfold mz at hr
  split at hr
  .rename_i ho
   cases hr
   have ho:=dO.mp ho
   exact#[#[#[[],(adL _).symm,λ_ z=>nomatch z],adp _,rfl,rfl],#[F,rfl,(by omega:s.spent+1=F+1)],hi.cnt]
  .rename_i ho
   split at hr
   .cases hr
    have e:=hi.eq
    have hdr:qg #[s.spent+1,s.rounds.length,s.depth,s.frame,ws,s.vars]=decide (ws=[[100,101,97,114]]):=rfl
    refine#[#[Bool.eq_false_iff.mpr ho,?_,Ss hi.cnt (by omega:s.spent+1=s.log.length+1+s.rounds.length+Gb s.log),λr hr=>?_,hi.fm],#[#[[_],rfl,λr hr=>?_],adp _,rfl,rfl]]
    .show s.spent+1+1=(s.log++[_]).length+s.rounds.length+Gb (s.log++[_])+d
     rw[Hu,hdr,aaG,hd]
     by_cases hw:ws=[[100,101,97,114]] <;> simp only[hw,decide_true,decide_false,if_true,if_false,List.length_singleton,adC] <;> omega
    .rcases ado.mp hr with hr | hr
     .exact Nat.le_succ_of_le (hi.sp r hr)
     .rw[adk.mp hr]; exact abW _
    .rw[adk.mp hr]; exact#[ad6 _,abW _]
   .cases hr
 cut s r1 r2 hi hr1 hr2:=by
  have l:=hi.le
  have key:stOf r1={ s with spent:=s.spent+1 }∨stOf r1=gA ws { s with spent:=s.spent+1 }:=by
   unfold mz at hr1
   split at hr1
   .cases hr1; exact .inl rfl
   .split at hr1 <;> cases hr1; exact .inr rfl
  unfold mz at hr1 hr2
  split at hr2
  .rename_i ho
   cases hr2
   have ho:=dO.mp ho
   refine .inr #[by rcases key with k | k <;> (rw[k]; exact ho),_,rfl,(by omega:s.spent+1=f+1),?_,?_,rfl,rfl]
   .rcases key with k | k <;> rw[k]
    .exact(filter_all λr hr=>aaC (hi.sp r hr) l).symm
    .show s.log=(s.log++[_]).filter _
     rw[List.filter_append,filter_all λr hr=>aaC (hi.sp r hr) l,List.filter_eq_nil_iff.mpr (λr hr=>by rw[adk.mp hr]; simpa using ho),adL]
   .rcases key with k | k <;> rw[k]
    .exact λr hr z=>absurd (hi.sp r hr) ∎
    .intro r hr z
     rcases ado.mp hr with hr | hr
     .exact absurd (hi.sp r hr) ∎
     .rw[adk.mp hr]
  .rename_i ho
   have ho:¬f<s.spent+1:=λz=>ho (dO.mpr z)
   split at hr1
   .rename_i h2; exact absurd (dO.mp h2) ∎
   .split at hr1
    .rename_i hro
     rw[ad9 hro]at hr2
     cases hr1; cases hr2
     exact .inl #[(by omega:s.spent+1<=f),rfl]
    .cases hr1 }
have mapR(p:cj->cj):Rs α->Rs α
 | .ok a s=>.ok a (p s)
 | .dJ e s=>.dJ e (p s)
 | .out s=>.out (p s)
let rC(p:cj->cj):∀ r:Rs α,stOf (mapR p r)=p (stOf r)
 | .ok _ _=>rfl
 | .dJ _ _=>rfl
 | .out _=>rfl
have back(s t:cj):cj:={ t with depth:=s.depth,frame:=s.frame }
let vC.back(hs:s.frame.isSome=true)(h:vC E d t):vC E d (back s t):=#[h.ov,h.eq,h.cnt,h.sp,hs]
let s8.back{s s':cj}(hs:s.frame.isSome=true)(e1:s'.log=s.log)(e2:s'.spent=s.spent):∀{r:Rs α},s8 E d s' r->s8 E d s (mapR (Mine.back s) r)
 | .ok _ _,h=>#[h.1.back hs,#[by rw[← e1,← e2]; exact h.2.log,e2▸h.2.le,rfl,rfl]]
 | .dJ _ _,h=>#[h.1.back hs,#[by rw[← e1,← e2]; exact h.2.log,e2▸h.2.le,rfl,rfl]]
 | .out _,h=>#[#[by rw[← e1,← e2]; exact h.1.log,e2▸h.1.le,rfl,rfl],h.2]
let Hp{m1 m2 n1 n2:Mo α}{A:cj->Nat}{B:cj->Option LN}{p:cj->cj->cj}(hf:f<=F)(h:Cut F f tx d d1 m1 m2)(hB:∀ s,s.frame.isSome=true->(B s).isSome=true)(hp:∀ s t,s.frame.isSome=true->t.depth=A s->t.frame=B s->p s t=back s t)(w1:∀ s r,n1 s=some r->∃ q,m1 { s with depth:=A s,frame:=B s }=some q/\r=mapR (p s) q)(w2:∀ s r,n2 s=some r->∃ q,m2 { s with depth:=A s,frame:=B s }=some q/\r=mapR (p s) q):Cut F f tx d d1 n1 n2:=by
 have inv:∀{E s},vC E d s->vC E d { s with depth:=A s,frame:=B s }:=λhi=>#[hi.ov,hi.eq,hi.cnt,hi.sp,hB _ hi.fm]
 have eqp:∀{s:cj} {q:Rs α},s.frame.isSome=true->(stOf q).depth=A s->(stOf q).frame=B s->mapR (p s) q=mapR (back s) q:=λ{s q} hs h1 h2=>by
  cases q <;> exact congrArg _ (hp s _ hs h1 h2)
 have fin:∀ s r,vC #[some F,tx] d s->n1 s=some r->∃ q,m1 { s with depth:=A s,frame:=B s }=some q/\r=mapR (back s) q/\s8 #[some F,tx] d1 { s with depth:=A s,frame:=B s } q:=λs r hi hr=>by
  have#[q,h1,rfl]:=w1 s r hr
  have hq:=h.fin _ q (inv hi) h1
  exact#[q,h1,eqp hi.fm hq.fr.depth hq.fr.frame,hq]
 refine#[λs r hi hr=>?_,λs r1 r2 hi hr1 hr2=>?_]
 .have#[q,_,rfl,hq]:=fin s r hi hr
  exact s8.back (s':={ s with depth:=A s,frame:=B s }) hi.fm rfl rfl hq
 .have#[q,h1,rfl,hq]:=fin s r1 (hi.up hf) hr1
  have#[q2,h2,rfl]:=w2 s r2 hr2
  rcases h.cut _ q q2 (inv hi) h1 h2 with⟨k1,rfl⟩ | ⟨k1,s2,rfl,k2,k3,k4,k5,k6⟩
  .exact .inl #[by rw[rC]; exact k1,eqp hi.fm hq.fr.depth hq.fr.frame]
  .rw[eqp (q:=.out s2) hi.fm k5 k6]
   exact .inr #[by rw[rC]; exact k1,_,rfl,k2,by rw[rC]; exact k3,by rw[rC]; exact k4,rfl,rfl]
let Pj{r:Rs α}(h:zE m s=some r):∃ q,m s=some q/\r=mapR (λt=>{ t with depth:=t.depth-1 }) q:=by
 unfold zE at h
 cases hm:m s with
 | none=>rw[hm]at h; cases h
 | some q =>
  rw[hm]at h
  refine#[q,rfl,?_]
  cases q <;> (dsimp only at h; show 2 <;> cases h; rfl)
let Qi{r:Rs α}(h:H3 m p s=some r):∃ q,m s=some q/\r=mapR p q:=by
 unfold H3 at h
 cases hm:m s with
 | none=>rw[hm]at h; cases h
 | some q =>
  rw[hm]at h
  refine#[q,rfl,?_]
  cases q <;> (cases h; rfl)
let Wu{d d1:Nat}{m1 m2:Mo α}{g:cj->Prop}[DecidablePred g](hf:f<=F)(h:Cut F f tx d d1 m1 m2) :
  Cut F f tx d d1 (bnd (λs=>if g s then some (.ok () { s with depth:=s.depth+1 })else none) λ_=>zE m1) (bnd (λs=>if g s then some (.ok () { s with depth:=s.depth+1 })else none) λ_=>zE m2):=by
 have w:∀{m:Mo α} s r,bnd (λs=>if g s then some (.ok () { s with depth:=s.depth+1 })else none) (λ_=>zE m) s=some r->∃ q,m { s with depth:=s.depth+1,frame:=s.frame }=some q/\r=mapR (λt=>{ t with depth:=t.depth-1 }) q:=λ{m} s r hr=>by
  unfold bnd at hr
  by_cases hg:g s
  .simp only[ad9 hg]at hr
   exact Pj hr
  .simp only[ad8 hg]at hr; cases hr
 refine Hp hf h (λ_ z=>z) (λs t _ h1 h2=>?_) w w
 unfold back
 rw[h1,← h2]; rfl
let WQ{m1 m2:Mo α}(hd:d=if t.take 1=[32]then 2 else 1)(h:Cut F f tx 1 d1 m1 m2) :
  Cut F f tx d d1 (λs=>m1 (if t.take 1=[32]then{ s with rounds:=s.rounds++[t] }else s)) (λs=>m2 (if t.take 1=[32]then{ s with rounds:=s.rounds++[t] }else s)):=by
 by_cases ht:t.take 1=[32]
 .simp only[ht,if_true]at hd ⊢
  have inv:∀{E s},vC E d s->vC E 1 { s with rounds:=s.rounds++[t] }:=λ{E s} hi=>#[hi.ov,(by have:=hi.eq; rw[aaG,List.length_singleton]; omega:s.spent+1=s.log.length+(s.rounds++[t]).length+Gb s.log+1),hi.cnt,hi.sp,hi.fm]
  exact#[λs r hi hr=>s8.trans (s':={ s with rounds:=s.rounds++[t] }) (Fr.same (s:=s) (s':={ s with rounds:=s.rounds++[t] }) rfl rfl rfl rfl) (h.fin _ r (inv hi) hr),λs r1 r2 hi h1 h2=>Ay.base (s':={ s with rounds:=s.rounds++[t] }) rfl rfl (h.cut _ r1 r2 (inv hi) h1 h2)]
 .simp only[ht,if_false]at hd ⊢
  subst hd
  exact h
open Mo in show ∀{α β γ:Type}{F f:Nat}{tx:aX}{run1 run2:bY},_
have sZ(F f:Nat)(tx:aX)(run1 run2:bY):Prop:=∀ t,Cut F f tx (if t.take 1=[32]then 2 else 1) 1 (run1 t) (run2 t)
let sZ.plain(h:sZ F f tx run1 run2)(n:¬mq t):Cut F f tx 1 1 (run1 t) (run2 t):=by
 have:=h t
 rwa [ad8 (show ¬(t.take 1=[32])from n)]at this
let sZ.body(h:sZ F f tx run1 run2)(n:mq t):Cut F f tx 2 1 (run1 t) (run2 t):=by
 have:=h t
 rwa [ad9 (show t.take 1=[32]from n)]at this
let dD(m)(k:α->Mo β)(g:β->Mo γ):bnd (bnd m k) g=bnd m λa=>bnd (k a) g:=funext λs=>by
 unfold bnd
 cases m s with
 | none=>rfl
 | some r=>cases r <;> rfl
open Mo in show ∀{α β γ:Type}{F f:Nat}{tx:aX}{run1 run2:bY}(hf:f<=F)(hr:sZ F f tx run1 run2),hf hr
let oM:∀(ps:List Part) (acc:aX),Cut F f tx 1 1 (nU run1 ps acc) (nU run2 ps acc)
 | [],acc=>bR acc
 | .text l::ps,acc=>oM ps (acc++[l])
 | .cmd s::ps,acc=>bN hf λn=>bB hf (hr.plain n) λv=>oM ps (acc++[v])
 | .var x::ps,acc=>bB hf (cQ (xX x)) λv=>oM ps (acc++[v])
let HS(ps):Cut F f tx 1 1 (nY run1 ps) (nY run2 ps) :=
 bN hf λ_=>bB hf (oM hf hr ps []) λacc=>bN hf λ_=>bR _
let Ab:∀(ws:List (List Part)) (acc:aX),Cut F f tx 1 1 (kJ run1 ws acc) (kJ run2 ws acc)
 | [],acc=>bR acc
 | w::ws,acc=>bB hf (HS hf hr w) λv=>Ab ws (acc++[v])
let Pk(ws:List (List Part)):Cut F f tx 1 1 (gw run1 ws) (gw run2 ws):=bN hf λ_=>Ab hf hr ws []
open Mo in show ∀{α β γ:Type}{F f:Nat}{tx:aX}{run1 run2:bY},_
let Jw(r):Still (eZ r):=by
 unfold eZ
 split
 .exact cO (cX _ _) λ_=>cX _ _
 .exact dm ()
open Mo in show ∀{α β γ:Type}{F f:Nat}{tx:aX}{run1 run2:bY}(hf:f<=F)(hr:sZ F f tx run1 run2),hf hr
let tW(s:LN):Cut F f tx 1 1 (tried run1 s) (tried run2 s) :=
 bN hf λn=>oh hf (bB hf (hr.plain n) λv=>bR _) λr=>bN hf λ_=>cQ (cO (Jw r) λ_=>dm _)
let Oc:∀ ws,Cut F f tx 1 1 (Dn run1 ws) (Dn run2 ws)
 | []=>aL
 | [_]=>aL
 | [_,s]=>bB hf (tW hf hr s) λp=>bR _
 | [_,s,x]=>bB hf (tW hf hr s) λp=>cQ (cO (cX _ _) λ_=>dm _)
 | [_,s,x,y]=>bB hf (tW hf hr s) λp=>cQ (cO (cX _ _) λ_=>cO (tB _) λ_=>cO (cX _ _) λ_=>dm _)
 | _::_::_::_::_::_=>aL
let G8{b:LN}(n:mq b):Cut F f tx 2 1 (yH run1 b) (yH run2 b) :=
 oh hf (bB hf (hr.body n) λv=>bR _) λr=>by
  split
  .exact bR _
  .exact iB r
open Mo in show ∀{α β γ:Type}{F f:Nat}{tx:aX}{run1 run2:bY},_
let uH(values:aX):∀(names:aX) (k:Nat),Still (iG values names k)
 | [],_=>dm ()
 | x::names,k=>cO (cX _ _) λ_=>uH values names (k+1)
open Mo in show ∀{α β γ:Type}{F f:Nat}{tx:aX}{run1 run2:bY}(hf:f<=F)(hr:sZ F f tx run1 run2),hf hr
let Cj{names values:aX}(n:mq body):∀(k turn:Nat) (kept:aX),Cut F f tx 1 1 (lR #[some F,tx] run1 names values body rounds k turn kept) (lR #[some f,tx] run2 names values body rounds k turn kept)
 | 0,_,_=>aL
 | k+1,turn,kept=>by
  unfold lR
  split
  .exact bR kept
  .refine bB hf (oF hf) λ_=>bB hf (cQ (uH values names _)) λ_=>bB hf (G8 hf hr n) λp=>?_
   split
   .exact bR kept
   .exact Cj n k _ _
let HF(lm):∀ ws,Cut F f tx 1 1 (Cq #[some F,tx] run1 lm ws) (Cq #[some f,tx] run2 lm ws)
 | []=>aL
 | [_]=>aL
 | [_,_]=>aL
 | [_,_,_]=>aL
 | [_,ns,vs,body]=>bN hf λh=>lG hf λnames _=>lG hf λvalues _=>bN hf λ_=>bB hf (Cj hf hr h.2.2 _ _ _) λkept=>by
  cases lm
  .exact bR _
  .exact bN hf λ_=>bR _
 | _::_::_::_::_::_=>aL
open Mo in show ∀{α β γ:Type}{F f:Nat}{tx:aX}{run1 run2:bY},_
let JZ(x):Still (testM x):=cO (xX x) λv=>by
 split
 .exact dm _
 .exact cO (cX _ _) λ_=>dm _
open Mo in show ∀{α β γ:Type}{F f:Nat}{tx:aX}{run1 run2:bY}(hf:f<=F)(hr:sZ F f tx run1 run2),hf hr
let zV(n:mq body):∀(k code:Nat),Cut F f tx 1 1 (kE #[some F,tx] run1 x body k code) (kE #[some f,tx] run2 x body k code)
 | 0,_=>aL
 | k+1,code=>by
  unfold kE
  split
  .exact bR _
  .refine bB hf (cQ (JZ x)) λb=>?_
   cases b
   .exact bR _
   .exact bB hf (oF hf) λ_=>bB hf (G8 hf hr n) λp=>zV n k _
let Pz:∀ ws,Cut F f tx 1 1 (Dk #[some F,tx] run1 ws) (Dk #[some f,tx] run2 ws)
 | []=>aL
 | [_]=>aL
 | [_,_]=>aL
 | [_,x,body]=>bN hf λn=>bB hf (zV hf hr n _ _) λ_=>bR _
 | _::_::_::_::_=>aL
let Qw(p):Cut F f tx 1 1 (mQ run1 p) (mQ run2 p) :=
 oh hf (bB hf (HS hf hr [p]) λv=>bR _) λr=>by
  repeat' split
  .exact iB r
  all_goals exact bR _
open Mo in show ∀{α β γ:Type}{F f:Nat}{tx:aX}{run1 run2:bY},_
let still_join(acc:aX):Still (joinM acc):=cO (tB _) λ_=>dm _
open Mo in show ∀{α β γ:Type}{F f:Nat}{tx:aX}{run1 run2:bY}(hf:f<=F)(hr:sZ F f tx run1 run2),hf hr
let qb:∀(k:Nat) (t:LN) (acc:aX),Cut F f tx 1 1 (dz run1 k t acc) (dz run2 k t acc)
 | 0,_,_=>aL
 | k+1,[],acc=>cQ (still_join acc)
 | k+1,c::r,acc=>by
  unfold dz
  have go:∀(p:Part) (z:LN),Cut F f tx 1 1 (bnd (mQ run1 p) λgot=>(match got with | none=>joinM acc | some v=>dz run1 k z (acc++[v]))) (bnd (mQ run2 p) λgot=>(match got with | none=>joinM acc | some v=>dz run2 k z (acc++[v]))):=λp z=>bB hf (Qw hf hr p) λgot=>by
   cases got with
   | none=>exact cQ (still_join acc)
   | some v=>exact qb k z _
  split
  .exact aL
  .split
   .exact lG hf λp _=>go _ _
   .split
    .exact lG hf λp _=>go _ _
    .exact qb k r _
let P0:∀ ws,Cut F f tx 1 1 (EY run1 ws) (EY run2 ws)
 | []=>aL
 | [_]=>aL
 | [_,t]=>bN hf λ_=>qb hf hr _ _ _
 | _::_::_::_=>aL
open Mo in show ∀{α β γ:Type}{F f:Nat}{tx:aX}{run1 run2:bY},_
let Dv(m:Mo α):H3 m (sE none)=m:=funext λs=>by
 unfold H3
 cases m s with
 | none=>rfl
 | some r=>cases r <;> rfl
open Mo in show ∀{α β γ:Type}{F f:Nat}{tx:aX}{run1 run2:bY}(hf:f<=F)(hr:sZ F f tx run1 run2),hf hr
let Hh(sc lb:LN):Cut F f tx 1 1 (bk run1 (.nest sc none false lb)) (bk run2 (.nest sc none false lb)):=by
 refine bN hf λn=>?_
 rw[Dv,Dv]
 exact oh hf (hr.plain n) λr=>iB r
let TJ:∀ ws,Cut F f tx 1 1 (bnd (Cw #[some F,tx] ws) (bk run1)) (bnd (Cw #[some f,tx] ws) (bk run2))
 | []=>aL
 | [_]=>aL
 | [_,i]=>by
  unfold Cw
  simp only[dD]
  refine bN hf λ_=>lG hf λt _=>?_
  by_cases n:mq t
  .have e:∀ run:bY,(bnd (λs=>some (Rs.ok (Got.nest t s.frame true [112]) { s with frame:=some (102::i) })) (bk run))=vL:=λrun=>funext λs=>by
    unfold bnd bk eE
    simp only[n,not_true,if_false]
    rfl
   rw[e,e]
   exact aL
  .have w:∀{run:bY} s r,(bnd (λs=>some (Rs.ok (Got.nest t s.frame true [112]) { s with frame:=some (102::i) })) (bk run)) s=some r->∃ q,(jG (run t) (jW [112])) { s with depth:=s.depth,frame:=some (102::i) }=some q/\r=mapR (sE s.frame) q:=λ{run} s r hr=>by
    unfold bnd bk eE at hr
    simp only[n,not_false_iff,if_true]at hr
    exact Qi hr
   refine Hp hf (oh hf (hr.plain n) λr=>bN hf λ_=>?_) (λ_ _=>rfl) (λs t hs h1 h2=>?_) w w
   .split
    .exact bR _
    .exact iB _
   .have#[x,hx]:=Option.isSome_iff_exists.mp hs
    rw[hx]
    show{ t with frame:=some x }=back s t
    unfold back
    rw[hx,← h1]
 | _::_::_::_=>aL
open Mo in show ∀{α β γ:Type}{F f:Nat}{tx:aX}{run1 run2:bY},_
let jV(m:Mo LN)(run):bnd (je m) (bk run)=m:=by
 unfold je
 rw[dD]
 exact funext λs=>by
  unfold bnd
  cases m s with
  | none=>rfl
  | some r=>cases r <;> rfl
open Mo in show ∀{α β γ:Type}{F f:Nat}{tx:aX}{run1 run2:bY}(hf:f<=F)(hr:sZ F f tx run1 run2),hf hr
let Tu:∀ ws,Cut F f tx 1 1 (bnd (Cv ws) (bk run1)) (bnd (Cv ws) (bk run2))
 | []=>aL
 | [_]=>aL
 | [_,s]=>Hh hf hr s []
 | [_,a,b]=>by
  unfold Cv
  rw[dD,dD]
  exact bN hf λ_=>Hh hf hr _ []
 | _::_::_::_::_=>aL
let Ql(kd)(h:kd = .dear∨((c::ws)≠[[100,101,97,114]]))(h2:kd = .dear->c=[100,101,97,114]):Cut F f tx 1 1 (bnd (mz #[some F,tx] (c::ws)) λ_=>bnd (lz #[some F,tx] run1 (c::ws) kd) (bk run1)) (bnd (mz #[some f,tx] (c::ws)) λ_=>bnd (lz #[some f,tx] run2 (c::ws) kd) (bk run2)):=by
 have go:(c::ws)≠[[100,101,97,114]]->Cut F f tx 1 1 (bnd (lz #[some F,tx] run1 (c::ws) kd) (bk run1)) (bnd (lz #[some f,tx] run2 (c::ws) kd) (bk run2))->Cut F f tx 1 1 (bnd (mz #[some F,tx] (c::ws)) λ_=>bnd (lz #[some F,tx] run1 (c::ws) kd) (bk run1)) (bnd (mz #[some f,tx] (c::ws)) λ_=>bnd (lz #[some f,tx] run2 (c::ws) kd) (bk run2)):=λn k=>bB hf (Fx hf (by rw[ad8 n])) λ_=>k
 have str:∀{m1 m2:Mo LN} (k:Cut F f tx 1 1 m1 m2),Cut F f tx 1 1 (bnd (je m1) (bk run1)) (bnd (je m2) (bk run2)):=λ{m1 m2} k=>by
  rw[jV,jV]; exact k
 by_cases hd:kd = .dear
 .subst hd
  cases h2 rfl
  cases ws with
  | nil =>
   refine bB hf (Fx hf (by rw[ad9 rfl])) λ_=>?_
   unfold lz
   rw[jV,jV]
   exact bN hf λ_=>bB hf (oF hf) λ_=>bR _
  | cons a r=>exact go (by intro z; cases z) (str (bN hf λz=>by cases z))
 .have n:=h.resolve_left hd
  exists go n
  cases kd with
  | «catch» => exact str (Oc hf hr _)
  | «foreach» => exact str (HF hf hr false _)
  | lmap=>exact str (HF hf hr true _)
  | whl=>exact str (Pz hf hr _)
  | eval=>exact Tu hf hr _
  | subst=>exact str (P0 hf hr _)
  | brk =>
   exists str
   cases ws with
   | nil=>exact iB _
   | cons a r=>exact aL
  | cnt =>
   exists str
   cases ws with
   | nil=>exact iB _
   | cons a r=>exact aL
  | put =>
   exists str
   unfold Zv
   split
   .exact cQ (cO (cX _ _) λ_=>dm _)
   .exact aL
  | say=>exact str (bN hf λ_=>bR _)
  | dear=>exact absurd rfl hd
  | bad =>
   exists str
   unfold YB
   split
   .exact lG hf λp _=>iB _
   .exact aL
  | proc=>exact TJ hf hr _
open Mo in show ∀{α β γ:Type}{F f:Nat}{tx:aX}{run1 run2:bY},_
let GF:∀{l:List (LN×Kd)} {c:LN},(∀ p∈l,p.2 = .dear->p.1=[100,101,97,114])->pU c l=some .dear->c=[100,101,97,114]
 | [],c,_,h=>nomatch h
 | (y,k)::r,c,hl,h=>by
  unfold pU at h
  show 2
  .rename_i e
   injection h with h
   rw[e]; exact hl _ (.head _) h
  .exact GF (λp hp=>hl p (.tail _ hp)) h
open Mo in show ∀{α β γ:Type}{F f:Nat}{tx:aX}{run1 run2:bY}(hf:f<=F)(hr:sZ F f tx run1 run2),hf hr
let S5:∀ ws,Cut F f tx 1 1 (b7 #[some F,tx] run1 ws) (b7 #[some f,tx] run2 ws)
 | []=>aL
 | c::ws=>by
  have hb:∀ E run,yw E run (c::ws)=match pU c cW with
   | none=>bnd (eE (c.length<=1000)) λ_=>rai (dJ 1 ([105,110,118,97,108,105,100,32,99,111,109,109,97,110,100,32,110,97,109,101,32,34]++c++[34]) [[84,67,76],[76,79,79,75,85,80],[67,79,77,77,65,78,68],c] 0 0)
   | some kd=>bnd (mz E (c::ws)) λ_=>lz E run (c::ws) kd:=λ_ _=>rfl
  unfold b7
  rw[hb,hb]
  cases e:pU c cW with
  | none =>
   show 1
   rw[dD,dD]
   exact bN hf λ_=>iB _
  | some kd =>
   show 1
   rw[dD,dD]
   have hd:kd = .dear->c=[100,101,97,114]:=λz=>by
    subst z
    refine GF ?_ e
    intro p hp hk
    simp only[cW,acR,acX,or_false]at hp
    rcases hp with rfl | rfl | rfl | rfl | rfl | rfl | rfl | rfl | rfl | rfl | rfl | rfl | rfl <;> first | rfl | cases hk
   refine Ql hf hr kd ?_ hd
   by_cases z:kd = .dear
   .exact .inl z
   .refine .inr λq=>z ?_
    cases q
    cases e
    rfl
let RN(text)(q):Cut F f tx 1 1 (uW #[some F,tx] run1 text q) (uW #[some f,tx] run2 text q) :=
 oh hf (bB hf (Pk hf hr q.ws) λws=>S5 hf hr ws) λr=>bN hf λ_=>iB _
let uC(text):∀(k:Nat) (r res:LN),Cut F f tx 1 1 (ik #[some F,tx] run1 text k r res) (ik #[some f,tx] run2 text k r res)
 | 0,_,_=>aL
 | k+1,r,res=>lG hf λo _=>by
  cases o with
  | none=>exact bR res
  | some q=>exact bB hf (RN hf hr text q) λv=>uC text k q.z v
let Kz(text):Cut F f tx (if text.take 1=[32]then 2 else 1) 1 (d8 #[some F,tx] run1 text) (d8 #[some f,tx] run2 text) :=
 WQ rfl (bN hf λ_=>uC hf hr text _ _ _)
open Mo in show ∀{α β γ:Type}{F f:Nat}{tx:aX}{run1 run2:bY},_
let Hb(hf:f<=F):∀ g,sZ F f tx (runM #[some F,tx] g) (runM #[some f,tx] g)
 | 0,t=>aL
 | g+1,t=>Wu hf (Kz hf (Hb hf g) t)
open Mo in show ∀{x:LN},_
let tU:∀{r:LN},cG r≠[]->cG (r++x)=cG r++x
 | [],h=>absurd rfl h
 | c::r,h=>by
  rw[adJ]
  unfold cG at h ⊢
  split
  .rename_i q; rw[ad9 q]at h; exact tU h
  .rfl
let rA:∀{r:LN},bL r≠[]->bL (r++x)=bL r++x
 | [],h=>absurd rfl h
 | c::r,h=>by
  rw[adJ]
  unfold bL at h ⊢
  split
  .rfl
  .rename_i q; rw[ad8 q]at h; exact rA h
let uY:∀ n,aA n []=[]
 | 0=>rfl
 | n+1=>rfl
let gK:∀{n:Nat} {r:LN},aA n r≠[]->aA n (r++x)=aA n r++x
 | 0,r,h=>rfl
 | n+1,r,h=>by
  unfold aA at h ⊢
  cases e:cG r with
  | nil=>rw[e]at h; exact absurd rfl h
  | cons c r' =>
   rw[tU (by rw[e]; exact List.cons_ne_nil _ _),e]
   rw[e]at h
   dsimp only[List.cons_append]at h ⊢
   split
   .rename_i q
    rw[ad9 q]at h
    rw[rA (λz=>h (by rw[z]; exact uY n))]
    exact gK h
   .rename_i q
    rw[ad8 q]at h
    split
    .rename_i q2; rw[ad9 q2]at h; exact gK h
    .rfl
let BP:∀{r:LN},fY r≠[]->fY (r++x)=fY r++x
 | [],h=>absurd rfl h
 | c::r,h=>by
  rw[adJ]
  unfold fY at h ⊢
  split
  .rename_i q; rw[ad9 q]at h; exact BP h
  .rfl
let Iv(r r':LN):(r++x).take ((r++x).length-(r'++x).length)=r.take (r.length-r'.length):=by
 rw[aaG,aaG,Nat.add_sub_add_right,List.take_append_of_le_length (Nat.sub_le _ _)]
let Cg(r r':LN):(r++x).take ((r++x).length-((r'++x).length+1))=r.take (r.length-(r'.length+1)):=by
 rw[aaG,aaG,Nat.add_right_comm,Nat.add_sub_add_right,List.take_append_of_le_length (Nat.sub_le _ _)]
let RB(h:nG r=some (nm,r'))(n:r'≠[]):nG (r++x)=some (nm,r'++x):=by
 unfold nG at h
 show 2
 .cases h
 .rename_i c1
  show 2
  .cases h
  .rename_i c2
   cases h
   unfold nG
   rw[BP n,ad8 (by rw[aaG,aaG]; omega),ad8 (by
    cases e:fY r with
    | nil=>exact absurd e n
    | cons a b=>rw[e]at c2; exact c2),Iv]
let jl:∀{r:LN} {d:Nat} {r':LN},bV d r=some r'->bV d (r++x)=some (r'++x)
 | [],d,r',h=>by cases h
 | c::r,d,r',h=>by
  rw[adJ]
  unfold bV at h ⊢
  split
  .rename_i q; rw[ad9 q]at h; exact jl h
  .rename_i q
   rw[ad8 q]at h
   split
   .rename_i q2
    rw[ad9 q2]at h
    split
    .rename_i q3; rw[ad9 q3]at h; cases h; rfl
    .rename_i q3; rw[ad8 q3]at h; exact jl h
   .rename_i q2; rw[ad8 q2]at h; exact jl h
let zX:∀{r:LN},plainT nst r≠[]->plainT nst (r++x)=plainT nst r++x
 | [],h=>absurd rfl h
 | c::r,h=>by
  rw[adJ]
  unfold plainT at h ⊢
  split
  .rfl
  .rename_i q; rw[ad8 q]at h; exact zX h
have Yo(br:Br):Prop:=∀ x r s r',br r=some (s,r')->br (r++x)=some (s,r'++x)
open Mo in show ∀{x:LN}{br:Br}(hb:Yo br),hb
let kI:∀{k:Nat} {r run:LN} {acc ps:List Part} {r':LN},cU br nst k r run acc=some (ps,r')->r'≠[]->cU br nst k (r++x) run acc=some (ps,r'++x)
 | 0,_,_,_,_,_,h,_=>by cases h
 | k+1,[],run,acc,ps,r',h,n=>by cases h; exact absurd rfl n
 | k+1,c::r,run,acc,ps,r',h,n=>by
  rw[adJ]
  unfold cU at h ⊢
  dsimp only at h ⊢
  have nil:∀{run acc},cU br nst k [] run acc=some (ps,r')->False:=λ{run acc} z=>by
   cases k with
   | zero=>cases z
   | succ k=>cases z; exact n rfl
  split
  .rename_i q; rw[ad9 q]at h; cases h; rfl
  .rename_i q
   rw[ad8 q]at h
   split
   .rename_i q2
    rw[ad9 q2]at h
    cases e:nG r with
    | none=>rw[e]at h; cases h
    | some p =>
     have#[nm,r2]:=p
     rw[e]at h
     rw[RB e (λz=>by rw[z]at h; exact nil h)]
     exact kI h n
   .rename_i q2
    rw[ad8 q2]at h
    split
    .rename_i q3
     rw[ad9 q3]at h
     cases e:br r with
     | none=>rw[e]at h; cases h
     | some p =>
      have#[s,r2]:=p
      rw[e]at h
      rw[hb x r s r2 e]
      exact kI h n
    .rename_i q3
     rw[ad8 q3]at h
     rw[zX (λz=>by rw[z]at h; exact nil h),Iv]
     exact kI h n
let NT(h:o9 br nst k r=some (ps,r'))(n:r'≠[]):o9 br nst k (r++x)=some (ps,r'++x):=by
 unfold o9 at h ⊢
 show 2
 .cases h
 rename_i c1
 cases r with
 | nil=>cases h
 | cons c r =>
 have c1':(c::r++x).take 3≠[123,42,125]:=λz=>by
  rcases r with _ | ⟨c2,_ | ⟨c3,r⟩⟩
  .injection z with z1 z2; subst z1
   exact nomatch (show(none:Option (List Part×LN))=some (ps,r')from h)
  .injection z with z1 z2; subst z1
   injection z2 with z2 z3; subst z2
   exact nomatch (show(none:Option (List Part×LN))=some (ps,r')from h)
  .exact c1 z
 rw[ad8 c1']
 dsimp only[List.cons_append]at h ⊢
 split
 .rename_i q
  rw[ad9 q]at h
  cases e:bV 1 r with
  | none=>rw[e]at h; cases h
  | some r2 =>
   rw[e]at h
   cases h
   rw[jl e]
   show 1
   rw[Cg]
 .rename_i q
  rw[ad8 q]at h
  split
  .rename_i q2; rw[ad9 q2]at h; cases h
  .rename_i q2; rw[ad8 q2]at h
   exact kI hb h n
have Ko.app(q:Ko)(x:LN):Ko:=#[q.ws,q.b++x,q.e++x,q.z++x]
let xR:∀{k:Nat} {r:LN} {acc:List (List Part)} {q:Ko},dN br nst b k r acc=some q->cG q.e≠[]->dN br nst (b++x) k (r++x) acc=some (q.app x)
 | 0,_,_,_,h,_=>by cases h
 | k+1,r,acc,q,h,n=>by
  unfold dN at h ⊢
  cases e:o9 br nst 100001 r with
  | none=>rw[e]at h; cases h
  | some p =>
   have#[ps,e']:=p
   rw[e]at h
   dsimp only at h
   cases e2:cG e' with
   | nil=>rw[e2]at h; cases h; exact absurd e2 n
   | cons c p =>
    rw[e2]at h
    dsimp only at h
    have n':e'≠[]:=λz=>by rw[z]at e2; cases e2
    rw[NT hb e n']
    show 1
    rw[tU (by rw[e2]; exact List.cons_ne_nil _ _),e2]
    dsimp only[List.cons_append]
    split
    .rename_i q1; rw[ad9 q1]at h; cases h; rfl
    .rename_i q1
     rw[ad8 q1]at h
     split
     .rename_i q2; rw[ad9 q2]at h; cases h; rfl
     .rename_i q2
      rw[ad8 q2]at h
      show 2
      .cases h
      .rename_i q3
       rw[ad8 (by rw[aaG,aaG]; omega)]
       exact xR h n
let rB(h:aJ br nst r=some (some q))(n:cG q.e≠[]):aJ br nst (r++x)=some (some (q.app x)):=by
 unfold aJ at h ⊢
 cases e:aA 100001 r with
 | nil=>rw[e]at h; cases h
 | cons c r' =>
  rw[e]at h
  rw[gK (by rw[e]; exact List.cons_ne_nil _ _),e]
  dsimp only[List.cons_append]at h ⊢
  split
  .rename_i q1; rw[ad9 q1]at h; cases h
  .rename_i q1
   rw[ad8 q1]at h
   cases e2:dN br nst (c::r') 100001 (c::r') []with
   | none=>rw[e2]at h; cases h
   | some q' =>
    rw[e2]at h
    cases h
    have:=xR (x:=x) hb e2 n
    rw[adJ]at this
    rw[this]
    rfl
let vA:∀{k:Nat} {r:LN} {acc:List (List Part)} {q:Ko},dN br nst b k r acc=some q->q.z≠[]->cG q.e≠[]
 | 0,_,_,_,h,_=>by cases h
 | k+1,r,acc,q,h,n=>by
  unfold dN at h
  show 2
  .cases h
  .show 2
   .cases h; exact absurd rfl n
   .rename_i e2
    show 2
    .cases h; rw[e2]; exact List.cons_ne_nil _ _
    .show 2
     .cases h; rw[e2]; exact List.cons_ne_nil _ _
     .show 2
      .cases h
      .exact vA h n
let Je:∀{k:Nat} {r s r':LN},vZ br r0 k r=some (s,r')->vZ br (r0++x) k (r++x)=some (s,r'++x)
 | 0,_,_,_,h=>by cases h
 | k+1,[],_,_,h=>by cases h
 | k+1,c::r,s,r',h=>by
  rw[adJ]
  unfold vZ at h ⊢
  dsimp only at h ⊢
  split
  .rename_i q
   rw[ad9 q]at h
   cases h
   rw[Cg]
  .rename_i q
   rw[ad8 q]at h
   cases e:aJ br true (c::r)with
   | none=>rw[e]at h; cases h
   | some o=>cases o with
    | none=>rw[e]at h; cases h
    | some q =>
     rw[e]at h
     dsimp only at h
     have nz:aA 100001 q.z≠[]:=λz=>by
      rw[z]at h
      cases k <;> cases h
     have e0:=e
     unfold aJ at e0
     split at e0
     .cases e0
     .split at e0
      .cases e0
      .rename_i c0 r2 _ _
       cases e3:dN br true (c0::r2) 100001 (c0::r2) []with
       | none=>rw[e3]at e0; cases e0
       | some q3 =>
        rw[e3]at e0
        cases e0
        have:=rB (x:=x) hb e (vA hb e3 λz=>nz (by rw[z]; exact uY _))
        rw[adJ]at this
        rw[this]
        dsimp only[Ko.app]
        rw[gK nz]
        exact Je h
open Mo in show ∀{x:LN},_
let Nm:∀ d,Yo (Wt d)
 | 0=>λ_ _ _ _ h=>by cases h
 | d+1=>λx r s r' h=>by
  have h':vZ (Wt d) r 100001 (aA 100001 r)=some (s,r'):=h
  show vZ (Wt d) (r++x) 100001 (aA 100001 (r++x))=_
  rw[gK (λz=>by rw[z]at h'; cases h')]
  exact Je (Nm d) h'
have Ends(p:LN)(ws:List (List Part)):Prop:=∃ q,aJ wN false p=some (some q)/\q.ws=ws/\q.z=[]/\cG q.e≠[]
have Last(p:LN)(ws:List (List Part)):Prop:=∃ q,aJ wN false p=some (some q)/\q.ws=ws/\q.z=[]
let Ends.chain(h:Ends p ws)(k:Chain r wss):Chain (p++r) (ws::wss):=by
 have#[q,h1,rfl,h3,h4]:=h
 have:=rB (x:=r) (Nm 3) h1 h4
 exists .step (q:=q.app r) this
 show Chain (q.z++r) wss
 rw[h3]; exact k
let Last.chain(h:Last p ws):Chain p [ws]:=by
 have#[q,h1,rfl,h3]:=h
 exists .step h1
 rw[h3]; exact .done rfl
let Chain.blank(h:Chain r wss):Chain (32::r) wss:=by
 cases h with
 | done e=>exact .done e
 | step e k=>exact .step (show aJ wN false (32::r)=_ from e) k
open Mo in show _
let yg(x y z):∀ vs,val (xW x y vs) z=if z=x then some y else val vs z
 | []=>by
  unfold xW val zZ
  by_cases h:z=x
  .rw[ad9 h,ad9 h]; rfl
  .rw[ad8 h,ad8 h]; rfl
 | v::r=>by
  have ih:=yg x y z r
  unfold val at ih ⊢
  unfold xW
  by_cases h:x=v.name
  .rw[ad9 h]
   unfold zZ
   show 1
   by_cases q:z=v.name
   .rw[ad9 q,ad9 (q.trans h.symm)]; rfl
   .rw[ad8 q,ad8 (λw=>q (w.trans h)),ad8 q]
  .rw[ad8 h]
   unfold zZ
   by_cases q:z=v.name
   .rw[ad9 q,ad8 (λw=>h (w.symm.trans q)),ad9 q]
   .rw[ad8 q,ad8 q]
    exact ih
let yP(x y):∀ vs,(xW x y vs).map Vr.name=if x∈vs.map Vr.name then vs.map Vr.name else vs.map Vr.name++[x]
 | []=>rfl
 | v::r=>by
  have ih:=yP x y r
  unfold xW
  by_cases h:x=v.name
  .rw[ad9 h,ad9 (by rw[h]; exact .head _)]; rfl
  .rw[ad8 h,acS,acS,ih]
   by_cases q:x∈r.map Vr.name
   .rw[ad9 q,ad9 (List.mem_cons_of_mem _ q)]
   .rw[ad8 q,ad8 (λz=>(acR.mp z).elim h q)]; rfl
let len_sub{α:Type}[DecidableEq α]:∀{l m:List α},l.Nodup->(∀ x∈l,x∈m)->l.length<=m.length
 | [],m,_,_=>adD _
 | x::l,m,h,k=>by
  have#[h1,h2]:=adm.mp h
  have hx:=k x (.head _)
  have:=len_sub h2 λy hy=>(List.mem_erase_of_ne λz:y=x=>h1 (z▸hy)).mpr (k y (.tail _ hy))
  rw[List.length_erase_of_mem hx]at this
  have:=List.length_pos_of_mem hx
  rw[aaE]
  omega
let VB.mono{tx:aX}(h:VB tx c vs)(k:c<=c'):VB tx c' vs :=
 #[h.nd,h.nm,h.st,λx hx=>let#[l,h1,h2]:=h.sm x hx; #[l,h1,aaC h2 k],h.n]
let VB.len{tx:aX}(h:VB tx c vs):vs.length<=15:=by
 have:=len_sub h.nd h.nm
 rwa [ac0]at this
let VB.name{tx:aX}(h:VB tx c vs):∀ v∈vs,v.name.length<=900:=λv hv =>
 aaC ((by decide:∀ x∈NM,x.length<=11) _ (h.nm _ (adw.mpr #[v,hv,rfl]))) ⋯
let VB.up{tx:aX}(h:VB tx c vs)(k:okW c x y):VB tx c (xW x y vs):=by
 have ns:∀ i,i<4->[115,48+i]≠x/\[116,48+i]≠x:=λi hi=>by
  have:=k.m
  rcases i with _ | _ | _ | _ | i
  any_goals omega
  all_goals exact#[λz=>absurd (z▸this) ⋯,λz=>absurd (z▸this) ⋯]
 refine#[?_,?_,λi hi h0=>?_,λz hz=>?_,?_]
 .rw[yP]
  split
  .exact h.nd
  .rename_i q
   refine List.nodup_append.mpr #[h.nd,adm.mpr #[acX,List.nodup_nil],λa ha b hb z=>q ?_]
   rw[← adk.mp hb,← z]; exact ha
 .rw[yP]
  split
  .exact h.nm
  .intro z hz
   rcases ado.mp hz with hz | hz
   .exact h.nm z hz
   .rw[adk.mp hz]; exact ad4 _ k.m
 .rw[yg,yg,ad8 (ns i hi).1,ad8 (ns i hi).2]
  exact h.st i hi h0
 .rw[yg]
  by_cases q:z=x
  .rw[ad9 q]; exact#[y,rfl,k.s (q▸hz)]
  .rw[ad8 q]; exact h.sm z hz
 .rw[yg]
  by_cases q:[110]=x
  .rw[ad9 q]; exact#[y,rfl,k.n q.symm]
  .rw[ad8 q]; exact h.n
let Bd.mono(h:Bd m e)(k:m<=m'):Bd m' e:=#[h.v,aaC h.i k,h.ec,h.l,h.c,h.lv,h.r]
let Bd.small(h:Bd m e)(hm:m<=20000):small e:=by
 have#[h1,h2,#[h3,h4],h5,h6,h7,h8]:=h
 exact#[by omega,#[by omega,by omega],h5,by omega,by omega,by omega]
open Mo in show ∀{J:JE}{n0 g d m:Nat}{s:cj},_
let bF.sp(h:bF J n0 g d s):s.spent<=30:=aaC h.j.le h.F
let bF.lg(h:bF J n0 g d s):s.log.length<=31/\s.rounds.length<=31:=by
 have:=h.j.eq; have:=h.sp
 omega
let bF.weak(h:bF J n0 g d s)(hk:k<=n0):bF J k g d s:=#[h.j,h.F,h.dp,aaC hk h.n0,h.vb]
let bF.Ni(h:bF J n0 g d s):VB J.tx 100 s.vars:=h.vb.mono (by have:=h.sp; omega)
open Mo in show ∀{J:JE}{n0 g d m:Nat}{s:cj}{α β:Type},_
have NsR(J:JE)(m g n0:Nat)(Q:α->cj->Prop):Option (Rs α)->Prop
 | none=>False
 | some (.ok a s')=>Q a s'
 | some (.dJ e s')=>bF J n0 g 1 s'/\Bd m e
 | some (.out s')=>OS J g s'
have Ns(J:JE)(m g n0:Nat)(A:cj->Prop)(f:Mo α)(Q:α->cj->Prop):Prop:=∀ s,A s->NsR J m g n0 Q (f s)
open Mo in show ∀{J:JE}{n0 g d m:Nat}{s:cj}{α β:Type}{A:cj->Prop}{Q R:α->cj->Prop},_
let Ns.mono(h:Ns J m g n0 A f Q)(k:∀ a s,Q a s->R a s):Ns J m g n0 A f R:=λs hs=>by
 have:=h s hs
 revert this
 rcases f s with _ | (⟨a,s'⟩ | ⟨e,s'⟩ | s')
 .exact id
 .exact k a s'
 .exact id
 .exact id
let Ns.weak(k:n0<=n1)(h:Ns J m g n1 A f Q):Ns J m g n0 A f Q:=λs hs=>by
 have:=h s hs
 revert this
 rcases f s with _ | (⟨a,s'⟩ | ⟨e,s'⟩ | s')
 .exact id
 .exact id
 .exact λw=>#[w.1.weak k,w.2]
 .exact id
let Ns.big(k:m1<=m)(h:Ns J m1 g n0 A f Q):Ns J m g n0 A f Q:=λs hs=>by
 have:=h s hs
 revert this
 rcases f s with _ | (⟨a,s'⟩ | ⟨e,s'⟩ | s')
 .exact id
 .exact id
 .exact λw=>#[w.1,w.2.mono k]
 .exact id
let Ns.pre(h:Ns J m g n0 A f Q)(k:∀ s,B s->A s):Ns J m g n0 B f Q:=λs hs=>h s (k s hs)
let bh(h:∀ s,A s->Q a s):Ns J m g n0 A (ret a) Q:=h
let aR{Q':β->cj->Prop}(h:Ns J m g n0 A f Q)(h2:∀ a,Ns J m g n0 (Q a) (k a) Q'):Ns J m g n0 A (bnd f k) Q':=λs hs=>by
 have:=h s hs
 unfold bnd
 revert this
 rcases f s with _ | (⟨a,s'⟩ | ⟨e,s'⟩ | s')
 .exact id
 .exact h2 a s'
 .exact id
 .exact id
let bW{p:Prop}[Decidable p]{k:Mo α}(hp:∀ s,A s->p)(h:Ns J m g n0 A k Q):Ns J m g n0 A (bnd (eE p) λ_=>k) Q:=λs hs=>by
 have:=h s hs
 unfold bnd eE
 rw[ad9 (hp s hs)]
 exact this
let jH{k:β->Mo α}(e:o=some b)(h:Ns J m g n0 A (k b) Q):Ns J m g n0 A (bnd (opt o) k) Q:=by
 subst e; exact h
let jD(hA:∀ s,A s->bF J n0 g 1 s)(h:Bd m e):Ns J m g n0 A (rai e:Mo α) Q:=λs hs=>#[hA s hs,h]
let sU(h:Ns J m1 g n0 A f Q)(h2:∀ e,Bd m1 e->Ns J m g n0 (bF J n0 g 1) (k e) Q):Ns J m g n0 A (jG f k) Q:=λs hs=>by
 have:=h s hs
 unfold jG
 revert this
 rcases f s with _ | (⟨a,s'⟩ | ⟨e,s'⟩ | s')
 .exact id
 .exact id
 .exact λw=>h2 e w.2 s' w.1
 .exact id
let qw{n1:Nat}{x y:LN}(h:∀ c,3*n0+10<=c->okW c x y):Ns J m g n1 (bF J n0 g d) (cP x y) λ_ s=>bF J n0 g d s:=λs hs=>by
 unfold cP
 rw[ad9 (by have:=hs.vb.len; omega)]
 exact#[hs.j.vars,hs.F,hs.dp,hs.n0,hs.vb.up (h _ (by have:=hs.n0; omega))]
let free.ok(h:free x):okW c x y:=#[h.1,λz=>absurd (z▸h.2) ⋯,λz=>absurd (List.mem_cons_of_mem _ z) h.2]
let jL(h:free x):Ns J m g n1 (bF J n0 g d) (cP x y) λ_ s=>bF J n0 g d s:=qw λ_ _=>h.ok
let yI{n1:Nat}:Ns J m g n1 (bF J n0 g d) (dM J.E) λ_ s=>bF J (n0+1) g (d+1) s:=λs hs=>by
 have hj:=(oF (tx:=J.tx) (d:=d) (abW J.F)).fin s
 have l:=hs.lg
 unfold dM at hj ⊢
 by_cases ho:over J.E.fuel (s.spent+1)=true
 .rw[ad9 ho]
  exact#[hs.dp,l.1,l.2,hs.vb.mono (by have:=hs.sp; omega)]
 .rw[ad8 ho]at hj ⊢
  exact#[(hj _ hs.j rfl).1,hs.F,hs.dp,Nat.succ_le_succ hs.n0,hs.vb.mono (by show _<=3*(s.spent+1)+10; omega)]
let YK{n1:Nat}{ws:aX}(hd:d=if ws=[[100,101,97,114]]then 0 else 1):Ns J m g n1 (bF J n0 g 1) (mz J.E ws) λ_ s=>bF J (n0+1) g d s:=λs hs=>by
 have hj:=(Fx (tx:=J.tx) (abW J.F) hd).fin s
 have l:=hs.lg
 unfold mz at hj ⊢
 by_cases ho:over J.E.fuel (s.spent+1)=true
 .rw[ad9 ho]
  exact#[hs.dp,l.1,l.2,hs.vb.mono (by have:=hs.sp; omega)]
 .have hro:room s:=#[by omega,by have:=hs.vb.len; omega,hs.vb.name]
  rw[ad8 ho,ad9 hro]at hj ⊢
  exact#[(hj _ hs.j rfl).1,hs.F,hs.dp,Nat.succ_le_succ hs.n0,hs.vb.mono (by show _<=3*(s.spent+1)+10; omega)]
let V9{Q:LN->cj->Prop}(h:∀ s,A s->∃ l,val s.vars x=some l/\Q l s):Ns J m g n0 A (readM x) Q:=λs hs=>by
 have#[l,h1,h2]:=h s hs
 unfold val at h1
 unfold readM
 cases e:zZ x s.vars with
 | none=>rw[e]at h1; cases h1
 | some v=>rw[e]at h1; cases h1; exact h2
open Mo in show ∀{J:JE}{n0 g d m K:Nat}{s:cj}{run:bY}{α β:Type}{A:cj->Prop}{Q R:α->cj->Prop},_
let xZ(h:val s.vars x=some l):readM x s=some (.ok l s):=by
 unfold val at h
 unfold readM
 cases e:zZ x s.vars with
 | none=>rw[e]at h; cases h
 | some v=>rw[e]at h; cases h; rfl
let aah(h:l.length<=1000000):wM [l]:=#[by show l.length+0<=_; omega,cC]
let WY(h:a.length+b.length<=2000000):wM [a,b]:=#[by show a.length+(b.length+0)<=_; omega,cC]
let iH(h:WP s.vars ps l):nY run ps s=some (.ok l s):=by
 cases h with
 | text l h =>
  show(bnd (eE (wM [l])) λ_=>Mo.ret (bJ [] [l])) s=_
  unfold bnd eE
  rw[ad9 (aah h)]; rfl
 | var h hl =>
  show(bnd (bnd (readM _) λv=>Mo.ret ([]++[v])) λacc=>bnd (eE (wM acc)) λ_=>Mo.ret (bJ [] acc)) s=_
  unfold bnd eE
  rw[xZ h]
  dsimp only[Mo.ret]
  rw[ad9 (show wM ([]++[_])from aah hl)]; rfl
 | both h hl =>
  show(bnd (bnd (readM _) λv=>Mo.ret ([_]++[v])) λacc=>bnd (eE (wM acc)) λ_=>Mo.ret (bJ [] acc)) s=_
  unfold bnd eE
  rw[xZ h]
  dsimp only[Mo.ret]
  rw[ad9 (show wM ([_]++[_])from WY ∎)]
  show some (Rs.ok (_++[]++_) s)=_
  rw[adL]; rfl
let uR(h:WV s.vars ws ls):∀ acc,kJ run ws acc s=some (.ok (acc++ls) s):=by
 induction h with
 | nil=>intro acc; rw[adL]; rfl
 | cons p w ih =>
  intro acc
  show bnd (nY run _) (λv=>kJ run _ (acc++[v])) s=_
  unfold bnd
  rw[iH p]
  show 1
  rw[ih,ad5]; rfl
let Tv{Q:LN->cj->Prop}(hl:ws.length<=1000)(h:∀ s,A s->∃ ls,WV s.vars ws ls/\Ns J m g n0 (λs'=>s'=s) (b7 J.E run ls) Q):Ns J m g n0 A (bnd (gw run ws) (b7 J.E run)) Q:=λs hs=>by
 have#[ls,w,k]:=h s hs
 have e:gw run ws s=some (.ok ls s):=by
  unfold gw bnd eE
  rw[ad9 hl]
  exact uR w []
 unfold bnd
 rw[e]
 exact k s rfl
let yc(E)(c)(ws:aX):yw E run (c::ws)=match pU c cW with
   | none=>bnd (eE (c.length<=1000)) λ_=>rai (dJ 1 ([105,110,118,97,108,105,100,32,99,111,109,109,97,110,100,32,110,97,109,101,32,34]++c++[34]) [[84,67,76],[76,79,79,75,85,80],[67,79,77,77,65,78,68],c] 0 0)
   | some kd=>bnd (mz E (c::ws)) λ_=>lz E run (c::ws) kd:=rfl
let wI{Q:LN->cj->Prop}(e:pU c cW=some kd)(hd:d=if(c::ws)=[[100,101,97,114]]then 0 else 1)(h:Ns J m g n0 (bF J (n0+1) g d) (bnd (lz J.E run (c::ws) kd) (bk run)) Q):Ns J m g n0 (bF J n0 g 1) (b7 J.E run (c::ws)) Q:=by
 unfold b7
 rw[yc,e]
 show 1
 rw[dD]
 exact aR (YK hd) λ_=>h
let jx{Q:LN->cj->Prop}(e:pU c cW=some kd)(hf:lz J.E run (c::ws) kd=je f)(hd:d=if(c::ws)=[[100,101,97,114]]then 0 else 1)(h:Ns J m g n0 (bF J (n0+1) g d) f Q):Ns J m g n0 (bF J n0 g 1) (b7 J.E run (c::ws)) Q:=by
 exists wI e hd
 rw[hf,jV]
 exact h
have eO(J:JE)(m g:Nat)(run:bY)(t:LN)(inc:Nat)(V:LN->Prop):Prop:=∀ n0,Ns J m g n0 (bF J n0 g (if t.take 1=[32]then 2 else 1)) (run t) λv s=>bF J (n0+inc) g 1 s/\V v
have cN(J:JE)(m g:Nat)(run:bY)(ws:List (List Part))(inc:Nat)(V:LN->Prop):Prop:=∀ n0,Ns J m g n0 (bF J n0 g 1) (bnd (gw run ws) (b7 J.E run)) λv s=>bF J (n0+inc) g 1 s/\V v
let eO.plain{V:LN->Prop}(h:eO J m g run t inc V)(n:¬mq t)(n0):Ns J m g n0 (bF J n0 g 1) (run t) λv s=>bF J (n0+inc) g 1 s/\V v:=by
 have:=h n0
 rwa [ad8 (show ¬(t.take 1=[32])from n)]at this
let eO.body{V:LN->Prop}(h:eO J m g run t inc V)(n:mq t)(n0):Ns J m g n0 (bF J n0 g 2) (run t) λv s=>bF J (n0+inc) g 1 s/\V v:=by
 have:=h n0
 rwa [ad9 (show t.take 1=[32]from n)]at this
let aW{V:LN->Prop}(hl:ws.length<=1000)(h:∀ n0 s,bF J n0 g 1 s->∃ ls,WV s.vars ws ls/\Ns J m g n0 (λs'=>s'=s) (b7 J.E run ls) λv s=>bF J (n0+inc) g 1 s/\V v):cN J m g run ws inc V:=λn0=>Tv hl (h n0)
let J3{V:LN->Prop}(hw:pU w cW=some .put)(hx:bF J n0 g 1 s)(ok:∀ c,3*s.spent+13<=c->okW c x y)(hV:V y) :
  Ns J m g n0 (λs'=>s'=s) (b7 J.E run [w,x,y]) λv s=>bF J n0 g 1 s/\V v:=by
 have h:Ns J m g s.spent (bF J s.spent g 1) (b7 J.E run [w,x,y]) λv s=>bF J n0 g 1 s/\V v :=
  jx hw rfl rfl (by
   rw[ad8 (by intro z; cases z)]
   exact aR (qw λc hc=>ok c ∎) λ_=>bh λs' h=>#[h.weak (Nat.le_succ_of_le hx.n0),hV])
 exact(h.weak hx.n0).pre λs' e=>by subst e; exact#[hx.j,hx.F,hx.dp,abW _,hx.vb]
let Eo{code lv ret:Nat}(h1:v.length<=100)(h2:tot ec<=100/\ec.length<=10)(h3:code<=7)(h4:lv<=2)(h5:ret=0∨ret=3):Bd m (dJ code v ec lv ret) :=
 #[h1,adD _,h2,adD _,h3,h4,h5]
let DN(k)(h:k<=900):(dec k).length<=5:=(wY h).1
let Qx(h:Bd m e)(hm:m<=20000):Gy (some e):=by
 have#[h1,h2,#[h3,h4],h5,h6,h7,h8]:=h
 refine#[?_,λz=>by omega]
 have j:=yu e.ec
 have d1:=DN (if e.code=2 then e.ret else e.code) (by split <;> omega)
 have d2:=DN (if e.code=2 then e.level else 0) (by split <;> omega)
 have i:(s7 e).length<=20000:=by unfold s7; split <;> omega
 have tt:(e.ec.map List.length).sum<=100:=h3
 unfold optItems wM tot
 generalize dec (if e.code=2 then e.ret else e.code)=a at d1 ⊢
 generalize dec (if e.code=2 then e.level else 0)=b at d2 ⊢
 have q:((lJ e).map List.length).sum<=20300/\(lJ e).length<=4:=by
  unfold lJ
  split
  .simp only[acS,List.map_nil,ad2,List.sum_nil,aaE,acT]
   omega
  .exact#[adD _,adD _]
 simp only[adH,List.sum_append,aaG,acS,List.map_nil,ad2,List.sum_nil,aaE,acT]
 omega
let Ba:Ns J m g n0 (bF J n0 g 1) (eZ e) λ_ s=>bF J n0 g 1 s:=by
 unfold eZ
 split
 .exact aR (jL ⋯) λ_=>jL ⋯
 .exact bh λ_ h=>h
let IK{V:LN->Prop}(hm:m1<=20000)(h:eO J m1 g run t inc V)(n:¬mq t):Ns J m g n0 (bF J n0 g 1) (tried run t) λp s=>bF J n0 g 1 s/\(p.2=none∨∃ e,p.2=some e/\Bd m1 e):=by
 refine bW (λ_ _=>n) (sU (aR (h.plain n n0) λv=>bh λs h=>#[h.1.weak (adt _ _),.inl rfl]) λe he=>?_)
 exact bW (λ_ _=>he.small hm) (aR Ba λ_=>bh λs h=>#[h,.inr #[e,rfl,he]])
let Ij(h:o=none∨∃ e,o=some e/\Bd m1 e):(nW o).length<=5:=by
 rcases h with rfl | ⟨e,rfl,he⟩
 .decide
 .exact DN _ (aaC he.c ⋯)
let Ox{V:LN->Prop}(hw:pU w cW=some .catch)(hm:m1<=20000)(h:eO J m1 g run t inc V)(n:¬mq t)(hx:free x)(hy:free y) :
  Ns J m g n0 (bF J n0 g 1) (b7 J.E run [w,t,x,y]) λv s=>bF J n0 g 1 s/\v.length<=400:=by
 exists jx hw rfl rfl
 rw[ad8 (by intro z; cases z)]
 refine aR (((IK hm h n).weak (adp n0))) λp=>?_
 by_cases q:p.2=none∨∃ e,p.2=some e/\Bd m1 e
 case neg=>exact λs hs=>absurd hs.2 q
 refine aR ((jL hx).pre λs h=>h.1.weak (adp n0)) λ_=>bW (λ_ _=>?_) (aR (jL hy) λ_=>bh λs h=>#[h,aaC (Ij q) ⋯])
 rcases q with q | ⟨e,q,he⟩
 .rw[q]; trivial
 .rw[q]; exact Qx he hm
let Pg{V:LN->Prop}(hw:pU w cW=some .catch)(hm:m1<=20000)(h:eO J m1 g run t inc V)(n:¬mq t) :
  Ns J m g n0 (bF J n0 g 1) (b7 J.E run [w,t]) λv s=>bF J n0 g 1 s/\v.length<=400:=by
 exists jx hw rfl rfl
 rw[ad8 (by intro z; cases z)]
 refine aR (((IK hm h n).weak (adp n0))) λp=>bh λs h=>#[h.1.weak (adp n0),aaC (Ij h.2) ⋯]
let Nz(h:eO J m g run b inc λv=>v.length<=K)(n:mq b):Ns J m g n0 (bF J n0 g 2) (yH run b) λp s=>bF J n0 g 1 s/\p.2.length<=K :=
 sU (aR (h.body n n0) λv=>bh λs h=>#[h.1.weak (adt _ _),h.2]) λe he=>by
  split
  .exact bh λs h=>#[h,adD _]
  .exact jD (λ_ h=>h) he
let Hj(hv:∀ v∈values,v.length<=1):∀(names:aX) (k:Nat),(∀ x∈names,x=[118]∨x=[119])->Ns J m g n0 (bF J n0 g d) (iG values names k) λ_ s=>bF J n0 g d s
 | [],_,_=>bh λ_ h=>h
 | x::names,k,hn=>aR (by
   have hl:(values[k]?.getD []).length<=1:=by
    cases e:values[k]? with
    | none=>exact adD _
    | some v=>exact hv v (aaQ e)
   rcases hn x (.head _)with rfl | rfl
   .exact qw λc hc=>#[by decide,(λz=>by cases z),λ_=>by omega]
   .exact jL ⋯) λ_=>Hj hv names (k+1) λx hx=>hn x (.tail _ hx)
let G6{names values:aX}(hv:∀ v∈values,v.length<=1)(hn:∀ x∈names,x=[118]∨x=[119])(h:eO J m g run b inc λv=>v.length<=K)(n:mq b) :
  ∀(k turn:Nat) (kept:aX),rounds<turn+k->turn<=rounds->kept.length<=turn->(∀ v∈kept,v.length<=K)->Ns J m g n0 (bF J n0 g 1) (lR J.E run names values b rounds k turn kept) λls s=>bF J n0 g 1 s/\ls.length<=rounds/\∀ v∈ls,v.length<=K
 | 0,turn,kept,hk,ht,hl,ha=>by omega
 | k+1,turn,kept,hk,ht,hl,ha=>by
  unfold lR
  split
  .exact bh λs h=>#[h,by omega,ha]
  .rename_i hlt
   refine aR yI λ_=>aR ((Hj hv names _ hn).weak (adp n0)) λ_=>aR ((Nz h n).weak (adp n0)) λp=>?_
   split
   .exact bh λs h=>#[h.1.weak (adp n0),by omega,ha]
   .by_cases q:p.2.length<=K
    case neg=>exact λs hs=>absurd hs.2 q
    refine((G6 hv hn h n k (turn+1) _ ∎ ∎ ?_ ?_).pre λs h=>h.1.weak (adp n0))
    .split
     .rw[aaG,List.length_singleton]; omega
     .omega
    .split
     .intro v hv'
      rcases ado.mp hv' with z | z
      .exact ha v z
      .rw[adk.mp z]; exact q
     .exact ha
let LR{names values:aX}(hw:pU w cW=some kd)(hk:lz J.E run [w,ns,vs,body] kd=je (Cq J.E run lm [w,ns,vs,body]))(h1:zW ns/\zW vs)(e1:fQ 1000 ns []=some names)(e2:fQ 1000 vs []=some values)(hn:∀ x∈names,x=[118]∨x=[119])(hv:∀ v∈values,v.length<=1)(hz:0<names.length)(hr:(values.length+names.length-1)/names.length<=3)(hK:K<=100000)(h:eO J m g run body inc (LV K))(n:mq body) :
  Ns J m g n0 (bF J n0 g 1) (b7 J.E run [w,ns,vs,body]) λv s=>bF J n0 g 1 s/\v.length<=6*K+12:=by
 exists jx hw hk rfl
 rw[ad8 (by intro z; cases z)]
 refine bW (λ_ _=>#[h1.1,h1.2,n]) (jH e1 (jH e2 (bW (λ_ _=>hz) (aR (((G6 hv hn h n 900 0 [] ∎ (adD _) (adD _) (λ_ z=>nomatch z))).pre λs h=>h.weak (adp n0)) λls=>?_))))
 by_cases q:ls.length<=3/\∀ v∈ls,v.length<=K
 case neg=>exact λs hs=>absurd #[aaC hs.2.1 hr,hs.2.2] q
 have sm:∀ ls:aX,(∀ v∈ls,v.length<=K)->(ls.map List.length).sum<=ls.length*K:=λls=>by
  induction ls with
  | nil=>exact λ_=>adD _
  | cons a r ih =>
   intro hv
   have h1:=ih λv z=>hv v (.tail _ z)
   have h2:=hv a (.head _)
   rw[acS,ad2,aaE,Nat.succ_mul]
   omega
 have s1:=sm ls q.2
 have s2:=Nat.mul_le_mul_right K q.1
 cases lm
 .exact bh λs h=>#[h.1,adD _]
 .refine bW (λ_ _=>#[show tot ls<=_ by unfold tot; omega,by omega]) (bh λs h=>#[h.1,?_])
  have:=yu ls
  omega
let Xo:Ns J m g n1 (bF J n0 g d) (testM [110]) λ_ s=>bF J n0 g d s:=by
 refine aR (V9 (Q:=λl s=>bF J n0 g d s/\l∈kh) λs h=>?_) λv=>?_
 .have#[l,h1,h2]:=h.vb.n
  exact#[l,h1,h,h2]
 .split
  .exact bh λs h=>h.1
  .refine aR ((qw λc hc=>#[by decide,λ_=>?_,λz=>absurd z ⋯]).pre λs h=>h.1) λ_=>bh λs h=>h
   split <;> decide
let BJ(h:eO J m g run b inc (LV K))(n:mq b):∀(k n0 code:Nat),31<=n0+k->Ns J m g n0 (bF J n0 g 1) (kE J.E run [110] b k code) λ_ s=>bF J n0 g 1 s
 | 0,n0,code,hk=>λs hs=>absurd (aaC hs.n0 hs.sp) ∎
 | k+1,n0,code,hk=>by
  unfold kE
  split
  .exact bh λ_ h=>h
  .refine aR Xo λb=>?_
   cases b
   .exact bh λ_ h=>h
   .refine aR yI λ_=>aR ((Nz h n).weak (adp n0)) λp=>?_
    exact(((BJ h n k (n0+1) p.1 ∎).weak (adp n0)).pre λs h=>h.1).mono λ_ s h=>h.weak (adp n0)
let Vh(hw:pU w cW=some .whl)(h:eO J m g run b inc (LV K))(n:mq b):Ns J m g n0 (bF J n0 g 1) (b7 J.E run [w,[110],b]) λv s=>bF J n0 g 1 s/\v.length<=400:=by
 exists jx hw rfl rfl
 rw[ad8 (by intro z; cases z)]
 exact bW (λ_ _=>n) (aR (((BJ h n 900 n0 0 ∎).pre λs h=>h.weak (adp n0))) λ_=>bh λs h=>#[h,adD _])
let Lx{V:LN->Prop}(h:eO J m g run t inc V)(n:¬mq t):Ns J m g n0 (bF J n0 g 1) (bk run (.nest t none false lb)) λv s=>bF J (n0+inc) g 1 s/\V v:=by
 exists bW (λ_ _=>n)
 rw[Dv]
 exact sU (h.plain n n0) λe he=>jD (λ_ h=>h) he
let zg{V:LN->Prop}(hw:pU w cW=some .eval)(h:eO J m g run t inc V)(n:¬mq t):Ns J m g n0 (bF J n0 g 1) (b7 J.E run [w,t]) λv s=>bF J n0 g 1 s/\V v:=by
 exists wI hw rfl
 rw[ad8 (by intro z; cases z)]
 exact((Lx h n).pre λs h=>h.weak (adp n0)).mono λv s h=>#[h.1.weak (adt _ _),h.2]
let Sy{V:LN->Prop}(hw:pU w cW=some .eval)(ht:uG a=true/\uG b=true/\wM [a,b])(e:bJ [32] [a,b]=t)(h:eO J m g run t inc V)(n:¬mq t):Ns J m g n0 (bF J n0 g 1) (b7 J.E run [w,a,b]) λv s=>bF J n0 g 1 s/\V v:=by
 subst e
 exists wI hw rfl
 rw[ad8 (by intro z; cases z)]
 unfold lz Cv
 rw[dD]
 exact bW (λ_ _=>ht) (((Lx h n).pre λs h=>h.weak (adp n0)).mono λv s h=>#[h.1.weak (adt _ _),h.2])
let JW(hw:pU w cW=some .say)(hn:w≠[100,101,97,114])(hf:wM ws):Ns J m g n0 (bF J n0 g 1) (b7 J.E run (w::ws)) λv s=>bF J (n0+1) g 1 s/\v=[60]++bJ [44] ws++[62]:=by
 exists jx hw rfl rfl
 rw[ad8 (by intro z; cases z; exact hn rfl)]
 exact bW (λ_ _=>hf) (bh λs h=>#[h,rfl])
let Xb:Ns J m g n0 (bF J n0 g 1) (b7 J.E run [[100,101,97,114]]) λv s=>bF J n0 g 1 s/\v.length<=400:=by
 exists jx (by rfl) rfl rfl
 rw[ad9 rfl]
 exact bW (λ_ _=>rfl) (aR yI λ_=>bh λs h=>#[bF.weak h ∎,cC])
let ZZ{V:LN->Prop}(hw:pU w cW=some .bad)(e:KN i=some p)(hp:p.1<=7/\p.2.1<=2/\(p.2.2=0∨p.2.2=3)):Ns J m g n0 (bF J n0 g 1) (b7 J.E run [w,i]) λv s=>bF J n0 g 1 s/\V v:=by
 exists jx hw rfl rfl
 rw[ad8 (by intro z; cases z)]
 exact jH e (jD (λ_ h=>h.weak (adp n0)) (Eo ⋯ ⋯ hp.1 hp.2.1 hp.2.2))
let M5{code:Nat}{V:LN->Prop}(hw:pU w cW=some .brk/\code=3∨pU w cW=some .cnt/\code=4):Ns J m g n0 (bF J n0 g 1) (b7 J.E run [w]) λv s=>bF J n0 g 1 s/\V v:=by
 have go:∀ kd,pU w cW=some kd->kd ≠ .dear->lz J.E run [w] kd=je (Gj code [w])->code<=7->Ns J m g n0 (bF J n0 g 1) (b7 J.E run [w]) λv s=>bF J n0 g 1 s/\V v:=λkd h1 h2 h3 h4=>by
  exists jx h1 h3 rfl
  rw[ad8 (by intro z; cases z; cases h1; exact h2 rfl)]
  exact jD (λ_ h=>h.weak (adp n0)) (Eo ⋯ ⋯ h4 ⋯ (.inl rfl))
 rcases hw with⟨h,rfl⟩ | ⟨h,rfl⟩
 .exact go .brk h (by intro z; cases z) rfl ⋯
 .exact go .cnt h (by intro z; cases z) rfl ⋯
let Xv{V:LN->Prop}(hw:pU w cW=none)(hl:w.length<=10):Ns J m g n0 (bF J n0 g 1) (b7 J.E run (w::ws)) λv s=>bF J n0 g 1 s/\V v:=by
 unfold b7
 rw[yc,hw]
 show 1
 rw[dD]
 refine bW (λ_ _=>by omega) (aR (Q:=λ_ _=>False) (jD (λ_ h=>h) (Eo ?_ #[?_,?_] ⋯ ⋯ (.inl rfl))) λ_ _ z=>z.elim)
 .simp only[aaG,aaE,acT]; omega
 .simp only[tot,acS,List.map_nil,ad2,List.sum_nil,aaE,acT]; omega
 .exact cC
let zA(h:Bd m e)(hl:l.length<=140):Bd (m+250) { ou e l with line:=0 }:=by
 unfold ou
 split
 .exact#[h.v,aaC h.i ∎,h.ec,adD _,h.c,h.lv,h.r]
 .refine#[h.v,?_,h.ec,adD _,h.c,h.lv,h.r]
  have:=h.v; have:=h.i
  simp only[aaG,aaE,acT]
  split <;> omega
let KQ(h:Bd m e)(hm:m<=20000):Ns J (m+250) g n0 (bF J n0 g 1) (jW [112] e) λv s=>bF J n0 g 1 s/\v.length<=100:=by
 exists bW (λ_ _=>#[h.small hm,cC])
 unfold m8
 by_cases c2:e.code=2
 .rw[ad9 c2]
  by_cases cl:1<e.level
  .rw[ad9 cl]
   exact jD (λ_ h=>h) #[h.v,aaC h.i ∎,h.ec,h.l,h.c,by have:=h.lv; show e.level-1<=2; omega,h.r]
  .rw[ad8 cl]
   by_cases cr:e.ret=0
   .rw[ad9 cr]
    exact bh λs hs=>#[hs,h.v]
   .rw[ad8 cr]
    exact jD (λ_ h=>h) #[h.v,aaC h.i ∎,h.ec,h.l,by have:=h.r; show e.ret<=7; omega,by show(if _ then 1 else 0)<=2; split <;> omega,.inl rfl]
 .rw[ad8 c2]
  exists jD (λ_ h=>h)
  have len:∀ k:Nat,k<=900->([40,112,114,111,99,101,100,117,114,101,32,34]++FJ [112] 60++[34,32,108,105,110,101,32]++dec k++[41]).length<=140:=λk hk=>by
   have:=rP [112] 60
   have:=DN k hk
   simp only[aaG,aaE,acT]
   omega
  show 1
  split
  .refine zA #[?_,adD _,(by decide:tot [[84,67,76],[82,69,83,85,76,84],[85,78,69,88,80,69,67,84,69,68]]<=100/\3<=10),h.l,(by decide:1<=7),(by decide:0<=2),.inl rfl] (len _ h.l)
   show([105,110,118,111,107,101,100,32,34]++(if e.code=3 then [98,114,101,97,107]else [99,111,110,116,105,110,117,101])++[34,32,111,117,116,115,105,100,101,32,111,102,32,97,32,108,111,111,112]:LN).length<=100
   split <;> decide
  .exact zA h (len _ h.l)
let bF.fr(h:bF J n0 g d s)(hf:f.isSome=true):bF J n0 g d { s with frame:=f }:=#[#[h.j.ov,h.j.eq,h.j.cnt,h.j.sp,hf],h.F,h.dp,h.n0,h.vb]
let Nf{inc:Nat}(hw:pU w cW=some .proc)(hi:i∈eX)(e:J.tx[eX.idxOf i]? = some t)(hm:m<=20000)(hK:400<=K)(h:eO J m g run t inc (LV K))(n:¬mq t) :
  Ns J (m+250) g n0 (bF J n0 g 1) (b7 J.E run [w,i]) λv s=>bF J n0 g 1 s/\v.length<=K:=by
 exists wI hw rfl
 rw[ad8 (by intro z; cases z)]
 unfold lz Cw
 rw[dD]
 exists bW (λ_ _=>hi)
 rw[dD]
 refine jH e λs hs=>?_
 have#[x,hx]:=Option.isSome_iff_exists.mp hs.j.fm
 have k:=sU ((h.plain n n0).mono λv s h=>(#[h.1.weak (adt _ _),h.2]:bF J n0 g 1 s/\v.length<=K)) λe he=>(KQ he hm).mono λv s h=>#[h.1,by omega]
 have q:=k { s with frame:=some (102::i) } ((hs.weak (adp n0)).fr rfl)
 show NsR J (m+250) g n0 _ (bnd (eE (¬mq t)) (λ_=>H3 (jG (run t) (jW [112])) (sE s.frame)) { s with frame:=some (102::i) })
 unfold bnd eE H3
 rw[ad9 n,hx]
 show 1
 revert q
 rcases jG (run t) (jW [112]) { s with frame:=some (102::i) }with _ | (⟨a,s'⟩ | ⟨e,s'⟩ | s')
 .exact id
 .exact λq=>#[q.1.fr rfl,q.2]
 .exact λq=>#[q.1.fr rfl,q.2]
 .exact λq=>#[q.dp,q.lg,q.rd,q.vb]
let mH{V:LN->Prop}(h:eO J m g run c inc V)(n:¬mq c)(hV:∀ v,V v->v.length<=1000000):Ns J m g n0 (bF J n0 g 1) (nY run [.cmd c]) λv s=>bF J (n0+inc) g 1 s/\V v:=by
 refine bW (λ_ _=>cC) (aR (Q:=λacc s=>∃ v,acc=[v]/\bF J (n0+inc) g 1 s/\V v) (bW (λ_ _=>n) (aR (h.plain n n0) λv=>bh λs h=>#[v,rfl,h])) λacc=>?_)
 intro s #[v,e,hs]
 subst e
 exact bW (λ_ z=>aah (hV v z.2)) (bh λs h=>h) s hs
let wD{V:LN->Prop}(hx:bF J n0 g 1 s)(e:val s.vars x=some l)(hl:l.length<=1000)(h:eO J m g run c inc V)(n:¬mq c)(hV:∀ v,V v->v.length<=1000) :
  Ns J m g n0 (λs'=>s'=s) (nY run [.var x,.cmd c]) λv s'=>bF J (s.spent+inc) g 1 s' /\ ∃ u,V u/\v=l++u:=by
 refine bW (λ_ _=>cC) (aR (Q:=λacc s' => ∃ v,acc=[l,v]/\bF J (s.spent+inc) g 1 s'/\V v) ?_ λacc=>?_)
 .intro s' es
  subst es
  show NsR J m g n0 _ (bnd (readM x) (λv=>bnd (eE (¬mq c)) λ_=>bnd (run c) λu=>Mo.ret ([]++[v]++[u])) s')
  unfold bnd
  rw[xZ e]
  have q:=bW (λ_ _=>n) (aR ((h.plain n s'.spent).weak hx.n0) λv=>bh (Q:=λacc s2=>∃ v,acc=[l,v]/\bF J (s'.spent+inc) g 1 s2/\V v) λs h=>#[v,rfl,h])
  exact q s' #[hx.j,hx.F,hx.dp,abW _,hx.vb]
 .intro s' #[v,ea,hs]
  subst ea
  exact bW (A:=λs'=>bF J (s.spent+inc) g 1 s'/\V v) (λ_ z=>WY (by have:=hV v z.2; omega)) (bh λs h=>#[h.1,v,h.2,by show l++[]++v=l++v; rw[adL]]) s' hs
let RZ(h:Bd m e)(ht:t.length<=800):Bd (m+300) (gV e t b x):=by
 unfold gV
 split
 .exact h.mono ∎
 .have hl:∀ y,Va t y<=900:=λy=>by
   unfold Va
   have q:=split_weight (Cs (t.take (t.length-y.length))) (Cs [10]) ⋯
   have e:(Cs (t.take (t.length-y.length))).length=(t.take (t.length-y.length)).length:=by simp[Cs,Str.length]
   rw[e,List.length_take]at q
   omega
  have nt:∀(e:iw) (src:LN),Bd m e->Bd (m+300) (Gq e src):=λe src h=>by
   unfold Gq
   split
   .exact h.mono ∎
   .refine#[h.v,?_,h.ec,h.l,h.c,h.lv,h.r]
    unfold Rr
    have:=h.v; have:=h.i; have:=rP src 150
    repeat' split
    all_goals(try simp only[aaG,aaE,acT]); omega
  exists nt _ _
  split
  .exact#[h.v,h.i,h.ec,hl _,h.c,h.lv,h.r]
  .exact h
let Nt{V:LN->Prop}(hm:m<=20000)(ht:t.length<=800)(h:cN J m g run q.ws inc V):Ns J (m+300) g n0 (bF J n0 g 1) (uW J.E run t q) λv s=>bF J (n0+inc) g 1 s/\V v :=
 sU (h n0) λe he=>bW (λ_ _=>#[he.small hm,ht]) (jD (λ_ h=>h) (RZ he ht))
let yM(hm:m<=20000)(ht:t.length<=800):∀{wss:List (List (List Part))} {r:LN} (k:Nat) (n0:Nat) (res:LN),Chain r wss->wss.length<k->(∀ ws∈wss,cN J m g run ws 0 (LV K))->res.length<=K ->
  Ns J (m+300) g n0 (bF J n0 g 1) (ik J.E run t k r res) λv s=>bF J n0 g 1 s/\v.length<=K
 | wss,r,0,n0,res,hc,hk,_,_=>by omega
 | [],r,k+1,n0,res,.done e,hk,hw,hl=>jH e (bh λs h=>#[h,hl])
 | _::wss,r,k+1,n0,res,.step e hc,hk,hw,hl=>jH e (aR (Nt hm ht (hw _ (.head _))) λv=>by
   by_cases hv:v.length<=K
   .exact(yM hm ht k n0 v hc (by rw[aaE]at hk; omega) (λws z=>hw ws (.tail _ z)) hv).pre λs h=>h.1
   .exact λs hs=>absurd hs.2 hv)
let K9{V:LN->Prop}(hm:m<=20000)(ht:t.length<=800)(hc:Chain r [ws])(h:cN J m g run ws inc V)(k n0)(res)(hk:2<=k) :
  Ns J (m+300) g n0 (bF J n0 g 1) (ik J.E run t k r res) λv s=>bF J (n0+inc) g 1 s/\V v:=by
 obtain⟨k,rfl⟩:∃ j,k=j+2:=#[k-2,by omega]
 cases hc with
 | step e hc =>
  cases hc with
  | done e2=>exact jH e (aR (Nt hm ht h) λv=>jH e2 (bh λs h=>h))
let Un{V:LN->Prop}(ht:tH t)(hg:g<14)(h:∀ n0,Ns J m g n0 (bF J n0 g 1) (ik J.E (runM J.E g) t 900 t []) λv s=>bF J (n0+inc) g 1 s/\V v):eO J m (g+1) (runM J.E (g+1)) t inc V:=λn0 s hs=>by
 have hl:=hs.lg
 have hd:=hs.dp
 have q:NsR J m g n0 (λv s=>bF J (n0+inc) g 1 s/\V v) (d8 J.E (runM J.E g) t { s with depth:=s.depth+1 }):=by
  unfold d8 qy bnd eE
  rw[ad9 ht]
  by_cases hb:t.take 1=[32]
  .rw[ad9 hb]at hs ⊢
   have e:=hs.j.eq
   refine h n0 _ #[#[hs.j.ov,?_,hs.j.cnt,hs.j.sp,hs.j.fm],hs.F,by show s.depth+1+g=14; omega,hs.n0,hs.vb]
   show s.spent+1=s.log.length+(s.rounds++[t]).length+Gb s.log+1
   rw[aaG,List.length_singleton]; omega
  .rw[ad8 hb]at hs ⊢
   exact h n0 _ #[#[hs.j.ov,hs.j.eq,hs.j.cnt,hs.j.sp,hs.j.fm],hs.F,by show s.depth+1+g=14; omega,hs.n0,hs.vb]
 show NsR J m (g+1) n0 _ (bnd _ _ s)
 unfold bnd
 show 1
 rw[ad9 (show s.depth<40/\s.rounds.length<=900 by omega)]
 show 1
 unfold zE
 have up:∀{n:Nat} {s':cj},bF J n g 1 s'->0<s'.depth/\bF J n (g+1) 1 { s' with depth:=s'.depth-1 }:=λ{n s'} h=>by
  have:=h.dp
  exact#[by omega,#[h.j.ov,h.j.eq,h.j.cnt,h.j.sp,h.j.fm],h.F,by show s'.depth-1+(g+1)=14; omega,h.n0,h.vb]
 revert q
 rcases d8 J.E (runM J.E g) t { s with depth:=s.depth+1 }with _ | (⟨a,s'⟩ | ⟨e,s'⟩ | s')
 .exact id
 .intro q
  show 1
  rw[ad9 (up q.1).1]
  exact#[(up q.1).2,q.2]
 .intro q
  show 1
  rw[ad9 (up q.1).1]
  exact#[(up q.1).2,q.2]
 .intro q
  have:=q.dp
  show 1
  rw[ad9 ∎]
  exact#[by show s'.depth-1+(g+1)=14; omega,q.lg,q.rd,q.vb]
let eO.big{V:LN->Prop}(k:m1<=m)(h:eO J m1 g run t inc V):eO J m g run t inc V:=λn0=>(h n0).big k
let cN.big{V:LN->Prop}(k:m1<=m)(h:cN J m1 g run ws inc V):cN J m g run ws inc V:=λn0=>(h n0).big k
let cN.val{V Wo:LN->Prop}(h:cN J m g run ws inc V)(k:∀ v,V v->Wo v):cN J m g run ws inc Wo:=λn0=>(h n0).mono λv s q=>#[q.1,k v q.2]
let Fz{inc:Nat}{V:LN->Prop}(ht:tH t)(hl:t.length<=800)(hc:Chain t [ws])(hg:g<14)(h:cN J (600*g+250) g (runM J.E g) ws inc V):eO J (600*(g+1)) (g+1) (runM J.E (g+1)) t inc V :=
 (Un ht hg λn0=>K9 ∎ hl hc h 900 n0 [] ∎).big ∎
let nC(ht:tH t)(hl:t.length<=800)(hc:Chain t wss)(hn:wss.length<900)(hg:g<14)(h:∀ ws∈wss,cN J (600*g+250) g (runM J.E g) ws 0 (LV K)):eO J (600*(g+1)) (g+1) (runM J.E (g+1)) t 0 (LV K) :=
 (Un ht hg λn0=>yM ∎ hl 900 n0 [] hc hn h (adD _)).big ∎
let G3(h:eO J m g run c inc (LV 400))(n:¬mq c):Ns J m g n0 (bF J n0 g 1) (mQ run (.cmd c)) λo s=>bF J n0 g 1 s/\∀ v,o=some v->v.length<=400 :=
 sU (aR (mH h n λv z=>aaC z cC) λv=>bh λs h=>#[h.1.weak (adt _ _),λu e=>by cases e; exact h.2]) λe he=>by
  repeat' split
  .exact jD (λ_ h=>h) he
  .exact bh λs h=>#[h,λ_ z=>nomatch z]
  .exact bh λs h=>#[h,λ_ z=>by cases z; exact adD _]
  .exact bh λs h=>#[h,λ_ z=>by cases z; exact aaC he.v ⋯]
let Gf(hx:x∈[[97],[98],[118]]):Ns J m g n0 (bF J n0 g 1) (mQ run (.var x)) λo s=>bF J n0 g 1 s/\∀ v,o=some v->v.length<=400:=λs hs=>by
 have#[l,h1,h2]:=hs.Ni.sm x hx
 unfold mQ jG bnd
 rw[iH (.var h1 ∎)]
 exact#[hs,λv z=>by cases z; omega]
have Ud(L N:Nat)(acc:aX):Prop:=tot acc<=L/\acc.length<=N
let Ud.add(h:Ud L N acc)(hv:v.length<=k):Ud (L+k) (N+1) (acc++[v]):=by
 refine#[?_,by rw[aaG,List.length_singleton]; exact Nat.succ_le_succ h.2]
 have:=h.1
 unfold tot at this ⊢
 rw[adH,List.sum_append]
 show _+(v.length+0)<=_
 omega
let DK(h:Ud L N acc)(hL:L<=2000)(hN:N<=900):Ns J m g n0 (bF J n0 g 1) (joinM acc) λv s=>bF J n0 g 1 s/\v.length<=2000:=by
 have:=h.1; have h2:=h.2
 refine bW (λ_ _=>#[by omega,by omega]) (bh λs h=>#[h,?_])
 have j:=jR [] acc
 unfold tot at this
 rw[acT,Nat.mul_zero]at j
 omega
have Hw(J:JE)(m g n0:Nat)(run:bY)(L N k:Nat)(t:LN):Prop:=∀ acc,Ud L N acc->Ns J m g n0 (bF J n0 g 1) (dz run k t acc) λv s=>bF J n0 g 1 s/\v.length<=2000
let Wm(hL:L<=2000)(hN:N<=900):Hw J m g n0 run L N (k+1) []:=λacc h=>DK h hL hN
let W9{r:LN}(hc:c≠92/\c≠91/\c≠36)(h:Hw J m g n0 run (L+1) (N+1) k r):Hw J m g n0 run L N (k+1) (c::r):=λacc ha=>by
 unfold dz
 rw[ad8 hc.1,ad8 hc.2.1,ad8 hc.2.2]
 exact h _ (ha.add (abW 1))
let NQ{r x z:LN}(hL:L<=2000)(hN:N<=900)(e:nG r=some (x,z))(hx:x∈[[97],[98],[118]])(h:Hw J m g n0 run (L+400) (N+1) k z):Hw J m g n0 run L N (k+1) (36::r):=λacc ha=>by
 unfold dz
 rw[ad8 ⋯,ad8 ⋯,ad9 rfl]
 refine jH e (aR (Gf hx) λo=>?_)
 cases o with
 | none=>exact(DK ha hL hN).pre λs h=>h.1
 | some v =>
  by_cases hv:v.length<=400
  .exact(h _ (ha.add hv)).pre λs h=>h.1
  .exact λs hs=>absurd (hs.2 v rfl) hv
let Nu{r c z:LN}(hL:L<=2000)(hN:N<=900)(e:wN r=some (c,z))(hr:eO J m g run c inc (LV 400))(n:¬mq c)(h:Hw J m g n0 run (L+400) (N+1) k z):Hw J m g n0 run L N (k+1) (91::r):=λacc ha=>by
 unfold dz
 rw[ad8 ⋯,ad9 rfl]
 refine jH e (aR (G3 hr n) λo=>?_)
 cases o with
 | none=>exact(DK ha hL hN).pre λs h=>h.1
 | some v =>
  by_cases hv:v.length<=400
  .exact(h _ (ha.add hv)).pre λs h=>h.1
  .exact λs hs=>absurd (hs.2 v rfl) hv
let TX(hw:pU w cW=some .subst)(ht:92∉t/\58∉t/\t.length<=900)(h:Hw J m g n0 run 0 0 1000 t):Ns J m g n0 (bF J n0 g 1) (b7 J.E run [w,t]) λv s=>bF J n0 g 1 s/\v.length<=2000:=by
 exists jx hw rfl rfl
 rw[ad8 (by intro z; cases z)]
 exact bW (λ_ _=>ht) ((h [] #[abW 0,abW 0]).pre λs h=>h.weak (adp n0))
let Ns.at(h:Ns J m g n0 A f Q)(hs:A s):Ns J m g n0 (λs'=>s'=s) f Q:=h.pre λs' e=>e▸hs
let Za:cN J m g run [tw [112,117,116],tw [97],[.text [120],.var [98]]] 0 (LV 2000):=aW ⋯ λn0 s hs=>by
 have#[l,h1,h2]:=hs.vb.sm [98] ⋯
 have:=hs.sp
 exact#[_,.cons (.text _ ⋯) (.cons (.text _ ⋯) (.cons (.both h1 (by show 1+_<=_; omega)) .nil)),J3 (by rfl) hs (λc hc=>#[by decide,(λz=>by cases z),λ_=>by show l.length+1<=c; omega]) (by show l.length+1<=2000; omega)]
let Mp:cN J m g run [tw [112,117,116],tw [110],tw [50]] 0 (LV 2000):=aW ⋯ λn0 s hs =>
 #[_,.cons (.text _ ⋯) (.cons (.text _ ⋯) (.cons (.text _ ⋯) .nil)),J3 (by rfl) hs (λc hc=>#[by decide,(λ_=>by decide),λz=>absurd z ⋯]) cC]
let Rd{ws:List (List Part)}(hl:ws.length<=100)(h:∀ n0 s,bF J n0 g 1 s->∃ ls,WV s.vars ws ls/\ls.length<=2/\tot ls<=1000):cN J m g run (tw [115,97,121]::ws) 0 (LV 2000):=aW (by rw[aaE]; omega) λn0 s hs=>by
 have#[ls,h1,h2,h3]:=h n0 s hs
 refine#[_,.cons (.text _ ⋯) h1,((JW (by rfl) ⋯ #[by omega,by omega]).at hs).mono λv s k=>#[k.1.weak (adp n0),?_]]
 rw[k.2]
 have j:=jR [44] ls
 unfold tot at h3
 show([60]++bJ [44] ls++[62]:LN).length<=2000
 simp only[aaG,aaE,acT]at j ⊢
 omega
let MF(hx:x∈[[97],[98],[118]]):cN J m g run [tw [115,97,121],[.var x]] 0 (LV 2000):=Rd cC λn0 s hs=>by
 have#[l,h1,h2]:=hs.Ni.sm x hx
 exact#[_,.cons (.var h1 ∎) .nil,cC,by show l.length+0<=_; omega]
let V3:cN J m g run [tw [115,97,121],[.var [110]]] 0 (LV 2000):=Rd ⋯ λn0 s hs=>by
 have#[l,h1,h2]:=hs.vb.n
 have:∀ l∈kh,l.length<=1:=by decide
 have:=this l h2
 exact#[_,.cons (.var h1 ∎) .nil,cC,by show l.length+0<=_; omega]
let Ms{l:LN}(hl:l.length=1):cN J m g run [tw [115,97,121],tw l] 1 λv=>v=[60]++l++[62]:=aW cC λn0 s hs =>
 #[_,.cons (.text _ ⋯) (.cons (.text _ ∎) .nil),((JW (by rfl) ⋯ #[by show l.length+0<=_; omega,cC]).at hs).mono λv s k=>#[k.1,k.2]]
let M9:cN J m g run [tw [100,101,97,114]] 0 (LV 400):=aW ⋯ λn0 s hs=>#[_,.cons (.text _ ⋯) .nil,Xb.at hs]
let Ug(hb:b<6){V:LN->Prop}:cN J m g run [tw [98,97,100],tw (wd b)] 0 V:=aW cC λn0 s hs=>by
 refine#[_,.cons (.text _ ⋯) (.cons (.text _ cC) .nil),?_]
 rcases b with _ | _ | _ | _ | _ | _ | b
 any_goals omega
 all_goals exact(ZZ (by rfl) (by rfl) ⋯).at hs
let ab3{V:LN->Prop}:cN J m g run [tw [122,122],tw [113]] 0 V:=aW ⋯ λn0 s hs=>#[_,.cons (.text _ ⋯) (.cons (.text _ ⋯) .nil),(Xv (by rfl) ⋯).at hs]
let Wv{V:LN->Prop}:cN J m g run [tw [99,111,110,116,105,110,117,101]] 0 V:=aW ⋯ λn0 s hs=>#[_,.cons (.text _ ⋯) .nil,(M5 (.inr #[by rfl,rfl])).at hs]
let Zu{V:LN->Prop}:cN J m g run [tw [98,114,101,97,107]] 0 V:=aW ⋯ λn0 s hs=>#[_,.cons (.text _ ⋯) .nil,(M5 (.inl #[by rfl,rfl])).at hs]
open Mo in show _
have YM(c:Cm):List (List (List Part)):=(cmQ c).map (·.2)
have Qp(p:LN)(w:List (List Part))(last:Bool):Bool:=match aJ wN false p with
 | some (some q)=>decide (q.ws=w)&&(q.z.isEmpty&&(last || !(cG q.e).isEmpty))
 | _=>false
let mU(h:Qp p w l=true):Last p w:=by
 unfold Qp at h
 show 2
 .rename_i q e
  simp only[acV,decide_eq_true_eq]at h
  exact#[q,e,h.1,List.isEmpty_iff.mp h.2.1]
 .cases h
let mO(h:Qp p w false=true):Ends p w:=by
 unfold Qp at h
 show 2
 .rename_i q e
  simp only[acV,decide_eq_true_eq,Bool.false_or,Bool.not_eq_true',List.isEmpty_eq_false_iff]at h
  exact#[q,e,h.1,List.isEmpty_iff.mp h.2.1,h.2.2]
 .cases h
have HN(pre tm:LN)(last:Bool):List (LN×List (List Part))->Bool
 | []=>false
 | [(p,w)]=>Qp (pre++p++tm) w last
 | (p,w)::r=>Qp (pre++p) w false&&HN [] tm last r
let sX(k:Chain r wss):∀{ps:List (LN×List (List Part))} {pre:LN},HN pre tm false ps=true->Chain (pre++(ps.map (·.1)).flatten++tm++r) (ps.map (·.2)++wss)
 | [],pre,h=>by cases h
 | [(p,w)],pre,h=>by
  have:=(mO h).chain k
  simpa using this
 | (p,w)::q::ps,pre,h=>by
  simp only[HN,acV]at h
  have:=(mO h.1).chain (sX k h.2)
  simpa [ad5]using this
let O6:∀{pre:LN},HN pre [] true ps=true->Chain (pre++(ps.map (·.1)).flatten) (ps.map (·.2)):=by
 induction ps with
 | nil=>intro pre h; cases h
 | cons p ps ih =>
  intro pre h
  cases ps with
  | nil =>
   have:=(mU h).chain
   simpa using this
  | cons q r =>
   simp only[HN,acV]at h
   have:=(mO h.1).chain (ih h.2)
   simpa [ad5]using this
have acP(k:Nat)(c:Cm):Bool:=HN [] (qd k) false (cmQ c)&&(HN (pW k) (qd k) false (cmQ c)&&HN (pW k) [] true (cmQ c))
let WT:((List.range 4).all λk=>(jX k).all (acP k))=true:=⋯
let Pn(hk:k<4){a b c:Cm}(ha:a∈jX k)(hb:b∈jX k)(hc:c∈jX k):Chain (mG k a b c) (YM a++(YM b++YM c)):=by
 have q:=ac4.mp WT k (ad3.mpr hk)
 have g:=ac4.mp q
 have h1:=g a ha; have h2:=g b hb; have h3:=g c hc
 simp only[acP,acV]at h1 h2 h3
 have:=sX (sX (O6 h3.2.2) h2.2.1) h1.1
 simpa [mG,gQ,YM,ad5]using this
open Mo in show ∀{J:JE}{n0 g d m k:Nat}{s:cj}{run:bY},_
have KK:Nat->Nat
 | 3=>2000
 | 2=>14000
 | 1=>98000
 | _=>700000
have txt(J:JE)(j:Nat):LN:=J.tx[j]?.getD []
have ZD(J:JE)(k:Nat):Prop:=∀ j,k<j->j<4->(TxF (txt J j)/\J.tx[j]? = some (txt J j))/\(∃ wss,Chain (txt J j) wss/\wss.length<=20/\∀ ws∈wss,∀ g,3*(4-j)<=g+1->g<14->cN J (600*g+250) g (runM J.E g) ws 0 (LV (KK j)))
let TxF.tok(h:TxF t):tH t:=#[λz=>h.ok.1 (.tail _ z),λz=>h.ok.2.1 (.tail _ z),by have:=h.ok.2.2; rw[aaE]at this; omega]
let j7(h:ZD J k){j:Nat}(h1:k<j)(h2:j<4)(hg:3*(4-j)<=g)(hg2:g<15):eO J (600*g) g (runM J.E g) (txt J j) 0 (LV (KK j))/\eO J (600*g) g (runM J.E g) (32::txt J j) 0 (LV (KK j)):=by
 have#[#[t,_],wss,hc,hn,hw]:=h j h1 h2
 obtain⟨g,rfl⟩:∃ i,g=i+1:=#[g-1,by omega]
 have hl:=t.len
 exact#[nC t.tok ∎ hc ∎ ∎ λws z=>hw ws z g hg ∎,nC t.ok (by rw[aaE]; omega) hc.blank ∎ ∎ λws z=>hw ws z g hg ∎]
let qC(h:k<j)(h2:j<4):6*KK j+12<=KK k/\KK j<=100000:=by
 rcases j with _ | _ | _ | _ | j
 .omega
 .rcases k with _ | k
  .decide
  .omega
 .rcases k with _ | _ | k
  any_goals omega
  all_goals decide
 .rcases k with _ | _ | _ | k
  any_goals omega
  all_goals decide
 .omega
let uU(k):2000<=KK k:=by
 unfold KK
 split <;> decide
let VB.sj{tx:aX}(h:VB tx c vs)(h1:0<j)(h2:j<4):val vs (115::wd j)=some (tx[j]?.getD [])/\val vs (116::wd j)=some (32::tx[j]?.getD []):=h.st j h2 h1
let yp(h:a≠32):¬mq (a::l):=λz=>by
 have:=z
 injection this with h1
 exact h h1
open Mo in show ∀{J:JE}{n0 g d m k:Nat}{s:cj}{run:bY}(H:ZD J k){j:Nat}(h1:k<j)(h2:j<4)(hg:3*(4-k)<=g+1)(hg2:g<14),H h1 h2 hg hg2
let Q6:cN J (600*g+250) g (runM J.E g) [tw [99,97,116,99,104],[.var (115::wd j)],tw [114],tw [111]] 0 (LV (KK k)):=aW cC λn0 s hs=>by
 have t:=(H j h1 h2).1.1
 have hl:=t.len
 exact#[_,.cons (.text _ ⋯) (.cons (.var (hs.vb.sj ∎ h2).1 (by unfold txt at hl; omega)) (.cons (.text _ ⋯) (.cons (.text _ ⋯) .nil))),((Ox (by rfl) ∎ (j7 H h1 h2 ∎ ∎).1 t.nb ⋯ ⋯).at hs).mono λv s z=>#[z.1,aaC z.2 (aaC ⋯ (uU k))]]
let KY:cN J (600*g+250) g (runM J.E g) [tw [102,111,114,101,97,99,104],tw [118],tw [49,32,50,32,51],[.var (116::wd j)]] 0 (LV (KK k)):=aW cC λn0 s hs=>by
 have hl:=(H j h1 h2).1.1.len
 refine#[_,.cons (.text _ ⋯) (.cons (.text _ ⋯) (.cons (.text _ ⋯) (.cons (.var (hs.vb.sj ∎ h2).2 (by rw[aaE]; unfold txt at hl; omega)) .nil))),?_]
 exact((LR (by rfl) rfl ⋯ (names:=[[118]]) (values:=[[49],[50],[51]]) ⋯ ⋯ ⋯ ⋯ ⋯ ⋯ (qC h1 h2).2 ((j7 H h1 h2 ∎ ∎).2.big ∎) (show mq (32::_)from rfl)).at hs).mono λv s z=>#[z.1,aaC z.2 (qC h1 h2).1]
let Wg:cN J (600*g+250) g (runM J.E g) [tw [108,109,97,112],tw [118,32,119],tw [49,32,50,32,51],[.var (116::wd j)]] 0 (LV (KK k)):=aW cC λn0 s hs=>by
 have hl:=(H j h1 h2).1.1.len
 refine#[_,.cons (.text _ ⋯) (.cons (.text _ ⋯) (.cons (.text _ ⋯) (.cons (.var (hs.vb.sj ∎ h2).2 (by rw[aaE]; unfold txt at hl; omega)) .nil))),?_]
 exact((LR (by rfl) rfl ⋯ (names:=[[118],[119]]) (values:=[[49],[50],[51]]) ⋯ ⋯ ⋯ ⋯ ⋯ ⋯ (qC h1 h2).2 ((j7 H h1 h2 ∎ ∎).2.big ∎) (show mq (32::_)from rfl)).at hs).mono λv s z=>#[z.1,aaC z.2 (qC h1 h2).1]
let Sq:cN J (600*g+250) g (runM J.E g) [tw [119,104,105,108,101],tw [110],[.var (116::wd j)]] 0 (LV (KK k)):=aW cC λn0 s hs=>by
 have hl:=(H j h1 h2).1.1.len
 refine#[_,.cons (.text _ ⋯) (.cons (.text _ ⋯) (.cons (.var (hs.vb.sj ∎ h2).2 (by rw[aaE]; unfold txt at hl; omega)) .nil)),?_]
 exact((Vh (by rfl) ((j7 H h1 h2 ∎ ∎).2.big ∎) (show mq (32::_)from rfl)).at hs).mono λv s z=>#[z.1,aaC z.2 (aaC ⋯ (uU k))]
let Nx:cN J (600*g+250) g (runM J.E g) [tw [101,118,97,108],[.var (115::wd j)]] 0 (LV (KK j)):=aW cC λn0 s hs=>by
 have t:=(H j h1 h2).1.1
 have hl:=t.len
 exact#[_,.cons (.text _ ⋯) (.cons (.var (hs.vb.sj ∎ h2).1 (by unfold txt at hl; omega)) .nil),(zg (by rfl) ((j7 H h1 h2 ∎ ∎).1.big ∎) t.nb).at hs]
let Xl:cN J (600*g+250) g (runM J.E g) [tw [112],tw (wd j)] 0 (LV (KK j)):=aW cC λn0 s hs=>by
 have t:=(H j h1 h2).1
 refine#[_,.cons (.text _ ⋯) (.cons (.text _ cC) .nil),?_]
 have e:eX.idxOf (wd j)=j/\wd j∈eX:=by
  rcases j with _ | _ | _ | _ | j
  any_goals omega
  all_goals decide
 exact(Nf (by rfl) e.2 (by rw[e.1]; exact t.2) ∎ (aaC ⋯ (uU j)) (j7 H h1 h2 ∎ ∎).1 t.1.nb).at hs
let YF:cN J (600*g+250) g (runM J.E g) [tw [101,118,97,108],tw [115,97,121,32,113,59],[.var (115::wd j)]] 0 (LV (KK k)):=aW cC λn0 s hs=>by
 have#[#[t,_],wss,hc,hn,hw]:=H j h1 h2
 have hl:=t.len
 have kk:=qC h1 h2
 refine#[_,.cons (.text _ ⋯) (.cons (.text _ ⋯) (.cons (.var (hs.vb.sj ∎ h2).1 (by unfold txt at hl; omega)) .nil)),?_]
 obtain⟨g,rfl⟩:∃ i,g=i+1:=#[g-1,by omega]
 have e:bJ [32] [[115,97,121,32,113,59],txt J j]=[115,97,121,32,113,59]++32::txt J j:=rfl
 have tok:tH ([115,97,121,32,113,59]++32::txt J j):=#[λz=>(ado.mp z).elim ⋯ t.ok.1,λz=>(ado.mp z).elim ⋯ t.ok.2.1,by simp only[aaG,aaE,acT]; omega]
 have r:=nC (J:=J) (g:=g) tok (by simp only[aaG,aaE,acT]; omega) ((mO (w:=[tw [115,97,121],tw [113]]) ⋯).chain hc.blank) (by rw[aaE]; omega) ∎ (λws z=>by
  rcases acR.mp z with rfl | z
  .exact λn0=>(Ms rfl n0).mono λv s q=>#[q.1.weak (adp n0),by rw[q.2]; exact aaC ⋯ (uU k)]
  .exact(hw ws z g ∎ ∎).val λv q=>aaC q ∎)
 exact(Sy (by rfl) #[by decide,t.tr,WY (by show 6+(txt J j).length<=2000000; omega)] e (r.big ∎) (yp ⋯)).at hs
let aaF:eO J (600*(g+1)) (g+1) (runM J.E (g+1)) ([101,118,97,108,32,36,115]++wd j) 0 (LV (KK j)):=by
 have c:∀ j,j<4->Qp ([101,118,97,108,32,36,115]++wd j) [tw [101,118,97,108],[.var (115::wd j)]] true=true/\tH ([101,118,97,108,32,36,115]++wd j):=⋯
 exact Fz (c j h2).2 cC (mU (c j h2).1).chain hg2 (Nx H h1 h2 hg hg2)
open Mo in show ∀{J:JE}{n0 g d m k:Nat}{s:cj}{run:bY},_
let oO{V:LN->Prop}(h:Qp t ws true=true)(ht:tH t/\t.length<=800)(hg:g<14)(c:cN J (600*g+250) g (runM J.E g) ws inc V):eO J (600*(g+1)) (g+1) (runM J.E (g+1)) t inc V:=Fz ht.1 ht.2 (mU h).chain hg c
let VK(hg:g<13):cN J (600*(g+1)+250) (g+1) (runM J.E (g+1)) [tw [112,117,116],tw [98],[.var [98],.cmd [115,97,121,32,107]]] 0 (LV 2000):=λn0 s hs=>by
 have#[l,e1,e2]:=hs.vb.sm [98] ⋯
 have hsp:=hs.sp
 have r:=oO (J:=J) (g:=g) (t:=[115,97,121,32,107]) (ws:=[tw [115,97,121],tw [107]]) ⋯ ⋯ ∎ (Ms rfl)
 have w:=wD (m:=600*(g+1)+250) hs e1 ∎ (r.big ∎) (yp ⋯) (λv z=>by rw[z]; decide)
 have q:Ns J (600*(g+1)+250) (g+1) n0 (λs'=>s'=s) (bnd (gw (runM J.E (g+1)) [tw [112,117,116],tw [98],[.var [98],.cmd [115,97,121,32,107]]]) (b7 J.E (runM J.E (g+1)))) λv s=>bF J n0 (g+1) 1 s/\v.length<=2000:=by
  refine aR (Q:=λls s'=>bF J (s.spent+1) (g+1) 1 s'/\ls=[[112,117,116],[98],l++[60,107,62]]) ?_ λls=>?_
  .exists bW (λ_ _=>cC)
   refine aR (Q:=λa s'=>a=[112,117,116]/\s'=s) (λs' z=>by rw[z,iH (.text _ ⋯)]; exact#[rfl,rfl]) λa=>?_
   refine aR (Q:=λb s'=>a=[112,117,116]/\b=[98]/\s'=s) (λs' z=>by rw[z.2,iH (.text _ ⋯)]; exact#[z.1,rfl,rfl]) λb=>?_
   intro s' #[ea,eb,es]
   subst ea eb
   exact aR w (λv=>bh λs2 z=>by
    have#[z1,u,z2,z3]:=z
    exact#[z1,by rw[z3,z2]; rfl]) s' es
  .intro s' #[z1,z2]
   subst z2
   have:=hs.n0
   refine J3 (by rfl) (z1.weak ∎) (λc hc=>#[by decide,(λz=>by cases z),λ_=>?_]) ?_ s' rfl
   .have:=z1.n0
    simp only[aaG,aaE,acT]; omega
   .simp only[aaG,aaE,acT]; omega
 exact q s rfl
let QL{g b:Nat}(hg:g<13)(hb:b<6):cN J (600*(g+1)+250) (g+1) (runM J.E (g+1)) [tw [115,117,98,115,116],tw ([36,97,91,98,97,100,32]++wd b++[93,32,91,100,101,97,114,93,36,98])] 0 (LV 2000):=aW cC λn0 s hs=>by
 refine#[_,.cons (.text _ ⋯) (.cons (.text _ cC) .nil),?_]
 have c:∀ b,b<6->Qp ([98,97,100,32]++wd b) [tw [98,97,100],tw (wd b)] true=true/\tH ([98,97,100,32]++wd b)/\tH ([36,97,91,98,97,100,32]++wd b++[93,32,91,100,101,97,114,93,36,98]):=⋯
 have c' : ∀ b,b<6->nG ([97,91,98,97,100,32]++wd b++[93,32,91,100,101,97,114,93,36,98])=some ([97],[91,98,97,100,32]++wd b++[93,32,91,100,101,97,114,93,36,98])/\wN ([98,97,100,32]++wd b++[93,32,91,100,101,97,114,93,36,98])=some ([98,97,100,32]++wd b,[32,91,100,101,97,114,93,36,98]):=⋯
 have c6:wN [100,101,97,114,93,36,98]=some ([100,101,97,114],[36,98]):=⋯
 have c7:nG [98]=some ([98],[]):=⋯
 have#[c1,c2,c3]:=c b hb
 have#[c4,c5]:=c' b hb
 have r1:=(oO (J:=J) (g:=g) (V:=LV 400) c1 #[c2,cC] ∎ (Ug hb)).big (m:=600*(g+1)+250) ∎
 have r2:=(oO (J:=J) (g:=g) (t:=[100,101,97,114]) ⋯ ⋯ ∎ M9).big (m:=600*(g+1)+250) ∎
 refine(TX (by rfl) #[c3.1,c3.2.1,cC] ?_).at hs
 refine NQ ⋯ ⋯ c4 ⋯ (Nu ⋯ ⋯ c5 r1 (yp ⋯) (W9 ⋯ (Nu ⋯ ⋯ c6 r2 (yp ⋯) (NQ ⋯ ⋯ c7 ⋯ (Wm ⋯ ⋯)))))
let Xm{g j:Nat}(H:ZD J k)(h1:k<j)(h2:j<4)(hg:3*(4-k)<=g+2)(hg2:g<13):cN J (600*(g+1)+250) (g+1) (runM J.E (g+1)) [tw [115,97,121],[.cmd ([101,118,97,108,32,36,115]++wd j)],[.cmd [115,97,121,32,36,97]]] 0 (LV (KK k)):=λn0=>by
 have kk:=qC h1 h2
 have r1:eO J (600*(g+1)) (g+1) (runM J.E (g+1)) ([101,118,97,108,32,36,115]++wd j) 0 (LV (KK j)):=by
  have c:∀ j,j<4->Qp ([101,118,97,108,32,36,115]++wd j) [tw [101,118,97,108],[.var (115::wd j)]] true=true/\tH ([101,118,97,108,32,36,115]++wd j):=by decide +kernel
  exists Fz (c j h2).2 cC (mU (c j h2).1).chain ∎
  refine aW cC λn0 s hs=>?_
  have t:=(H j h1 h2).1.1
  have hl:=t.len
  exact#[_,.cons (.text _ ⋯) (.cons (.var (hs.vb.sj ∎ h2).1 (by unfold txt at hl; omega)) .nil),(zg (by rfl) ((j7 H h1 h2 ∎ ∎).1.big ∎) t.nb).at hs]
 have r2:=oO (J:=J) (g:=g) (t:=[115,97,121,32,36,97]) (ws:=[tw [115,97,121],[.var [97]]]) ⋯ ⋯ ∎ (MF ⋯)
 refine aR (Q:=λls s=>bF J n0 (g+1) 1 s/\∃ u v,ls=[[115,97,121],u,v]/\u.length<=KK j/\v.length<=2000) (bW (λ_ _=>cC) ?_) λls=>?_
 .refine aR (Q:=λa s=>a=[115,97,121]/\bF J n0 (g+1) 1 s) (λs z=>by rw[iH (.text _ ⋯)]; exact#[rfl,z]) λa=>?_
  by_cases ha:a=[115,97,121]
  case neg=>exact λs z=>absurd z.1 ha
  subst ha
  refine aR (((mH (r1.big ∎) (yp ⋯) λv z=>aaC z ∎).pre λs z=>z.2)) λu=>?_
  by_cases hu:u.length<=KK j
  case neg=>exact λs z=>absurd z.2 hu
  refine aR (((mH (r2.big ∎) (yp ⋯) λv z=>aaC z ∎).pre λs z=>z.1)) λv=>bh λs z=>#[z.1,u,v,rfl,hu,z.2]
 .intro s #[hs,u,v,e,hu,hv]
  subst e
  have f:wM [u,v]:=WY ∎
  refine(((JW (by rfl) ⋯ f).at hs).mono λ_ s z=>#[z.1.weak (adp n0),?_]) s rfl
  rw[z.2]
  show([60]++(u++[44]++v)++[62]:LN).length<=KK k
  have:=uU j
  simp only[aaG,aaE,acT]; omega
let O4{g j o:Nat}(H:ZD J k)(h1:k<j)(h2:j<4)(h3:k<o)(h4:o<4)(hg:3*(4-k)<=g+2)(hg2:g<13):cN J (600*(g+1)+250) (g+1) (runM J.E (g+1)) [tw [99,97,116,99,104],tw ([101,118,97,108,32,36,115]++wd j++[59,112,32]++wd o)] 0 (LV (KK k)):=aW cC λn0 s hs=>by
 refine#[_,.cons (.text _ ⋯) (.cons (.text _ cC) .nil),?_]
 have c:∀ j,j<4->∀ o,o<4->Qp ([101,118,97,108,32,36,115]++wd j++[59]) [tw [101,118,97,108],[.var (115::wd j)]] false=true/\Qp ([112,32]++wd o) [tw [112],tw (wd o)] true=true/\tH ([101,118,97,108,32,36,115]++wd j++[59,112,32]++wd o):=⋯
 have#[c1,c2,c3]:=c j h2 o h4
 have kj:=qC h1 h2
 have ko:=qC h3 h4
 have r:=nC (J:=J) (g:=g) c3 cC ((mO c1).chain (mU c2).chain) (Nat.lt_of_succ_le cC) ∎ (λws z=>by
  rcases acR.mp z with rfl | z
  .refine aW cC λn0 s hs=>?_
   have t:=(H j h1 h2).1.1
   have hl:=t.len
   exact#[_,.cons (.text _ ⋯) (.cons (.var (hs.vb.sj ∎ h2).1 (by unfold txt at hl; omega)) .nil),((zg (by rfl) ((j7 H h1 h2 ∎ ∎).1.big ∎) t.nb).at hs).mono λv s z=>#[z.1,aaC z.2 kj.2]]
  .rw[adk.mp z]
   refine aW cC λn0 s hs=>?_
   have t:=(H o h3 h4).1
   refine#[_,.cons (.text _ ⋯) (.cons (.text _ cC) .nil),?_]
   have e:eX.idxOf (wd o)=o/\wd o∈eX:=by
    rcases o with _ | _ | _ | _ | o
    any_goals omega
    all_goals decide
   exact((Nf (by rfl) e.2 (by rw[e.1]; exact t.2) ∎ (aaC ⋯ (uU o)) (j7 H h3 h4 ∎ ∎).1 t.1.nb).at hs).mono λv s z=>#[z.1,aaC z.2 ko.2])
 exact((Pg (by rfl) ∎ r (yp ⋯)).at hs).mono λv s z=>#[z.1,aaC z.2 (aaC ⋯ (uU k))]
let Kg(H:ZD J k)(hk:k<4)(hc:c∈jX k)(hg:3*(4-k)<=g+1)(hg2:g<14):∀ ws∈YM c,cN J (600*g+250) g (runM J.E g) ws 0 (LV (KK k)):=by
 have#[i,a,b]:=c
 have ok:∀ k,k<4->∀ c∈jX k,(c.1∈[1,2,3,4,5,7,10,11,15]->k<c.2.1/\c.2.1<4)/\(c.1=15->k<c.2.2/\c.2.2<4)/\(c.1∈[6,8]->c.2.1<6):=⋯
 have#[o1,o2,o3]:=ok k hk _ hc
 dsimp only at o1 o2 o3
 have big:∀{ws K},K<=KK k->cN J (600*g+250) g (runM J.E g) ws 0 (LV K)->cN J (600*g+250) g (runM J.E g) ws 0 (LV (KK k)):=λh c=>c.val λv z=>aaC z h
 have kg:=uU k
 have le:∀{j},k<j->j<4->KK j<=KK k:=λh1 h2=>by have:=(qC h1 h2).1; omega
 obtain⟨g',rfl⟩:∃ j,g=j+1:=#[g-1,by omega]
 intro ws hw
 have one:∀{w:List (List Part)} {p:LN},ws∈[(p,w)].map (·.2)->cN J (600*(g'+1)+250) (g'+1) (runM J.E (g'+1)) w 0 (LV (KK k))->cN J (600*(g'+1)+250) (g'+1) (runM J.E (g'+1)) ws 0 (LV (KK k)):=λh c=>by
  rw[adk.mp h]; exact c
 match i,o1,o2,o3,hw with
 | 0,o1,o2,o3,hw=>exact one hw (big kg Za)
 | 1,o1,o2,o3,hw=>exact one hw (Q6 H (o1 ⋯).1 (o1 ⋯).2 hg hg2)
 | 2,o1,o2,o3,hw=>exact one hw (KY H (o1 ⋯).1 (o1 ⋯).2 hg hg2)
 | 3,o1,o2,o3,hw=>exact one hw (Sq H (o1 ⋯).1 (o1 ⋯).2 hg hg2)
 | 4,o1,o2,o3,hw=>exact one hw (big (le (o1 ⋯).1 (o1 ⋯).2) (Nx H (o1 ⋯).1 (o1 ⋯).2 hg hg2))
 | 5,o1,o2,o3,hw=>exact one hw (Xm H (o1 ⋯).1 (o1 ⋯).2 hg ∎)
 | 6,o1,o2,o3,hw=>exact one hw (big kg (QL ∎ (o3 ⋯)))
 | 7,o1,o2,o3,hw=>exact one hw (big (le (o1 ⋯).1 (o1 ⋯).2) (Xl H (o1 ⋯).1 (o1 ⋯).2 hg hg2))
 | 8,o1,o2,o3,hw=>exact one hw (Ug (o3 ⋯))
 | 9,o1,o2,o3,hw=>exact one hw (big ∎ M9)
 | 10,o1,o2,o3,hw=>exact one hw (Wg H (o1 ⋯).1 (o1 ⋯).2 hg hg2)
 | 11,o1,o2,o3,hw=>exact one hw (YF H (o1 ⋯).1 (o1 ⋯).2 hg hg2)
 | 12,o1,o2,o3,hw=>exact one hw ab3
 | 13,o1,o2,o3,hw =>
  rcases acR.mp hw with rfl | hw
  .exact big kg Mp
  .exact one hw (big kg V3)
 | 14,o1,o2,o3,hw=>exact one hw Wv
 | 15,o1,o2,o3,hw=>exact one hw (O4 H (o1 ⋯).1 (o1 ⋯).2 (o2 rfl).1 (o2 rfl).2 hg ∎)
 | 16,o1,o2,o3,hw=>exact one hw (big kg (MF ⋯))
 | 17,o1,o2,o3,hw=>exact one hw (big kg (VK ∎))
 | 18,o1,o2,o3,hw=>exact one hw Zu
 | _+19,o1,o2,o3,hw=>exact one hw (big kg Mp)
open Mo in show _
have okT(c:Cm):Bool:=(gQ c).all (λx=>decide (x≠92)&&decide (x≠58))&&(decide ((gQ c).length<=60)&&((match(gQ c).head? with | some a=>!du a | none=>false)&&(match(gQ c).getLast? with | some b=>!du b&&decide (b≠92) | none=>false)))
let Mm:((List.range 4).all λk=>(jX k).all okT)=true:=⋯
let QG(hk:k<4)(ha:a∈jX k)(hb:b∈jX k)(hc:c∈jX k):TxF (mG k a b c):=by
 have g:=ac4.mp (ac4.mp Mm k (ad3.mpr hk))
 have sp:∀ k,k<4->(92∉qd k++pW k/\58∉qd k++pW k)/\(qd k++pW k).length<=10:=by decide
 have#[#[p1,p2],p3]:=sp k hk
 have h1:=g a ha; have h2:=g b hb; have h3:=g c hc
 unfold okT at h1 h2 h3
 simp only[acV,ac4,decide_eq_true_eq]at h1 h2 h3
 have#[a1,a2,a3,a4]:=h1
 have#[b1,b2,b3,b4]:=h2
 have#[c1,c2,c3,c4]:=h3
 have hd:∃ x r,gQ a=x::r/\du x=false:=by
  cases e:gQ a with
  | nil=>rw[e]at a3; cases a3
  | cons x r=>rw[e]at a3; exact#[x,r,rfl,by simpa using a3]
 have#[x,r,ea,hx]:=hd
 have lt:∃ q y,gQ c=q++[y]/\du y=false/\y≠92:=by
  cases e:(gQ c).getLast? with
  | none=>rw[e]at c4; cases c4
  | some y =>
   rw[e]at c4
   simp only[acV,Bool.not_eq_true',decide_eq_true_eq]at c4
   have#[q,hq]:=List.getLast?_eq_some_iff.mp e
   exact#[q,y,hq,c4]
 have#[q,y,ec,hy,hy2]:=lt
 have mem:∀ n,n∉qd k++pW k->(∀ z∈gQ a,z≠n)->(∀ z∈gQ b,z≠n)->(∀ z∈gQ c,z≠n)->n∉mG k a b c:=λn hs k1 k2 k3 z=>by
  unfold mG at z
  simp only[ado]at z hs
  rcases z with(((z | z) | z) | z) | z
  .exact k1 _ z rfl
  .exact hs z
  .exact k2 _ z rfl
  .exact hs z
  .exact k3 _ z rfl
 have len:(mG k a b c).length<=300:=by
  unfold mG
  rw[aaG,aaG,aaG,aaG]
  omega
 have m92:=mem 92 p1 (λz hz=>(a1 z hz).1) (λz hz=>(b1 z hz).1) λz hz=>(c1 z hz).1
 have m58:=mem 58 p2 (λz hz=>(a1 z hz).2) (λz hz=>(b1 z hz).2) λz hz=>(c1 z hz).2
 have e1:mG k a b c=x::(r++(qd k++pW k)++gQ b++(qd k++pW k)++gQ c):=by unfold mG; rw[ea]; simp[ad5]
 have e2:mG k a b c=(gQ a++(qd k++pW k)++gQ b++(qd k++pW k)++q)++[y]:=by unfold mG; rw[ec]; simp[ad5]
 refine#[#[λz=>?_,λz=>?_,by rw[aaE]; omega],λz=>?_,len,?_]
 .cases z with | tail _ z=>exact m92 z
 .cases z with | tail _ z=>exact m58 z
 .rw[e1]at z
  have z1:=z
  injection z1 with z2
  rw[z2]at hx; cases hx
 .have h1:(mG k a b c).head? = some x:=by rw[e1]; rfl
  have h2:(mG k a b c)[(mG k a b c).length-1]? = some y:=by
   rw[← List.getLast?_eq_getElem?,e2,List.getLast?_append]; rfl
  unfold uG
  rw[h1,h2]
  simp[hx,hy,hy2]
let Xa:(List.range 4).all (λk=>(jX k).all λc=>Nat.ble (YM c).length 2)=true:=⋯
let Fj(hk:k<4)(h:c∈jX k):(YM c).length<=2:=Nat.le_of_ble_eq_true (ac4.mp (ac4.mp Xa k (ad3.mpr hk)) c h)
let wU(h:X4 J.tx)(hk:k<4)(H:ZD J k)(P:Prop)(f:(TxF (txt J k)/\J.tx[k]? = some (txt J k))->(∃ wss,Chain (txt J k) wss/\wss.length<=20/\∀ ws∈wss,∀ g,3*(4-k)<=g+1->g<14->cN J (600*g+250) g (runM J.E g) ws 0 (LV (KK k)))->P):P:=by
 have#[a,b,c,ha,hb,hc,e]:=h.all k hk
 have et:txt J k=mG k a b c:=by unfold txt; rw[e]; rfl
 rw[et]at f
 refine f #[QG hk ha hb hc,e] #[_,Pn hk ha hb hc,?_,λws hw g hg hg2=>?_]
 .have:=Fj hk ha; have:=Fj hk hb; have:=Fj hk hc
  rw[aaG,aaG]; omega
 .rcases ado.mp hw with hw | hw
  .exact Kg H hk ha hg hg2 ws hw
  .rcases ado.mp hw with hw | hw
   .exact Kg H hk hb hg hg2 ws hw
   .exact Kg H hk hc hg hg2 ws hw
let Dm(h:X4 J.tx):∀ i k,k+i=3->ZD J k
 | 0,k,e=>λj h1 h2=>absurd h1 ∎
 | i+1,k,e=>λj h1 h2=>by
  have ih:=Dm h i (k+1) ∎
  by_cases q:j=k+1
  .subst q
   exact wU h h2 ih _ λa b=>#[a,b]
  .exact ih j ∎ h2
let aak{tx:aX}:vC E 1 (st0 tx first) :=
 #[(by cases E.fuel <;> rfl),rfl,(λi r h=>by cases h),(λ_ z=>nomatch z),rfl]
let vb0{tx:aX}(hf:first∈kh):VB tx 10 (st0 tx first).vars:=by
 refine#[by show([[97],[98],[110],[118],[115,49],[116,49],[115,50],[116,50],[115,51],[116,51]]:aX).Nodup; decide,by show ∀ x∈([[97],[98],[110],[118],[115,49],[116,49],[115,50],[116,50],[115,51],[116,51]]:aX),x∈NM; decide,λi h1 h2=>?_,λx hx=>?_,#[first,rfl,hf]]
 .rcases i with _ | _ | _ | _ | i
  .omega
  .exact#[rfl,rfl]
  .exact#[rfl,rfl]
  .exact#[rfl,rfl]
  .omega
 .rcases acR.mp hx with rfl | hx
  .exact#[_,rfl,by decide]
  .rcases acR.mp hx with rfl | hx
   .exact#[_,rfl,by decide]
   .rw[adk.mp hx]; exact#[_,rfl,by decide]
have Uc(J:JE):Rs LN->Prop
 | .ok v s=>bF J 0 14 1 s/\v.length<=700000
 | .dJ e s=>bF J 0 14 1 s/\Bd 8400 e
 | .out s=>OS J 14 s
let Ny(hF:J.F<=30)(h:X4 J.tx){first:LN}(hf:first∈kh):∃ r,runM J.E 14 (txt J 0) (st0 J.tx first)=some r/\Uc J r:=by
 have q:eO J (600*(13+1)) (13+1) (runM J.E (13+1)) (txt J 0) 0 (LV (KK 0)):=by
  refine wU h ⋯ (Dm h 3 0 rfl) _ λ#[t,_] #[wss,hc,hn,hw]=>?_
  have hl:=t.len
  exact nC t.tok ∎ hc ∎ ⋯ λws z=>hw ws z 13 ⋯ ⋯
 have nb:=wU h ⋯ (Dm h 3 0 rfl) _ λt _=>t.1.nb
 have k:=q.plain nb 0 (st0 J.tx first) #[aak,hF,rfl,abW 0,vb0 hf]
 revert k
 rcases runM J.E 14 (txt J 0) (st0 J.tx first)with _ | (⟨a,s'⟩ | ⟨e,s'⟩ | s')
 .exact λz=>z.elim
 .exact λz=>#[_,rfl,z.1,z.2]
 .exact λz=>#[_,rfl,z.1,z.2]
 .exact λz=>#[_,rfl,z]
let Ng{tx:aX}(h:X4 tx)(hf:first∈kh)(hF:f<=30):∃ r1 r2,runM #[some 30,tx] 14 (tx[0]?.getD []) (st0 tx first)=some r1/\runM #[some f,tx] 14 (tx[0]?.getD []) (st0 tx first)=some r2/\Uc #[30,tx] r1/\Uc #[f,tx] r2/\s8 #[some 30,tx] 1 (st0 tx first) r1/\Ay f (st0 tx first) r1 r2:=by
 have#[r1,e1,k1]:=Ny (J:=#[30,tx]) (abW 30) h hf
 have#[r2,e2,k2]:=Ny (J:=#[f,tx]) hF h hf
 have nb:=wU h ⋯ (Dm (J:=#[30,tx]) h 3 0 rfl) _ λt _=>t.1.nb
 have c:=(Hb (tx:=tx) hF 14).plain nb
 exact#[r1,r2,e1,e2,k1,k2,c.fin _ _ aak e1,c.cut _ _ _ aak e1 e2]
let aa9{tx:aX}(hd:s.depth=0)(hr:room s)(hz:s.rounds.length<=900) :
  runM #[none,tx] 14 [115,97,121,32,113] s=some (.ok [60,113,62] { (gA [[115,97,121],[113]] { s with spent:=s.spent+1,depth:=1 })with depth:=0 }):=by
 have c:aJ wN false [115,97,121,32,113]=some (some #[[tw [115,97,121],tw [113]],[115,97,121,32,113],[],[]]):=by
  have:(match aJ wN false [115,97,121,32,113]with | some (some q)=>decide (q.ws=[tw [115,97,121],tw [113]])&&(decide (q.b=[115,97,121,32,113])&&(q.e.isEmpty&&q.z.isEmpty)) | _=>false)=true:=by decide +kernel
  split at this
  .rename_i q e
   have#[w,b,x,z]:=q
   simp only[acV,decide_eq_true_eq,List.isEmpty_iff]at this
   have#[h1,h2,h3,h4]:=this
   subst h1 h2 h3 h4
   exact e
  .cases this
 have tok:tH [115,97,121,32,113]:=by decide
 have w:∀(run:bY) (s:cj),gw run [tw [115,97,121],tw [113]] s=some (.ok [[115,97,121],[113]] s):=λrun s=>by
  unfold gw bnd eE
  rw[ad9 ⋯]
  exact uR (.cons (.text _ ⋯) (.cons (.text _ ⋯) .nil)) []
 have b:∀(run:bY) (s:cj),room s->b7 #[none,tx] run [[115,97,121],[113]] s=some (.ok [60,113,62] (gA [[115,97,121],[113]] { s with spent:=s.spent+1 })):=λrun s hr=>by
  unfold b7
  rw[yc]
  show bnd (bnd (mz #[none,tx] [[115,97,121],[113]]) λ_=>je (RD [[115,97,121],[113]])) (λg=>bk run g) s=_
  rw[dD]
  have e:bnd (je (RD [[115,97,121],[113]])) (bk run)=RD [[115,97,121],[113]]:=jV _ run
  rw[e]
  unfold bnd mz
  rw[ad8 (by simp[over]),ad9 hr]
  show 1
  show(bnd (eE (wM [[113]])) λ_=>Mo.ret ([60]++bJ [44] [[113]]++[62])) _=_
  unfold bnd eE
  rw[ad9 ⋯]
  rfl
 show bnd (λs=>if s.depth<40/\s.rounds.length<=900 then some (.ok () { s with depth:=s.depth+1 })else none) (λ_=>zE (d8 #[none,tx] (runM #[none,tx] 13) [115,97,121,32,113])) s=_
 unfold bnd
 show 1
 rw[ad9 #[by omega,hz]]
 show 1
 unfold zE
 have l:d8 #[none,tx] (runM #[none,tx] 13) [115,97,121,32,113] { s with depth:=s.depth+1 }=some (.ok [60,113,62] (gA [[115,97,121],[113]] { s with spent:=s.spent+1,depth:=1 })):=by
  unfold d8
  rw[ad8 ⋯]
  unfold qy
  show bnd (eE (tH [115,97,121,32,113])) (λ_=>bnd (opt (aJ wN false [115,97,121,32,113])) _) _=_
  unfold bnd eE
  rw[ad9 tok]
  show 1
  rw[c]
  show bnd (uW #[none,tx] _ _ _) (λv=>ik #[none,tx] _ _ 899 [] v) _=_
  unfold bnd uW jG bnd
  rw[w]
  show 1
  rw[b _ { s with depth:=s.depth+1 } #[hr.1,hr.2],hd]
  rfl
 rw[l]
 rfl
have lX(D:bc)(q:Str)(f:Addr)(cd:Value)(cl:List (Str×Addr)):Fc:=#[q,D.scope,f,cd,cl]
let jA:∀{names:List (Str×NameKind)} {n:Nat} {acc:List (Str×Addr)},(acc.lookup x).isSome=true->((cellsFrom n names acc).lookup x).isSome=true
 | [],_,_,h=>h
 | (y,k)::r,n,acc,h=>by
  unfold cellsFrom
  split
  .exists jA
   rw[acY]
   split
   .rfl
   .exact h
  .exact jA h
let eN:∀{names:List (Str×NameKind)} {n:Nat} {acc:List (Str×Addr)},names.lookup x=some .cell->((cellsFrom n names acc).lookup x).isSome=true
 | [],_,_,h=>by cases h
 | (y,k)::r,n,acc,h=>by
  unfold cellsFrom
  rw[acY]at h
  cases e:x==y with
  | true =>
   rw[e]at h
   cases h
   rw[ad9 (by rfl)]
   exists jA
   rw[acY,e]; rfl
  | false =>
   rw[e]at h
   split
   .exact eN h
   .exact eN h
let Cz:∀{ps:List Str} {xs:List Value} {m:Str->Option Value},x∉ps->bindL k (ps.zip xs) m x=m x
 | [],_,_,_=>rfl
 | _::_,[],_,_=>rfl
 | p::ps,y::xs,m,h=>by
  rw[adG]
  unfold bindL
  rw[Cz (λq=>h (.tail _ q))]
  split
  .exact ad8 (λz:x=p=>h (by rw[z]; exact .head _))
  .rfl
let sO:∀{ps:List Str} {xs:List Value} {m:Str->Option Value},x∉ps->bindC k (ps.zip xs) m x=m x
 | [],_,_,_=>rfl
 | _::_,[],_,_=>rfl
 | p::ps,y::xs,m,h=>by
  rw[adG]
  unfold bindC
  rw[sO (λq=>h (.tail _ q))]
  split
  .rfl
  .exact ad8 (λz:x=p=>h (by rw[z]; exact .head _))
let Ma:∀{ps:List Str} {vs:List V} {xs:List Value} {m cm:Str->Option Value},ps.Nodup->ps.length=vs.length->aV g vs xs->∀ x v,lk x (ps.zip vs)=some v ->
  ∃ y,Rep g v y/\(k x=some .local->bindL k (ps.zip xs) m x=some y)/\(k x≠some .local->bindC k (ps.zip xs) cm x=some y)
 | [],vs,xs,m,cm,_,_,_,x,v,h=>by cases h
 | p::ps,[],xs,m,cm,_,hl,_,x,v,h=>by cases hl
 | p::ps,w::vs,_,m,cm,hn,hl,.cons (x:=y) ry r,x,v,h=>by
  have#[n1,n2]:=adm.mp hn
  rw[adG]at h
  unfold lk at h
  rw[adG]
  unfold bindL bindC
  by_cases e:x=p
  .rw[ad9 e]at h
   cases h
   subst e
   refine#[y,ry,λq=>?_,λq=>?_]
   .rw[Cz n1,ad9 q,ad9 rfl]
   .rw[sO n1,ad8 q,ad9 rfl]
  .rw[ad8 e]at h
   exact Ma n2 (by simpa using hl) r x v h
open Mo in show ∀{T:Tp}{c:Cx}{X:Addr->Ψ}{U:Sg}{Q:V->Ψ},_
have lB(g:G)(h:Heap)(L:Addr)(cs:List (Str×Addr))(mL:Str->Option Value):G:=λa =>
 if a=L then .frame mL else if a∈cs.map (·.2)then(match h.get? a with | some o=>(match o.data with | .cell (some _)=>.imm o | _=>.own o) | none=>.free)else g a
let qm{v:α}(h:l.lookup x=some v):lk x l=some v:=by rw[← dq]; exact h
let zT(hf:(f,q,D,none)∈gh)(hp:oN D ps)(hsc:qH D ps=true)(hn:ps.Nodup)(hl:ps.length=vs.length)(h:∀ cd cl A L l g ut wy,Run T #[n,hd] (lX D q f cd cl) (ps.zip vs) U A L l ut wy->bG g ut->g L = .free->(∀ x cc,cl.lookup x=some cc->g cc = .free/\cc≠L/\(x∉ps->∃ o,ut cc = .own o/\o.data = .cell none))->(∀ x,D.scope.names.lookup x=some .cell->(cl.lookup x).isSome=true) ->
   wpAny T.M A (execs D.body ((lX D q f cd cl).env L)) (λfl s' => ∃ g' U',Le g g'/\T.Si g' s'/\View U' g'/\match fl with | .ret v=>(∃ x,Rep g' x v/\Q x U') | .next=>Q .none U' | _=>False)
    (λv s' => ∃ g' U' e,v = .ref e/\Le g g'/\T.Si g' s'/\View U' g'/\(∃ C d,g' e = .cell (.exc C d))/\qM A #[n,hd] g' ((lX D q f cd cl).env L::l)/\X e U') wy) :
  gR T #[n+1,hd] (.ref f) vs Q X U:=by
 intro g s A l fv args vw si aok rf ra
 cases rf
 have#[oc,od,pm,an,cdv,ct,kV,doc,osl,hK,hcd]:=T.fn_ok f q D none hf
 simp only[qH,acV,beq_iff_eq,Bool.not_eq_true',ac4,Bool.or_eq_true]at hsc
 have#[#[#[hk,hco],hge],hloc]:=hsc
 have#[p1,p2,p3,p4,p5]:=hp
 have hKs:=si.K T.inK
 refine(codeAny_call_cells (by have:=aok.depth; dsimp only at this; omega) (hKs _ _ hK) rfl (T.nolimit.keeps si.base') (codeRec_of hKs hcd) rfl
  (zP p1 p2 p3 p4 p5 hn (by rw[ra.length]; exact hl) rfl) rfl (λx hx=>?_) (λwy hin=>?_) hco hge hk)
 .rcases hloc _ (List.of_mem_zip hx).1 with z | z
  .exact .inl z
  .exact .inr #[z,eN z]
 let L:=s.heap.objs.size
 let cs:=cellsFrom (L+1) D.scope.names []
 let mL:=bindL (callEnvC (fnOf D.name q D.params D.body D.scope .none kV doc pm an cdv ct) L f).kindOf (ps.zip args) λ_=>none
 let cm:=bindC (callEnvC (fnOf D.name q D.params D.body D.scope .none kV doc pm an cdv ct) L f).kindOf (ps.zip args) λ_=>none
 replace hin:InCallC s L mL cs cm wy:=hin
 have#[vm,tk,rfl,kp]:=hin.done
 let ut:=lB g vm L cs mL
 have fr:=si.ok.fresh
 have frc:∀ a,L<=a->g a = .free:=λa ha=>si.ok.Ke ha
 have cLt:∀ a,a∈cs.map (·.2)->L<a:=λa ha=>by
  have#[#[x,a'],hp,rfl]:=adw.mp ha
  exact hin.above _ _ hp
 have gL:ut L = .frame mL:=ad9 rfl
 have gO:∀ a,g a ≠ .free->ut a=g a:=λa ha=>by
  show lB g vm L cs mL a=g a
  unfold lB
  rw[ad8 (λz=>ha (by rw[z]; exact fr)),ad8 (λz=>ha (frc a (Nat.le_of_lt (cLt a z))))]
 have sm:bG g ut:=#[#[λa o e=>by rw[gO a (by rw[e]; intro z; cases z)]; exact e,λa o e=>by rw[gO a (by rw[e]; intro z; cases z)]; exact e,λa o e=>by rw[gO a (by rw[e]; intro z; cases z)]; exact e,λa C d e=>#[d,by rw[gO a (by rw[e]; intro z; cases z)]; exact e],λa o e=>by rw[gO a (by rw[e]; intro z; cases z)]; exact e],λa cc e=>by rw[gO a (by rw[e]; intro z; cases z)]; exact e]
 have noTb:∀ b,Tr ut b->Tr g b:=λb #[t,ht]=>by
  replace ht:lB g vm L cs mL t = .tb b:=ht
  unfold lB at ht
  split at ht
  .cases ht
  .split at ht
   .split at ht
    .split at ht <;> cases ht
    .cases ht
   .exact#[t,ht]
 have ok1:gf T.w.params ut vm:=by
  intro b
  by_cases e:b=L
  .subst e; rw[gL]; exact hin.toInCall.ns
  .show cz T.w.params ut vm b (lB g vm L cs mL b)
   unfold lB
   rw[ad8 e]
   split
   .split
    .rename_i o ho
     split
     .exact ho
     .exact ho
    .trivial
   .exact(si.ok b).keep 0 (sm.toLe.toL 0) (noTb b) λo z=>kp b o z
 have cellAt:∀ x cc,cs.lookup x=some cc->∃ o,vm.get? cc=some o/\o.data = .cell (cm x)/\ut cc=(match cm x with | some _=>.imm o | none=>.own o):=λx cc hx=>by
  have#[o,ho,hd']:=hin.cell x cc hx
  refine#[o,ho,hd',?_]
  have hm:cc∈cs.map (·.2):=adw.mpr #[(x,cc),mem_of_lookup hx,rfl]
  show lB g vm L cs mL cc=_
  unfold lB
  rw[ad8 (Nat.ne_of_gt (cLt cc hm)),ad9 hm]
  rw[ho]
  show 1
  rw[hd']
  cases cm x <;> rfl
 have R:Run T #[n,hd] (lX D q f cdv cs) (ps.zip vs) U (A.deeper ((lX D q f cdv cs).env L)) L l ut { s with heap:=vm,toks:=tk }:=by
  refine#[sm.view vw,Si.at si sm.imm ok1,?_,#[mL,gL,λx v e=>?_],hk]
  .have a':=aok.le sm.toLe
   refine#[by have:=aok.depth; show A.depth+1+n<_; dsimp only at this; omega,by have:=aok.units; show A.units+3+10*n+70<_; dsimp only at this; omega,aok.hand,a'.hexc,by show A.frames.map _=_; rw[aok.frames]; rfl,?_]
   intro env he
   rcases acR.mp he with rfl | he
   .exact#[by show D.scope.kind ≠ .module; rw[hk]; decide,L,_,rfl,gL]
   .exact a'.fr env he
  .have#[y,r1,r2,r3]:=Ma hn hl ra x v e
   refine#[y,?_,r1.mono sm.imm]
   have hxm:x∈ps:=by
    have:∀(ps:List Str) (vs:List V),lk x (ps.zip vs)=some v->x∈ps:=by
     intro ps
     induction ps with
     | nil=>intro vs h; cases h
     | cons p ps ih =>
      intro vs h
      cases vs with
      | nil=>cases h
      | cons w vs =>
       rw[adG]at h
       unfold lk at h
       by_cases z:x=p
       .rw[z]; exact .head _
       .rw[ad8 z]at h; exact .tail _ (ih vs h)
    exact this ps vs e
   have hkx:(callEnvC (fnOf D.name q D.params D.body D.scope .none kV doc pm an cdv ct) L f).kindOf x=D.scope.names.lookup x:=rfl
   rcases hloc x hxm with z | z
   .rw[Fc.DP _ (qm z)]
    exact r2 (hkx.trans z)
   .have hh:=r3 (by rw[hkx,z]; decide)
    have#[cc,hcc]:=Option.isSome_iff_exists.mp (eN z)
    have#[o,ho,hd',hg]:=cellAt x cc hcc
    replace hh:cm x=some y:=hh
    unfold Fc.see
    rw[show lk x (lX D q f cdv cs).sc.names=some .cell from qm z]
    show 1
    rw[show(lX D q f cdv cs).cl.lookup x=some cc from hcc]
    show 1
    unfold CK
    rw[hg,hh]
    show 1
    rw[hd',hh]
 have own:∀ x cc,cs.lookup x=some cc->g cc = .free/\cc≠L/\(x∉ps->∃ o,ut cc = .own o/\o.data = .cell none):=λx cc hx=>by
  have hm:cc∈cs.map (·.2):=adw.mpr #[(x,cc),mem_of_lookup hx,rfl]
  refine#[frc cc (Nat.le_of_lt (cLt cc hm)),Nat.ne_of_gt (cLt cc hm),λhx' => ?_]
  have#[o,ho,hd',hg]:=cellAt x cc hx
  have e:cm x=none:=sO hx'
  rw[e]at hd' hg
  exact#[o,hg,hd']
 refine aaz (h cdv cs _ L l g ut _ R sm fr own (λx hx=>eN hx)) (λfl s' hf' => ?_) (λv s' hx=>?_)
 .have#[g',U',le,si',vw',r]:=hf'
  cases fl with
  | next=>exact#[g',.none,U',le,si',vw',.none,r]
  | brk=>exact r.elim
  | cont=>exact r.elim
  | ret v=>have#[x,h1,h2]:=r; exact#[g',x,U',le,si',vw',h1,h2]
 .have#[g',U',e,rfl,le,si',vw',#[C,d,he],tG,hX]:=hx
  refine pL si' tG rfl he λg'' s'' sm' si'' => ?_
  exact#[g'',e,U',rfl,le.trans sm'.toLe,si'',sm'.view vw',#[C,d,sm'.cell _ _ he],hX]
let Ho(k)(K:Ra D ps b)(hf:(f,q,D,none)∈gh)(hl:ps.length=vs.length)(h:∀ F,gD F->bw F->wSs T F b #[n,hd] (vs.map some++List.replicate k none) (PP.fn Q X) U):gR T #[n+1,hd] (.ref f) vs Q X U:=by
 refine zT hf K.plain K.scope K.nodup hl λcd cl A L l g ut wy R sm fr own has=>?_
 have qq:=eG (F:=lX D q f cd cl) K.nd K.nb b K.Dc (h _ K.nd K.nb)
 have e:toLm (names (lX D q f cd cl)) (vs.map some++List.replicate k none)=ps.zip vs:=by
  have h0:∀(nm:xj) (vs:List V),toLm nm (vs.map some++List.replicate k none)=toLm nm (vs.map some):=by
   intro nm vs
   induction vs generalizing nm with
   | nil =>
    have:∀(k:Nat) (nm:xj),toLm nm (List.replicate k none)=[]:=by
     intro k
     induction k with
     | zero=>intro nm; cases nm <;> rfl
     | succ k ih=>intro nm; cases nm with
      | nil=>rfl
      | cons a nm=>exact ih nm
    rw[List.map_nil,List.nil_append,this]
    cases nm <;> rfl
   | cons v vs ih=>cases nm with
    | nil=>rfl
    | cons a nm=>have#[x,kk]:=a; show(x,v)::toLm nm _=(x,v)::toLm nm _; exact congrArg _ (ih nm)
  rw[h0]
  show toLm D.scope.names (vs.map some)=_
  rw[toLm_zip,iJ,← hl,K.pre]
 rw[e]at qq
 have back:∀{g':G},gU L ut g'->Le g g':=λ{g'} k=>#[λa o e=>k.imm a o (sm.imm a o e),λa mm e=>k.frame a mm (λz=>by rw[z,fr]at e; cases e) (sm.frame a mm e),λa e' e=>k.tb a e' (sm.tb a e' e),λa C d e=>k.exc a C d (sm.cell _ _ e),λa o e=>k.own a o (sm.own a o e)]
 refine aaz (qq A L l ut wy R) (λfl s' hf' => ?_) (λv s' hx=>?_)
 .have#[g',m',U',a,r]:=hf'
  cases fl with
  | next=>have#[_,_,U'',h1,h2]:=r; exact#[g',U'',back a.le,a.si,λx c e=>a.view x c (h1 x c e),h2]
  | brk=>have#[_,_,z]:=r; exact z.elim
  | cont=>have#[_,_,z]:=r; exact z.elim
  | ret v=>have#[x,h0,_,_,U'',h1,h2]:=r; exact#[g',U'',back a.le,a.si,λx c e=>a.view x c (h1 x c e),x,h0,h2]
 .have#[g',m',U',e,rfl,a,hE,_,_,U'',h1,h2]:=hx
  exact#[g',U'',e,rfl,back a.le,a.si,λx c q=>a.view x c (h1 x c q),hE,(R.Dy a).aok,h2]
open Mo in show _
have adf(l:List Expr)(f:Expr->Bool):Bool:=match l with
 | t::r=>r.isEmpty&&f t
 | []=>false
have Fe(sc:Scope)(z:Stmt):Bool:=if q:z.ctorIdx=5 then Stmt.Assign.elim z q λts e _=>adf ts λt=>if q:t.ctorIdx=23 then Expr.Name.elim t q λt p1=>if q:e.ctorIdx=8 then Expr.ListComp.elim e q λ_ _ s p2=>(sc.names.lookup t==some .local)&&(p1.line==p2.line && !(s.names.any λq=>q.1==t&&(q.2 == .local||q.2 == .cell)))else false else false else false
open Mo in show ∀{T:Tp}{c:Cx}{F:Fc}{m:Lm}{X:Addr->Ψ}{U:Sg}{A:Around}{L:Addr}{l:List Hv}{g:G}{s:Shared},_
let gU.qT(k:gU L g g')(hgC:g C = .free):gU L g (g'.set C .free):=by
 have ne:∀ a sl,g a=sl->sl ≠ .free->a≠C:=λa sl h1 h2 z=>h2 (by rw[← h1,z]; exact hgC)
 exact#[λa o z=>by rw[G.aa _ _ (ne a _ z (by intro w; cases w))]; exact k.imm a o z,λa o n z=>by rw[G.aa _ _ (ne a _ z (by intro w; cases w))]; exact k.frame a o n z,
    λa o z=>by rw[G.aa _ _ (ne a _ z (by intro w; cases w))]; exact k.tb a o z,λa D' d z=>by have#[d',w]:=k.exc a D' d z; exact#[d',by rw[G.aa _ _ (ne a _ z (by intro w; cases w))]; exact w],λa o z=>by rw[G.aa _ _ (ne a _ z (by intro w; cases w))]; exact k.own a o z]
let Qa(nd:gD F)(nb:bw F)(hsw:Fe F.sc z=true)(hc:ak (vP z λts e=>dg ts λt=>aU t λy=>aK (jF y (rZ (names F) k)) (QK (names F) (.emp i j) e)))(y1:rd O i=some (.ref a))(y2:rd O j=some nv)(y3:c.hd=none)(y4:U a=some (.list [u,v]))(h:∀ y,rZ (names F) k=some y->∀ r,bD U r->∀ D,bD (U.set r (.list [])) D->P.nxt (up y (.ref D) (toLm (names F) O)) ((U.set r (.list [])).set D (.list []))):vQ T c F z (toLm (names F) O) P U:=by
 apply ak.vP z (C:=λz=>Fe F.sc z=true->vQ T c F z (toLm (names F) O) P U) hc (λts e p hc=>?_) hsw
 apply ak.dg ts hc λt hc=>?_
 apply ak.aU t hc λy p1 hc=>?_
 intro hsw A L l g s R
 have#[h1,h2]:=hc.aK
 have hy:=ak.jF h1
 have#[elt,it,w,f,p',d0,p2,pos,scope,rfl,e1,e2,e3,e4,e5,e6]:=Df nd nb e h2
 have hsw':(F.sc.names.lookup y==some .local)=true/\((p1.line==pos.line)=true/\(!(scope.names.any λq=>q.1==y&&(q.2 == .local||q.2 == .cell)))=true):=by
  have this:((F.sc.names.lookup y==some .local)&&(p1.line==pos.line && !(scope.names.any λq=>q.1==y&&(q.2 == .local||q.2 == .cell))))=true:=hsw
  simp only[acV]at this
  exact this
 have#[s1,s2,s3]:=hsw'
 have hkL:(F.env L).kindOf y=some .local:=by
  have:=cD nd (dX hy)
  rw[← dq]at this
  exact this
 have sw:swapsWith (.ListComp elt [#[.Name w p2,it,[],0]] scope pos) (some (.Name y p1)) p.line (F.env L)=pure true:=by
  have q1:((F.env L).blockKind == .function)=true:=by
   have:(F.env L).scope.kind = .function:=R.kind
   unfold Env.blockKind
   rw[this]; rfl
  show(pure (_&&_&&_&&_):Sem Bool)=pure true
  have q4:(p1.line==(Expr.ListComp elt [#[.Name w p2,it,[],0]] scope pos).pos.line)=true:=s2
  rw[q1,hkL,q4,s3]; rfl
 rw[exec_Assign_Name_used _ _ _ _ sw]
 refine aaw (adF (aaw ?_))
 refine aaw (aaz (Nj (Q':=λ_ s'=>PF T F L g P .next s') (K:=λr U' => ∀ D,bD U' D->P.nxt (up y (.ref D) (toLm (names F) O)) (U'.set D (.list []))) e1 e2 e3 (cD nd e4) (by rw[gC nd e4,y2]) (λx=>e5 _ x) y3 (e6 y1 y4 (h y hy)) R ?_) (λ_ s' hq=>aax (aax hq)) λ_ _ x=>x.toY R λe U' q=>q)
 intro a1 xb ut wy le1 ua kk D C g' h' tk mC fD hgC gY hCf ok' vw'
 have R':Run T c F (toLm (names F) O) (xb.set D (.list [])) A L l g' { wy with heap:=h',toks:=tk }:=ua.le gY (Si.at ua.si gY.imm ok') vw'
 refine oE R' (.ref D) (P:=λm'=>P.nxt m' (xb.set D (.list []))) #[cD nd (dX hy),kk D fD] λuv x0 m3 ug vo=>?_
 have#[mL,hL,_]:=ua.fr
 have hCL:C≠L:=λz=>by rw[z,hL]at hgC; cases hgC
 have hC3:=ug.le.frame C mC hCL hCf
 have nsC:x0.heap.Ns C mC:=by have:=ug.si.ok C; rw[hC3]at this; exact this
 refine#[mC,nsC,λh'' hsb=>?_]
 have ki:∀ a o,uv a = .imm o->(uv.set C .free) a = .imm o:=λa o z=>by rw[G.aa _ _ (λq=>by rw[q,hC3]at z; cases z)]; exact z
 refine#[uv.set C .free,m3,_,#[(le1.toL L).trans (gU.qT ((gY.toL L).trans ug.le) hgC),Si.at ug.si ki (ug.si.ok.qT hC3 λb o n q=>hsb.extBut b o n q),ug.view.qT hC3,?_],vo]
 have#[mc,f1,f2]:=ug.fr
 exact#[mc,by rw[G.aa _ _ (Ne.symm hCL)]; exact f1,(f2.mono ki).imp (F.iM ki)]
open Mo in show _
let JX:Ra fn_af6 ["host"] b_af6:=#[#[rfl,rfl,rfl,rfl,rfl],by decide +kernel,by decide +kernel,by decide +kernel,by decide +kernel,rfl,pF (by kernel_rfl) (by kernel_rfl)]
let vR:Ra fn_aeQ ["texts","first","fuel","whole","whole_log","whole_told"] b_aeQ:=#[#[rfl,rfl,rfl,rfl,rfl],by decide +kernel,by decide +kernel,by decide +kernel,by decide +kernel,rfl,pF (by kernel_rfl) (by kernel_rfl)]
open Mo in show ∀{T:Tp}{c:Cx}{X:Addr->Ψ}{U:Sg}{Q:V->Ψ}{n:Nat}{E:Hv}{H:HC}{w:Wo}{s:cj},_
let Gh:∀{l:List Vr} {q:List (Addr×Addr×Addr)} {i:Nat},q.length=l.length->i<l.length->∃ v p,l[i]? = some v/\q[i]? = some p/\(cB l q)[i]? = some (Cs v.name,.ref p.1)/\(p.1,Cell.inst 473 p.2.1)∈dI l q/\(p.2.1,Cell.dict (Gu v p.2.2))∈dI l q
 | [],_,_,_,h=>absurd h (Nat.not_lt_zero _)
 | v::l,p::q,0,_,_=>#[v,p,rfl,rfl,rfl,.head _,.tail _ (.head _)]
 | v::l,p::q,i+1,hl,hi=>by
  have#[u,r,h1,h2,h3,h4,h5]:=Gh (Nat.succ.inj hl) (Nat.lt_of_succ_lt_succ hi)
  exact#[u,r,h1,h2,h3,.tail _ (.tail _ h4),.tail _ (.tail _ h5)]
let Ie:∀{l:List Vr} {q:List (Addr×Addr×Addr)} {i:Nat} {v:Vr} {p:Addr×Addr×Addr},(l.map Vr.name).Nodup->l[i]? = some v->q[i]? = some p->lk (Cs v.name) (cB l q)=some (.ref p.1)
 | [],_,_,_,_,_,h,_=>by cases h
 | v::l,[],_,_,_,_,_,h=>by cases h
 | v::l,p::q,0,_,_,_,h1,h2=>by
  cases h1; cases h2
  unfold cB lk
  rw[ad9 rfl]
 | v::l,p::q,i+1,u,r,hn,h1,h2=>by
  have#[n1,n2]:=adm.mp hn
  unfold cB lk
  rw[ad8 (λz=>n1 (by rw[← RK.mp z]; exact adw.mpr #[u,aaQ h1,rfl]))]
  exact Ie n2 h1 h2
let rD:∀{l:List Vr} {q:List (Addr×Addr×Addr)},q.length=l.length->(cB l q).length=l.length
 | [],q,_=>by cases q <;> rfl
 | v::l,[],h=>by cases h
 | v::l,p::q,h=>congrArg Nat.succ (rD (Nat.succ.inj h))
let lK(I:Inv E H w s U)(h1:s.vars.length<=900)(h2:∀ v∈s.vars,v.name.length<=900)(k:∀ a,bD U a->Q (.ref a) (U.set a (.list (bZ s.vars)))):aj T #[n+1,none] (.ref 930) [.ref H.h] Q X U:=by
 refine(Ho 0 JX (fm 112) rfl λF nd nb=>?_).call
 unfold b_af6
 show 7
 have hl:=rD I.lv
 have fct:=λp hp=>I.fs p (by unfold facts; exact .tail _ (.tail _ (.tail _ (.tail _ (.tail _ (.tail _ (.tail _ (.tail _ (.tail _ (ad4 _ hp))))))))))
 refine#[H.h,H.vars,cB s.vars w.va,λi=>(s.vars[i]?).elim [] Vr.name,λi=>(w.va[i]?).elim 0 (·.1),λ_=>.str scalar,λi=>.str ((s.vars[i]?).elim [] Vr.val),λi=>.int (((s.vars[i]?).elim 0 Vr.wr:Nat):Int),rfl,rfl,Ea I rfl,I.nO,by omega,λi hi=>?_,λa fa=>?_]
 .rw[hl]at hi
  have#[v,p,e1,e2,e3,e4,e5]:=Gh I.lv hi
  simp only[e1,e2,Option.elim_some]
  have f4:=fct _ e4
  have f5:=fct _ e5
  refine#[cM (aaC (h2 v (aaQ e1)) ⋯),e3,λ_=>uA I.nO (Ie I.nm e1 e2) rfl,fG f4 f5 ⋯ rfl rfl rfl,fG f4 f5 ⋯ rfl rfl rfl,fG f4 f5 ⋯ rfl rfl rfl]
 .have e:((List.range (cB s.vars w.va).length).map λi=>V.tup [.str ((s.vars[i]?).elim [] Vr.name),.str scalar,.str ((s.vars[i]?).elim [] Vr.val),.int (((s.vars[i]?).elim 0 Vr.wr:Nat):Int)])=bZ s.vars:=by
   rw[hl]
   unfold bZ
   refine List.ext_getElem? λi=>?_
   rw[acZ,acZ]
   rcases Nat.lt_or_ge i s.vars.length with z | z
   .rw[List.getElem?_range z,aa1 z]
    simp[aa1 z]
   .rw[adM (by simpa using z),adM z]; rfl
  rw[e]
  exact fn_agI (k a fa)
have J5(i:Nat):Stmt:=(fn_aeY.body)[i]?.getD (.Pass #[0,0,0,0])
let V4:fn_aeY.body=[J5 0,J5 1,J5 2,J5 3]:=by kernel_rfl
have XN(i:Nat):PS:=match i,b_aeY with
 | 0,.cons s _=>s
 | 1,.cons _ (.cons s _)=>s
 | 2,.cons _ (.cons _ (.cons s _))=>s
 | 3,.cons _ (.cons _ (.cons _ (.cons s _)))=>s
 | _,_=>.pas
have saE:PE:=match XN 1 with | .asg _ e=>e | _=>.bad
let abx:ak (Zb fn_aeY.scope (XN 0) (J5 0)):=pF (by kernel_rfl) (by kernel_rfl)
let aaM:ak (vP (J5 1) λts e=>dg ts λt=>aU t λy=>au (jo e) (aK (jF y (Zn fn_aeY.scope.names 2)) (cF fn_aeY.scope.names saE e))):=pF (by kernel_rfl) (by kernel_rfl)
let acJ:ak (vP (J5 2) λts e=>dg ts λt=>aU t λy=>aK (jF y (rZ fn_aeY.scope.names 3)) (QK fn_aeY.scope.names (.emp 1 2) e)):=pF (by kernel_rfl) (by kernel_rfl)
let abl:Fe fn_aeY.scope (J5 2)=true:=by kernel_rfl
let aba:ak (dH fn_aeY.scope (.cons (XN 3) .nil) [J5 3]):=pF (by kernel_rfl) (by kernel_rfl)
let Qy:oN fn_aeY ["host","words"]:=#[rfl,rfl,rfl,rfl,rfl]
let Ru:qH fn_aeY ["host","words"]=true:=⋯
let abQ:(fn_aeY.scope.names.map (·.1)).Nodup:=⋯
let abi:∀ p∈fn_aeY.scope.names,(p.1==("__debug__":Str))=false:=⋯
let aa7:(fn_aeY.scope.names.map (·.1)).take 2=[Str.ofString "host",Str.ofString "words"]:=⋯
let Run.Yd(R:Run T c F m' U A L l g s')(h:bI m m'):Run T c F m U A L l g s' :=
 #[R.view,R.si,R.aok,let#[mc,h1,h2]:=R.fr; #[mc,h1,λx v e=>h2 x v (h x v e)],R.kind]
let R9:∃ y p1 e p,J5 1 = .Assign [.Name y p1] e p/\jo e=true/\Zn fn_aeY.scope.names 2=some y/\ak (cF fn_aeY.scope.names saE e):=by
 have hc:=aaM
 revert hc
 generalize J5 1=z
 intro hc
 apply ak.vP z hc; intro ts e p hc
 apply ak.dg ts hc; intro t hc
 apply ak.aU t hc; intro y p1 hc
 have#[h1,h2]:=hc.au
 exact#[y,p1,e,p,rfl,h1,ak.jF h2.aK.1,h2.aK.2]
have Hs:V:=.tup [.str [45,110,111,98,97,99,107,115,108,97,115,104,101,115],.str [45,110,111,99,111,109,109,97,110,100,115],.str [45,110,111,118,97,114,105,97,98,108,101,115]]
let zr(ha:U a=some (.list (sV [w0,t])))(k:∀ U',aO U U'->aj T #[n,none] (.ref 892) [.ref h,.str t,.bool true,.bool true,.bool true] Q X U'):aj T #[n+1,none] (.ref 897) [.ref h,.ref a] Q X U:=by
 refine(zT (fm 107) Qy Ru ⋯ rfl λcd cl A L l g ut wy R sm fr own has=>?_).call
 rw[V4]
 have F0:(lX fn_aeY ("subst_action") 897 cd cl).sc=fn_aeY.scope:=rfl
 have F1:(lX fn_aeY ("subst_action") 897 cd cl).cl=cl:=rfl
 generalize hF:lX fn_aeY ("subst_action") 897 cd cl=F at R F0 F1 ⊢
 have hnm:names F=fn_aeY.scope.names:=by unfold names; rw[F0]
 have nd:gD F:=by unfold gD; rw[F0]; exact abQ
 have nb:bw F:=by unfold bw; rw[F0]; exact abi
 have e0:toLm (names F) [some (.ref h),some (.ref a)]=[Str.ofString "host",Str.ofString "words"].zip [.ref h,.ref a]:=by
  rw[hnm,show([some (.ref h),some (.ref a)]:cZ)=[V.ref h,V.ref a].map some from rfl,toLm_zip,iJ]
  rw[show([V.ref h,V.ref a]:List V).length=2 from rfl,aa7]
 rw[← e0]at R
 have q0:=ab5 nd nb (XN 0) (P:=#[λO U'=>O=[some (.ref h),some (.ref a)]/\U'=U,λ_ _ _=>False,λ_ _=>False,λ_ _=>False,λ_ _ _=>False]) (by rw[F0]; exact abx) (by
  unfold XN b_aeY
  show 7
  change aQ ha
  change ao (aaA (show ¬((2:Int)<2) by decide))
  exact#[rfl,rfl]) A L l ut wy R
 refine wpAny_execs_cons (aaz q0 (λf s hf=>?_) λv s hx=>by have#[_,_,_,_,_,_,_,_,_,z]:=hx; exact z.elim)
 have#[g2,m2,U2,a2,r2]:=hf
 cases f with
 | brk=>have#[_,_,z]:=r2; exact z.elim
 | cont=>have#[_,_,z]:=r2; exact z.elim
 | ret v=>have#[_,_,_,_,z]:=r2; exact z.elim
 | next =>
 have#[O2,hm2,rfl,rfl]:=r2
 show 1
 have R2:=(R.Dy a2).Yd hm2
 have#[y,p1,e,p,es,hce,hy,he]:=R9
 have hyc:y="names":=by
  have h1:=qG hy
  rw[show fn_aeY.scope.names[2]? = some (Str.ofString "names",NameKind.cell) by decide +kernel]at h1
  injection h1 with h1; injection h1 with h1; exact h1.symm
 have hyn:(names F)[2]? = some (y,.cell):=by rw[hnm]; exact qG hy
 have hlk:=cD nd hyn
 have#[cc,hcc]:=Option.isSome_iff_exists.mp (has y (by rw[← F0,dq]; exact hlk))
 have#[fcc,nL,hown]:=own y cc hcc
 have#[oc,ho1,ho2]:=hown (by rw[hyc]; decide +kernel)
 have k1:=(sm.toLe.toL L).trans a2.le
 rw[es]
 refine wpAny_execs_cons (wpAny_Assign_stores ?_ (show swapsWith e (some (.Name y p1)) p.line (F.env L)=pure false from rH hce) (M8 (by unfold La Yc isTup; rfl)))
 rw[HY (by rfl)]
 have q1:=cA (T:=T) (c:=#[n,none]) nd nb saE (O:=[some (.ref h),some (.ref a)]) (Q:=λv U'=>v=Hs/\U'=U2) (X:=λ_ _=>False) (by rw[hnm]; exact he) (by
  unfold saE XN b_aeY
  show 7
  exact#[rfl,rfl])
 refine aaz (q1.bind R2 (P:=λv wy=>wpAny T.M A (assign (.Name y p1) (F.env L) v) (λ_ s'=>wpAny T.M A (execs [J5 2,J5 3] (F.env L)) (λfl s' => ∃ g' U',Le g g'/\T.Si g' s'/\View U' g'/\match fl with | .ret v=>(∃ x,Rep g' x v/\Q x U') | .next=>Q .none U' | _=>False)
    (λv s' => ∃ g' U' e,v = .ref e/\Le g g'/\T.Si g' s'/\View U' g'/\(∃ C d,g' e = .cell (.exc C d))/\qM A #[n,none] g' (F.env L::l)/\X e U') s') (λv s' => ∃ g' U' e,v = .ref e/\Le g g'/\T.Si g' s'/\View U' g'/\(∃ C d,g' e = .cell (.exc C d))/\qM A #[n,none] g' (F.env L::l)/\X e U') wy) λv s3 g3 av U3 le3 R3 rv q3=>?_) (λ_ _ x=>x) λ_ _ x=>by have#[_,_,_,_,_,_,_,_,z]:=x; exact z.elim
 have#[rfl,rfl]:=q3
 have k3:=k1.trans (le3.toL L)
 have ho3:=le3.own _ _ (a2.le.own _ _ ho1)
 have hc3:s3.heap.get? cc=some oc:=by have:=R3.si.ok cc; rw[ho3]at this; exact this
 rw[PySem.assign_Name]
 refine aaw (adF (wpAny_bindName (wpAny_storeName_cell R3.kind ((dq y F.sc.names).trans hlk) (show F.cl.lookup y=some cc by rw[F1]; exact hcc) #[oc,hc3,ho2] λh4 hcell hsb=>?_)))
 have#[o4,h41,h42]:=hcell
 have R4:=R3.dY (n:=s3.toks) (o' := .imm o4) (h':=h4) ho3 hsb.extBut (by intro _ z; cases z) h41
 have k4:gU L g (g3.set cc (.imm o4)):=k3.dY fcc
 have rv4:Rep (g3.set cc (.imm o4)) Hs v:=rv.mono λb o z=>gW ho3 z (by intro o q; cases q)
 have R5:Run T #[n,none] F (up y Hs (toLm (names F) [some (.ref h),some (.ref a)])) U3 A L l (g3.set cc (.imm o4)) { s3 with heap:=h4,toks:=s3.toks }:=by
  refine#[R4.view,R4.si,R4.aok,?_,R4.kind]
  have#[mc,h1,h2]:=R4.fr
  refine#[mc,h1,λx u e=>?_]
  by_cases q:x=y
  .subst q
   rw[jb]at e
   cases e
   refine#[v,?_,rv4]
   unfold Fc.see
   rw[hlk]
   show 1
   rw[F1,hcc]
   show 1
   unfold CK
   rw[G.set_same]
   show(match o4.data with | .cell v=>v | _=>none)=some v
   rw[h42]
  .rw[qJ _ q]at e
   exact h2 x u e
 have R6:=R5.Yd (m7 nd hyn (bI.refl _))
 have q6:dU T #[n,none] F [J5 2,J5 3] (toLm (names F) [some (.ref h),some (.ref a),some Hs]) ((PP.fn Q X).up (names F)) U3:=by
  refine Np (Qa nd nb (by rw[F0]; exact abl) (by rw[hnm]; exact acJ) rfl rfl rfl ha λy3 hy3 r fr D fD=>?_)
  have s1:aO U3 (U3.set r (.list [])):=(aO.refl U3).turn fr.no
  have s2:aO (U3.set r (.list [])) ((U3.set r (.list [])).set D (.list [])):=(aO.refl _).turn fD.no
  have hD:((U3.set r (.list [])).set D (.list [])) D=some (.list []):=aq
  have ha2:=s2 _ _ (s1 _ _ ha)
  have s3:aO U3 ((U3.set r (.list [])).set D (.list [])):=λb cc q=>s2 _ _ (s1 _ _ q)
  generalize (U3.set r (.list [])).set D (.list [])=U4 at hD ha2 s3 ⊢
  refine dU.at (eG nd nb (.cons (XN 3) .nil) (by rw[F0]; exact aba) ?_) (m7 nd (dX hy3) (bI.refl _))
  unfold XN b_aeY Hs
  show 7
  change LC (vs:=[.str w0]) ha2
  change Kq hD
  change Kq hD
  change Kq hD
  refine(k U4 s3).gj (λv U' z=>?_) (λe U' z=>?_)
  .show 7
   exact fn_agI z
  .show 7
   exact fn_agL z
 refine aaz (q6 A L l _ _ R6) (λfl s' hf' => ?_) (λv s' hx=>?_)
 .have#[g',m',U',a6,r]:=hf'
  have le6:=(k4.trans a6.le).toLe λm q=>by rw[fr]at q; cases q
  cases fl with
  | next=>have#[_,_,U'',h1,h2]:=r; exact#[g',U'',le6,a6.si,λx c e=>a6.view x c (h1 x c e),h2]
  | brk=>have#[_,_,z]:=r; exact z.elim
  | cont=>have#[_,_,z]:=r; exact z.elim
  | ret v=>have#[x,h0,_,_,U'',h1,h2]:=r; exact#[g',U'',le6,a6.si,λx c e=>a6.view x c (h1 x c e),x,h0,h2]
 .have#[g',m',U',e,rfl,a6,hE,_,_,U'',h1,h2]:=hx
  exact#[g',U'',e,rfl,(k4.trans a6.le).toLe (λm q=>by rw[fr]at q; cases q),a6.si,λx c q=>a6.view x c (h1 x c q),hE,(R6.Dy a6).aok,h2]
let cmp(T):Vi T:=#[λI h1 h2 k=>lK I h1 h2 k,λha k=>zr ha k]
open Mo in show ∀{T:Tp}{c:Cx}{X:Addr->Ψ}{U:Sg}{Q:V->Ψ}{n:Nat}{hd:Option Addr},_
have BZ:List Int:=[1,5,98,3,39,136,22,9,0,2,3,1,7,12,30,1]
have jC(is:List Int)(p:Nat):Int:=(is[p]?).getD (BZ[p]?.getD 0)
let lA(ha:Bf T a (iV is))(hz:is.length<=1000)(hp:p<16)(k:Q (.int (jC is p)) U):aj T #[n+1,hd] (.ref 904) [.ref a,.int p] Q X U:=by
 exists 1,Dp,108,b_afg
 intro d fd
 have hd2:(U.set d (.list (iV BZ))) d=some (.list (iV BZ)):=aq
 have s2:aO U (U.set d (.list (iV BZ))):=(aO.refl U).turn fd.no
 show wSs _ _ _ _ _ _ (U.set d (.list (iV BZ)))
 generalize U.set d (.list (iV BZ))=U2 at hd2 s2 ⊢
 show 7
 change Q5 ha
 rw[show(iV is).length=is.length from ac0 ..]
 by_cases c:p<is.length
 .change aD (aaB ∎)
  change adq ha (v:=.int (jC is p)) (by unfold jC; rw[acZ,aa1 c]; rfl)
  exact#[U,s2,k]
 .change ao (aaA ∎)
  refine pQ hd2 (v:=.int (jC is p)) (by
   unfold jC
   rw[acZ,adM (by omega:is.length<=p)]
   rcases p with _ | _ | _ | _ | _ | _ | _ | _ | _ | _ | _ | _ | _ | _ | _ | _ | p
   any_goals rfl
   omega) ?_
  show 7
  exact#[U,s2,k]
have HH(k i o p b:Nat):Cm:=if i=6∨i=8 then(i,b,0)else if i=15 then(i,k+1+o,k+1+p)else if i∈[1,2,3,4,5,7,10,11]then(i,k+1+o,0)else(i,0,0)
have Hn(k:Nat)(num:Int):Cm:=HH k (num%16).toNat ((num/16)%(3-(k:Int))).toNat ((num/48)%(3-(k:Int))).toNat ((num/16)%6).toNat
let pP:∀ j,j<10->dec j=wd j:=⋯
let Ou:((List.range 3).all λk=>(List.range 16).all λi=>(List.range (3-k)).all λo=>(List.range (3-k)).all λp=>(List.range 6).all λb=>decide (HH k i o p b∈jX k))=true:=⋯
let PJ(hk:k<3)(hi:i<16)(ho:o<3-k)(hp:p<3-k)(hb:b<6):HH k i o p b∈jX k:=by
 have a:=ac4.mp Ou k (ad3.mpr hk)
 have a:=ac4.mp a i (ad3.mpr hi)
 have a:=ac4.mp a o (ad3.mpr ho)
 have a:=ac4.mp a p (ad3.mpr hp)
 exact aaD (ac4.mp a b (ad3.mpr hb))
let dB(a){m:Nat}(h:0<m):∃ r:Nat,a%(m:Int)=r/\r<m:=by
 have h1:=Int.emod_nonneg a (show(m:Int)≠0 by omega)
 have h2:=Int.emod_lt_of_pos a (show(0:Int)<m by omega)
 exact#[(a%m).toNat,by omega,by omega]
let aZ{Q:V->Prop}(h:a.length<=100/\b.length<=100)(k:Q (.str (a++b))):gJ .Add (.str a) (.str b) Q:=bf (cM ∎) k
have BV(u v x:LN):List V:=[.str [112,117,116,32,97,32,120,36,98],.str ([99,97,116,99,104,32,36,115]++u++[32,114,32,111]),.str ([102,111,114,101,97,99,104,32,118,32,123,49,32,50,32,51,125,32,36,116]++u),.str ([119,104,105,108,101,32,110,32,36,116]++u),.str ([101,118,97,108,32,36,115]++u),.str ([115,97,121,32,91,101,118,97,108,32,36,115]++u++[93,32,91,115,97,121,32,36,97,93]),.str ([115,117,98,115,116,32,123,36,97,91,98,97,100,32]++x++[93,32,91,100,101,97,114,93,36,98,125]),.str ([112,32]++u),.str ([98,97,100,32]++x),.str [100,101,97,114],
 .str ([108,109,97,112,32,123,118,32,119,125,32,123,49,32,50,32,51,125,32,36,116]++u),.str ([101,118,97,108,32,123,115,97,121,32,113,59,125,32,36,115]++u),.str [122,122,32,113],.str [112,117,116,32,110,32,50,59,115,97,121,32,36,110],.str [99,111,110,116,105,110,117,101],.str ([99,97,116,99,104,32,123,101,118,97,108,32,36,115]++u++[59,112,32]++v++[125])]
let TP(k o p b):∀ i,i<16->(BV (wd (k+1+o)) (wd (k+1+p)) (wd b))[i]? = some (.str (gQ (HH k i o p b))):=λi h=>by
 rcases i with _ | _ | _ | _ | _ | _ | _ | _ | _ | _ | _ | _ | _ | _ | _ | _ | i
 any_goals rfl
 omega
let Ka{num:Int}(hk:k<3)(q:Q (.str (gQ (Hn k num))) U):aj T #[n+1,hd] (.ref 911) [.int num,.int k] Q X U:=by
 have#[i,hi,hi2]:=dB num (m:=16) ⋯
 have#[o,ho,ho2]:=dB (num/16) (m:=3-k) ∎
 have#[p,hp,hp2]:=dB (num/48) (m:=3-k) ∎
 have#[b,hb,hb2]:=dB (num/16) (m:=6) ⋯
 have ek:(3:Int)-k=((3-k:Nat):Int):=∎
 have eF:Hn k num=HH k i o p b:=by
  unfold Hn
  rw[ek,show(num%16)=(i:Int)from hi,ho,hp,show(num/16%6)=(b:Int)from hb]; rfl
 rw[eF]at q
 exists 2,KD,109,b_afZ
 change sJ ⋯
 change iR ∎
 rw[ek,ho,show((k:Int)+1+o)=((k+1+o:Nat):Int) by omega]
 exists mj ∎
 rw[pP _ ∎]
 show 7
 change sJ ⋯
 change iR ∎
 rw[ek,hp,show((k:Int)+1+p)=((k+1+p:Nat):Int) by omega]
 exists mj ∎
 rw[pP _ ∎]
 have l1:(wd (k+1+o)).length=1:=rfl
 have l2:(wd (k+1+p)).length=1:=rfl
 show 7
 change aZ (by simp[wd])
 change aZ (by simp[wd])
 change aZ (by simp[wd])
 change aZ (by simp[wd])
 change aZ (by simp[wd])
 change aZ (by simp[wd])
 change aZ (by simp[wd])
 change sJ ⋯
 change iR ⋯
 rw[show num/16%6=(b:Int)from hb]
 exists mj ∎
 rw[pP _ ∎]
 have l3:(wd b).length=1:=rfl
 show 7
 change aZ (by simp[wd])
 change aZ (by simp[wd])
 change aZ (by simp[wd])
 change sJ ⋯
 change iR ⋯
 rw[show num/16%6=(b:Int)from hb]
 exists mj ∎
 rw[pP _ ∎]
 show 7
 change aZ (by simp[wd])
 change aZ (by simp[wd])
 change aZ (by simp[wd])
 change aZ (by simp[wd])
 change aZ (by simp[wd])
 change aZ (by simp[wd])
 change aZ (by simp[wd])
 intro d fd
 have s2:aO U (U.set d (.list (BV (wd (k+1+o)) (wd (k+1+p)) (wd b)))):=(aO.refl U).turn fd.no
 have hd2:(U.set d (.list (BV (wd (k+1+o)) (wd (k+1+p)) (wd b)))) d=some (.list (BV (wd (k+1+o)) (wd (k+1+p)) (wd b))):=aq
 show wE _ _ _ _ _ _ (U.set d (.list (BV (wd (k+1+o)) (wd (k+1+p)) (wd b))))
 generalize U.set d (.list (BV (wd (k+1+o)) (wd (k+1+p)) (wd b)))=U2 at s2 hd2 ⊢
 show 7
 change iR ⋯
 rw[show num%16=(i:Int)from hi]
 change pQ hd2 (TP k o p b i hi2)
 exact#[U,s2,q]
have Mj(i b:Nat):Cm:=([(0,0,0),(16,0,0),(9,0,0),(17,0,0),(8,b,0),(18,0,0),(12,0,0),(19,0,0)]:List Cm)[i]?.getD (0,0,0)
have H8(num:Int):Cm:=Mj (num%8).toNat ((num/8)%6).toNat
let O8:∀ i,i<8->∀ b,b<6->Mj i b∈jX 3:=⋯
have Dd(x:LN):List V:=[.str [112,117,116,32,97,32,120,36,98],.str [115,97,121,32,36,118],.str [100,101,97,114],.str [112,117,116,32,98,32,36,98,91,115,97,121,32,107,93],.str ([98,97,100,32]++x),.str [98,114,101,97,107],.str [122,122,32,113],.str [112,117,116,32,110,32,50]]
let Vd(b):∀ i,i<8->(Dd (wd b))[i]? = some (.str (gQ (Mj i b))):=λi h=>by
 rcases i with _ | _ | _ | _ | _ | _ | _ | _ | i
 any_goals rfl
 omega
let Jl{num:Int}(q:Q (.str (gQ (H8 num))) U):aj T #[n+1,hd] (.ref 918) [.int num] Q X U:=by
 have#[i,hi,hi2]:=dB num (m:=8) ⋯
 have#[b,hb,hb2]:=dB (num/8) (m:=6) ⋯
 have eF:H8 num=Mj i b:=by
  unfold H8
  rw[show(num%8)=(i:Int)from hi,show(num/8%6)=(b:Int)from hb]; rfl
 rw[eF]at q
 exists Js,110,b_af0
 change sJ ⋯
 change iR ⋯
 rw[show num/8%6=(b:Int)from hb]
 exists mj ∎
 rw[pP _ ∎]
 have l3:(wd b).length=1:=rfl
 show 7
 change aZ (by simp[wd])
 intro d fd
 have s2:aO U (U.set d (.list (Dd (wd b)))):=(aO.refl U).turn fd.no
 have hd2:(U.set d (.list (Dd (wd b)))) d=some (.list (Dd (wd b))):=aq
 show wE _ _ _ _ _ _ (U.set d (.list (Dd (wd b))))
 generalize U.set d (.list (Dd (wd b)))=U2 at s2 hd2 ⊢
 show 7
 change iR ⋯
 rw[show num%8=(i:Int)from hi]
 change pQ hd2 (Vd b i hi2)
 exact#[U,s2,q]
have eV(is:List Int)(k t:Nat):Cm:=if k<3 then Hn k (jC is (3*k+t))else H8 (jC is (3*k+t))
have txK(is:List Int)(k:Nat):LN:=mG k (eV is k 0) (eV is k 1) (eV is k 2)
have Vk(is:List Int):aX:=(List.range 4).map (txK is)
let fM(hk:k<4):eV is k t∈jX k:=by
 unfold eV
 split
 .rename_i h
  have#[i,hi,hi2]:=dB (jC is (3*k+t)) (m:=16) ⋯
  have#[o,ho,ho2]:=dB (jC is (3*k+t)/16) (m:=3-k) ∎
  have#[p,hp,hp2]:=dB (jC is (3*k+t)/48) (m:=3-k) ∎
  have#[b,hb,hb2]:=dB (jC is (3*k+t)/16) (m:=6) ⋯
  have ek:(3:Int)-k=((3-k:Nat):Int):=∎
  unfold Hn
  rw[ek,show(jC is (3*k+t)%16)=(i:Int)from hi,ho,hp,show(jC is (3*k+t)/16%6)=(b:Int)from hb]
  exact PJ h hi2 ho2 hp2 hb2
 .have:k=3:=∎
  subst this
  have#[i,hi,hi2]:=dB (jC is (3*3+t)) (m:=8) ⋯
  have#[b,hb,hb2]:=dB (jC is (3*3+t)/8) (m:=6) ⋯
  unfold H8
  rw[show(jC is (3*3+t)%8)=(i:Int)from hi,show(jC is (3*3+t)/8%6)=(b:Int)from hb]
  exact O8 _ hi2 _ hb2
let ZJ(is):X4 (Vk is):=#[λk hk=>#[_,_,_,fM hk,fM hk,fM hk,by unfold Vk; rw[acZ,List.getElem?_range hk]; rfl]]
let Dz(hk:k<4){c:Cm}(hc:c∈jX k):(gQ c).length<=60:=by
 have g:=ac4.mp (ac4.mp Mm k (ad3.mpr hk)) c hc
 unfold okT at g
 simp only[acV,decide_eq_true_eq]at g
 exact g.2.1
have Wh(k:Nat):LN:=[[59],[10],[32,59,35,32,99,10]][k%3]?.getD []
let abB(is)(hk:k<4):bJ (Wh k) [gQ (eV is k 0),gQ (eV is k 1),gQ (eV is k 2)]=txK is k:=by
 have e:∀ k,k<4->Wh k=qd k++pW k:=by decide
 rw[e k hk]
 unfold txK mG
 show gQ _++(qd k++pW k)++(gQ _++(qd k++pW k)++gQ _)=_
 simp only[ad5]
have b_agv:PSs:=match b_ae7 with | .cons _ (.cons (.for _ _ (.cons _ (.cons (.for _ _ b) _))) _)=>b | _=>.nil
let Ow(nd:gD F)(nb:bw F){a d e k:Nat}(hz:is.length<=1000)(hk:k<4)(ha:Bf T a (iV is))(hd:U1 d=some (.list l1))(he:U1 e=some (.list []))(hde:d≠e)(h:∀ U2 v4 v5,U2=U1.set e (.list (sV [gQ (eV is k 0),gQ (eV is k 1),gQ (eV is k 2)]))->P.nxt [some (.ref a),some (.ref d),some (.int k),some (.ref e),v4,v5] U2) :
  mD T F (.loc 4) (.rng 0 1 3) 0 b_agv #[n+1,none] [some (.ref a),some (.ref d),some (.int k),some (.ref e),v4,v5] P U1:=by
 refine gF (c:=#[n+1,none]) (src:=.rng 0 1 3) nd nb (by intro _ _ z; cases z) (by intro _ _ z; cases z) 3 (λi O U' => ∃ v4 v5,O=[some (.ref a),some (.ref d),some (.int k),some (.ref e),v4,v5]/\U'=U1.set e (.list (sV ((List.range i).map λt=>gQ (eV is k t))))) (λi O U' _=>rfl) ?_ ?_ 3 0 _ _ rfl #[v4,v5,rfl,?_]
 .rintro i O U' hi ⟨v4,v5,rfl,rfl⟩
  have he':(U1.set e (.list (sV ((List.range i).map λt=>gQ (eV is k t))))) e=some (.list (sV ((List.range i).map λt=>gQ (eV is k t)))):=aq
  have es:∀ v,((U1.set e (.list (sV ((List.range i).map λt=>gQ (eV is k t))))).set e (.list (sV ((List.range i).map λt=>gQ (eV is k t))++[.str v])))=U1.set e (.list (sV ((List.range i).map λt=>gQ (eV is k t))++[.str v])):=λv=>Sg.set_set _ _ _ _
  have en:∀ v,v=gQ (eV is k i)->U1.set e (.list (sV ((List.range i).map λt=>gQ (eV is k t))++[.str v]))=U1.set e (.list (sV ((List.range (i+1)).map λt=>gQ (eV is k t)))):=λv hv=>by
   rw[pX,List.range_succ,adH,hv]; rfl
  generalize U1.set e (.list (sV ((List.range i).map λt=>gQ (eV is k t))))=U2 at he' es ⊢
  refine#[.int i,?_,?_]
  .simp only[Src.item]
   rw[ad9 ∎]
   congr 2
   omega
  unfold b_agv b_ae7
  show 7
  change KJ ⋯
  rw[show(3:Int)*k+i=((3*k+i:Nat):Int) by omega]
  change lA ha hz ∎
  change aN he'
  by_cases c:k<3
  .change aD (aaB ∎)
   change Ka c
   exists aH he' (cM (by rw[fP,ac0,List.length_range]; omega))
   rw[es,en _ (by unfold eV; rw[ad9 c])]
   show 7
   exact#[_,_,rfl,rfl]
  .change ao (aaA ∎)
   change Jl
   exists aH he' (cM (by rw[fP,ac0,List.length_range]; omega))
   rw[es,en _ (by unfold eV; rw[ad8 c])]
   show 7
   exact#[_,_,rfl,rfl]
 .rintro O U' ⟨v4,v5,rfl,rfl⟩
  refine#[by simp[Src.item],h _ _ _ rfl]
 .exact(Sg.self he).symm
let Az(ha:Bf T a (iV is))(hz:is.length<=1000)(q:∀ d U',aO U U'->U d=none->U' d=some (.list (sV (Vk is)))->Q (.ref d) U'):aj T #[n+2,none] (.ref 925) [.ref a] Q X U:=by
 exists 5,Bp,111,b_ae7
 intro d fd
 have hd:(U.set d (.list [])) d=some (.list (sV [])):=aq
 have s1:aO U (U.set d (.list [])):=(aO.refl U).turn fd.no
 generalize U.set d (.list [])=U1 at hd s1 ⊢
 show 7
 change Ck
 refine#[.rng 0 1 4,by simp[srcOf],?_]
 refine gF (c:=#[n+1,none]) (src:=.rng 0 1 4) nd nb (by intro _ _ z; cases z) (by intro _ _ z; cases z) 4 (λi O U' => ∃ v2 v3 v4 v5,O=[some (.ref a),some (.ref d),v2,v3,v4,v5]/\aO U U'/\U' d=some (.list (sV ((List.range i).map (txK is))))) (λi O U' _=>rfl) ?_ ?_ 4 0 _ _ rfl #[none,none,none,none,rfl,s1,hd]
 .rintro i O U' hi ⟨v2,v3,v4,v5,rfl,s2,hd2⟩
  refine#[.int i,?_,?_]
  .simp only[Src.item]
   rw[ad9 ∎]
   congr 2
   omega
  show 7
  intro e fe
  have hde:=fe.ne hd2
  have s3:aO U (U'.set e (.list [])):=λb cc z=>by rw[Sg.aa _ _ (fe.ne (s2 _ _ z))]; exact s2 _ _ z
  have hd3:(U'.set e (.list [])) d=some (.list (sV ((List.range i).map (txK is)))):=(Sg.aa _ _ hde).trans hd2
  have he3:(U'.set e (.list [])) e=some (.list []):=aq
  have ee:∀ b cc,U b=some cc->b≠e:=λb cc z=>fe.ne (s2 _ _ z)
  generalize U'.set e (.list [])=U3 at s3 hd3 he3 ⊢
  show 7
  change Ck
  refine#[.rng 0 1 3,by simp[srcOf],?_]
  refine Ow nd nb hz hi ha hd3 he3 hde λU4 w4 w5 e4=>?_
  have hd4:U4 d=some (.list (sV ((List.range i).map (txK is)))):=by rw[e4]; exact(Sg.aa _ _ hde).trans hd3
  have he4:U4 e=some (.list (sV [gQ (eV is i 0),gQ (eV is i 1),gQ (eV is i 2)])):=by rw[e4]; exact aq
  have s4:aO U U4:=λb cc z=>by rw[e4,Sg.aa _ _ (ee b cc z)]; exact s3 _ _ z
  show 7
  change aN hd4
  intro f ff
  have hd5:(U4.set f (.list [.str [59],.str [10],.str [32,59,35,32,99,10]])) d=_:=ff.keep _ hd4
  have he5:(U4.set f (.list [.str [59],.str [10],.str [32,59,35,32,99,10]])) e=_:=ff.keep _ he4
  have hf5:(U4.set f (.list [.str [59],.str [10],.str [32,59,35,32,99,10]])) f=some (.list [.str [59],.str [10],.str [32,59,35,32,99,10]]):=aq
  have s5:aO U (U4.set f (.list [.str [59],.str [10],.str [32,59,35,32,99,10]])):=λb cc z=>ff.keep _ (s4 _ _ z)
  generalize U4.set f (.list [.str [59],.str [10],.str [32,59,35,32,99,10]])=U5 at hd5 he5 hf5 s5 ⊢
  show 7
  change iR ⋯
  have ei:∀ i,i<4->([.str [59],.str [10],.str [32,59,35,32,99,10]]:List V)[i%3]? = some (.str (Wh i)):=λi h=>by
   rcases i with _ | _ | _ | _ | i
   any_goals rfl
   omega
  rw[show(i:Int)%3=((i%3:Nat):Int) by omega]
  change pQ hf5 (ei i hi)
  change lH
  have hs:strsOf (sV [gQ (eV is i 0),gQ (eV is i 1),gQ (eV is i 2)])=some [gQ (eV is i 0),gQ (eV is i 1),gQ (eV is i 2)]:=rfl
  have l0:=Dz hi (fM (is:=is) (t:=0) hi)
  have l1:=Dz hi (fM (is:=is) (t:=1) hi)
  have l2:=Dz hi (fM (is:=is) (t:=2) hi)
  have ls:∀ i,i<4->(Wh i).length<=10:=by decide
  have l3:=ls i hi
  exists iy he5 hs (cM (by simp only[acS,List.map_nil,ad2,List.sum_nil,aaE,acT]; omega))
  rw[abB is hi]
  show 7
  exists aH hd5 (cM (by rw[fP,ac0,List.length_range]; omega))
  rw[pX]
  show 7
  refine#[_,_,_,_,rfl,s5.turn ?_,?_]
  .exact fd.no
  .rw[Sg.set_same,List.range_succ,adH]; rfl
 .rintro O U' ⟨v2,v3,v4,v5,rfl,s2,hd2⟩
  refine#[by simp[Src.item],?_]
  show 7
  exact fn_agI (q d U' s2 fd.no hd2)
open Mo in show ∀{T:Tp}{c:Cx}{X:Addr->Ψ}{U0 U U1:Sg}{Q:V->Ψ}{n:Nat}{hd:Option Addr}{l l1 l2:List (Addr×Cell)},_
let ni.at(B:ni U0 U l){c:Cell}(h:(a,c)∈l):U a=some c:=B.fs _ h
let ni.ix(B:ni U0 U l)(i:Nat){c:Cell}(h:l[i]? = some (a,c)):U a=some c:=B.fs _ (aaQ h)
let ni.new(B:ni U0 U l){c:Cell}(f:bD U a):ni U0 (U.set a c) ((a,c)::l):=by
 have ne:=λp hp=>f.ne (B.fs p hp)
 refine#[λp hp=>?_,adm.mpr #[λz=>?_,B.nd],λb cc q=>?_,λp hp=>?_]
 .rcases acR.mp hp with rfl | hp
  .exact aq
  .exact(Sg.aa _ _ (ne p hp)).trans (B.fs p hp)
 .have#[p,hp,e]:=adw.mp z
  exact ne p hp e
 .exact(Sg.aa _ _ (f.ne (B.sub _ _ q))).trans (B.sub _ _ q)
 .rcases acR.mp hp with rfl | hp
  .cases e:U0 a with
   | none=>rfl
   | some cc=>exact absurd rfl (f.ne (B.sub _ _ e))
  .exact B.no p hp
let ni.turn{c c':Cell}(B:ni U0 U (l1++(a,c)::l2)):ni U0 (U.set a c') (l1++(a,c')::l2):=by
 have e:(l1++(a,c')::l2).map (·.1)=(l1++(a,c)::l2).map (·.1):=by simp
 refine#[B.fs.upd B.nd,by rw[e]; exact B.nd,?_,λp hp=>?_]
 .exact B.sub.turn (B.no (a,c) (adW _ (.head _)))
 .have:p.1∈(l1++(a,c')::l2).map (·.1):=adw.mpr #[p,hp,rfl]
  rw[e]at this
  have#[q,hq,e2]:=adw.mp this
  rw[← e2]; exact B.no q hq
let yV{l l':List (Addr×Cell)}{js:LN}(e:l'.map some=js.map (l[·]?))(h:p∈l'):∃ j∈js,l[j]? = some p:=by
 have:some p∈l'.map some:=adw.mpr #[p,h,rfl]
 rw[e]at this
 exact adw.mp this
let Xn{l:List (Addr×Cell)}(nd:(l.map (·.1)).Nodup):∀{js:LN} {l':List (Addr×Cell)},l'.map some=js.map (l[·]?)->js.Nodup->(l'.map (·.1)).Nodup:=by
 intro js
 induction js with
 | nil=>intro l' e _; cases l' with | nil=>exact List.nodup_nil | cons _ _=>cases e
 | cons j js ih =>
  intro l' e n
  cases l' with
  | nil=>cases e
  | cons p r =>
   have#[e1,e2]:=List.cons.inj e
   have#[n1,n2]:=adm.mp n
   refine adm.mpr #[λz=>?_,ih e2 n2]
   have#[q,hq,hz]:=adw.mp z
   have#[k,hk,e3]:=yV e2 hq
   have l1:(l.map (·.1))[j]? = some p.1:=by rw[acZ,show l[j]? = some p from e1.symm]; rfl
   have l2:(l.map (·.1))[k]? = some p.1:=by rw[acZ,e3]; exact congrArg some hz
   have:=(List.getElem?_inj (adU.mp l1).1 nd).mp (l1.trans l2.symm)
   exact n1 (this▸hk)
let ni.pick(B:ni U0 U l)(js:LN)(e:l'.map some=js.map (l[·]?))(n:js.Nodup):ni U0 U l' :=
 #[λp hp=>let#[_,_,h]:=yV e hp; B.fs p (aaQ h),Xn B.nd e n,B.sub,λp hp=>let#[_,_,h]:=yV e hp; B.no p (aaQ h)]
let ni.ins{c:Cell}(B:ni U0 U (l1++l2))(h:U0 a=some c):Facts U (l1++(a,c)::l2)/\((l1++(a,c)::l2).map (·.1)).Nodup/\∀ b∈(l1++(a,c)::l2).map (·.1),b≠a->U0 b=none:=by
 have m:∀ p∈l1++(a,c)::l2,p=(a,c)∨p∈l1++l2:=λp hp=>(ado.mp hp).elim (λz=>.inr (ad4 _ z)) λz=>(acR.mp z).elim .inl λz=>.inr (adW _ z)
 refine#[λp hp=>(m p hp).elim (λz=>z▸B.sub _ _ h) (B.fs p),?_,λb hb n=>?_]
 .have nd:=B.nd
  rw[adH]at nd ⊢
  rw[acS,List.perm_middle.nodup_iff]
  refine adm.mpr #[λz=>?_,nd]
  rw[← adH]at z
  have#[q,hq,e]:=adw.mp z
  have:=B.no q hq
  rw[show q.1=a from e,h]at this; cases this
 .have#[q,hq,rfl]:=adw.mp hb
  exact(m q hq).elim (λz=>absurd (by rw[z]) n) (B.no q)
let Yh(ha:U a=some (.inst 749 d))(hd:U d=some (.dict es))(hl:lkM 749 nm Kv=some f)(hn:lk nm es=none)(q:P (.ref f) [.ref a]):MethP U (.ref a) nm P:=by
 unfold MethP
 show 1
 rw[ha]
 show 1
 rw[hd,hl]
 exact#[hn,q]
have newD(t i v k f:Addr)(fu:V):List (Str×V):=[(n_tools,.ref t),(n_inline,.ref i),(n_limit,.int 40),(n_fuel,fu),(n_depth,.int 0),(n_spent,.int 0),(n_epoch,.int 0),(n_frame,.none),(n_coroutine,.none),(n_vars,.ref v),(n_commands,.ref k),(n_firsts,.ref f)]
let I8{h d:Addr}{fu:V}(B:ni U0 U [(h,.inst 749 d),(d,.dict [])])(k:∀ t i U',ni U0 U' [(i,.dict []),(t,.dict []),(h,.inst 749 d),(d,.dict ((newD t i 0 0 0 fu).take 9))]->Q .none U'):aj T #[n+1,hd] (.ref 527) [.ref h,.int 40,fu] Q X U:=by
 refine(qZ G9 (fm 57) (aaQ (i:=5) rfl) (by simp) (by simp) (by simp) λF nd nb=>?_).call
 dsimp only[List.length,bO,List.drop,List.map,List.append,HAppend.hAppend,Append.append,Nat.reduceAdd,Nat.reduceSub]
 unfold b_afJ
 have ht:∀ n,n∈[n_tools,n_inline,n_limit,n_fuel,n_depth,n_spent,n_epoch,n_frame,n_coroutine]->vB.contains (749,n)=true:=⋯
 show 7
 intro t ft
 have B:=B.new (c:=.dict []) ft
 generalize U.set t (.dict [])=U at B ⊢
 show 7
 exists dF (B.ix 1 rfl) (B.ix 2 rfl) (ht _ ⋯) cC
 have B:=ni.turn (l1:=[_,_]) (c' := .dict [(n_tools,.ref t)]) B
 show wSs _ _ _ _ _ _ (U.set d (.dict [(n_tools,.ref t)]))
 generalize U.set d (.dict [(n_tools,.ref t)])=U at B ⊢
 show 7
 intro i fi
 have B:=B.new (c:=.dict []) fi
 generalize U.set i (.dict [])=U at B ⊢
 have set:∀{nm:Str} {u:V} {es:List (Str×V)} {U:Sg} {P:Ψ},nm∈[n_tools,n_inline,n_limit,n_fuel,n_depth,n_spent,n_epoch,n_frame,n_coroutine]->ni U0 U ([(i,.dict []),(t,.dict []),(h,.inst 749 d)]++[(d,.dict es)])->es.length<=20->(∀ U',ni U0 U' ([(i,.dict []),(t,.dict []),(h,.inst 749 d)]++[(d,.dict (up nm u es))])->P U')->fK U (.ref h) nm u P:=λhn B hl q =>
  dF (B.ix 2 rfl) (B.ix 3 rfl) (ht _ hn) ∎ (q _ B.turn)
 show 7
 refine set ⋯ B cC λU B=>?_
 show 7
 refine set ⋯ B cC λU B=>?_
 show 7
 refine set ⋯ B cC λU B=>?_
 show 7
 refine set ⋯ B cC λU B=>?_
 show 7
 refine set ⋯ B cC λU B=>?_
 show 7
 refine set ⋯ B cC λU B=>?_
 show 7
 refine set ⋯ B cC λU B=>?_
 show 7
 refine set ⋯ B cC λU B=>?_
 show 7
 exact fn_agC (k t i U B)
let Jd{fu:V}(k:∀ h d t i v c f U',ni U U' [(f,.dict []),(c,.dict []),(v,.dict []),(i,.dict []),(t,.dict []),(h,.inst 749 d),(d,.dict (newD t i v c f fu))]->Q (.ref h) U'):aj T #[n+3,hd] (.ref 749) [.int 40,fu] Q X U:=by
 refine sS (aaQ (i:=2) rfl) λh d fd hx=>?_
 subst hx
 refine qZ tV (fm 72) (aaQ (i:=6) rfl) (by simp) (by simp) (by simp) λF nd nb=>?_
 dsimp only[List.length,bO,List.drop,List.map,List.append,HAppend.hAppend,Append.append,Nat.reduceAdd,Nat.reduceSub]
 have ne:=Nat.succ_ne_self d
 have hn:=bD.no λb cc q=>adX (fd b cc q)
 have B:ni U ((U.set d (.dict [])).set (d+1) (.inst 749 d)) [(d+1,.inst 749 d),(d,.dict [])]:=by
  refine#[λp hp=>?_,by simp,((aO.refl U).turn fd.no).turn hn,λp hp=>?_]
  .rcases acR.mp hp with rfl | hp
   .exact aq
   .rw[adk.mp hp]; exact(Sg.aa _ _ (Ne.symm ne)).trans aq
  .rcases acR.mp hp with rfl | hp
   .exact hn
   .rw[adk.mp hp]; exact fd.no
 generalize hh:d+1=h at B ⊢
 generalize (U.set d (.dict [])).set h (.inst 749 d)=U1 at B ⊢
 unfold b_aeK
 have ht:∀ n,n∈[n_vars,n_commands,n_firsts]->vB.contains (749,n)=true:=⋯
 show 7
 refine#[rfl,?_]
 show 7
 refine I8 B λt i U2 B=>?_
 show 7
 intro v fv
 have B:=B.new (c:=.dict []) fv
 generalize U2.set v (.dict [])=U3 at B ⊢
 show 7
 exists dF (B.ix 3 rfl) (B.ix 4 rfl) (ht _ ⋯) cC
 have B:=ni.turn (l1:=[_,_,_,_]) (c' := .dict (up n_vars (.ref v) ((newD t i 0 0 0 fu).take 9))) B
 generalize U3.set d (.dict (up n_vars (.ref v) ((newD t i 0 0 0 fu).take 9)))=U4 at B ⊢
 show 7
 intro c fc
 have B:=B.new (c:=.dict []) fc
 generalize U4.set c (.dict [])=U5 at B ⊢
 show 7
 exists dF (B.ix 4 rfl) (B.ix 5 rfl) (ht _ ⋯) cC
 have B:=ni.turn (l1:=[_,_,_,_,_]) (c' := .dict (up n_commands (.ref c) (up n_vars (.ref v) ((newD t i 0 0 0 fu).take 9)))) B
 generalize U5.set d (.dict (up n_commands (.ref c) (up n_vars (.ref v) ((newD t i 0 0 0 fu).take 9))))=U6 at B ⊢
 show 7
 intro f ff
 have B:=B.new (c:=.dict []) ff
 generalize U6.set f (.dict [])=U7 at B ⊢
 show 7
 exists dF (B.ix 5 rfl) (B.ix 6 rfl) (ht _ ⋯) cC
 have B:=ni.turn (l1:=[_,_,_,_,_,_]) (c' := .dict (newD t i v c f fu)) B
 show 7
 exact fn_agC #[rfl,k _ _ _ _ _ _ _ _ B]
let g_i(ha:U a=some (.inst 749 d))(hd:U d=some (.dict es))(ht:vB.contains (749,nm)=true)(hl:lk nm es=some v)(hb:zK v=true)(q:P v):aY U (.ref a) nm P:=fG ha hd ht hl hb q
let Zd{h d cm fi il ac:Addr}(h1:U h=some (.inst 749 d))(h2:U d=some (.dict es))(l1:lk n_commands es=some (.ref cm))(l2:lk n_firsts es=some (.ref fi))(l3:lk n_inline es=some (.ref il))(l4:lk n_remove es=none)(h3:U cm=some (.dict cs))(h4:U fi=some (.dict []))(h5:U il=some (.dict []))(h6:lk (Cs name) cs=none)(hz:cs.length<=900)(k:Q .none (U.set cm (.dict (up (Cs name) (.tup [.ref ac,da]) cs)))):aj T #[n+2,hd] (.ref 718) [.ref h,.str name,.ref ac,da] Q X U:=by
 refine(qZ vH (fm 82) (aaQ (i:=7) rfl) (by simp) (by simp) (by simp) λF nd nb=>?_).call
 dsimp only[List.length,bO,List.drop,List.map,List.append,HAppend.hAppend,Append.append,Nat.reduceAdd,Nat.reduceSub]
 unfold b_aeS
 have ht:∀ n,n∈[n_commands,n_firsts,n_inline]->vB.contains (749,n)=true:=⋯
 show 7
 change Yh h1 h2 rfl l4
 refine(?_:aj T #[n+1,hd] (.ref 725) [.ref h,.str name] _ _ U)
 exists pJ,83,b_aeB
 change g_i h1 h2 (ht _ ⋯) l1 rfl
 change X6 h3
 change T9 h3 h6
 change g_i h1 h2 (ht _ ⋯) l2 rfl
 change X6 h4
 change T9 h4 rfl
 change g_i h1 h2 (ht _ ⋯) l3 rfl
 exists acw h5
 change ao rfl
 change fn_agC
 change g_i h1 h2 (ht _ ⋯) l1 rfl
 change Ii h3 ∎
 exact fn_agC k
open Mo in show ∀{T:Tp}{c:Cx}{X:Addr->Ψ}{U0 U U1:Sg}{Q:V->Ψ}{n:Nat}{hd:Option Addr}{E:Hv}{H:HC}{w:Wo}{s:cj},_
have Fl(H:HC)(p:LN×Kd):V:=.tup [.str p.1,.ref (kdF p.2),kdM H p.2]
have vU(H:HC)(p:LN×Kd):Str×V:=(Cs p.1,.tup [.ref 937,.tup [.ref H.log,.ref (kdF p.2),kdM H p.2]])
let WK(H):∀ i,i<13->∀ p,cW[i]? = some p->lk (Cs p.1) ((cW.take i).map (vU H))=none/\up (Cs p.1) (vU H p).2 ((cW.take i).map (vU H))=(cW.take (i+1)).map (vU H):=λi hi p hp=>by
 have e:∀ l:List (LN×Kd),(pU p.1 l).isNone=true->lk (Cs p.1) (l.map (vU H))=none/\up (Cs p.1) (vU H p).2 (l.map (vU H))=l.map (vU H)++[vU H p]:=λl=>by
  induction l with
  | nil=>exact λ_=>#[rfl,rfl]
  | cons q l ih =>
   intro h
   have#[y,kd]:=q
   unfold pU at h
   by_cases z:p.1=y
   .rw[ad9 z]at h; cases h
   .rw[ad8 z]at h
    have#[i1,i2]:=ih h
    rw[acS]
    unfold lk up vU
    show 1
    rw[ad8 (λw=>z (RK.mp w)),ad8 (λw=>z (RK.mp w))]
    exact#[i1,congrArg _ i2]
 have d:∀ i,i<13->((cW[i]?).elim true λp=>(pU p.1 (cW.take i)).isNone)=true:=by decide
 have d1:=d i hi
 rw[hp]at d1
 have#[e1,e2]:=e _ d1
 refine#[e1,e2.trans ?_]
 rw[List.take_add_one,hp,adH]; rfl
let ZF(i)(h:i<13):∃ p,cW[i]? = some p:=#[_,aa1 (h)]
let pK(I:Inv E H w { s with vars:=vs } U)(hz:vs.length<=900)(q:∀ w' U',Inv E H w' { s with vars:=xW x y vs } U'->az H w U w' U'->Q (.str y) U'):aj T #[n+6,hd] (.ref 689) [.ref H.h,.str x,.str y] Q X U:=by
 refine jk I (.ok () { s with vars:=xW x y vs }) Q X ?_ λw' U' v i k e=>by cases e; exact q w' U' i k
 unfold cP
 rw[ad9 hz]
have pairs(first:LN):List (LN×LN):=[([97],[36,97]),([98],[91,113]),([110],first),([118],[])]
have zO(p:LN×LN):V:=.tup [.str p.1,.str p.2]
have vs1(first:LN):List Vr:=(pairs first).map λp=>Ov p.1 p.2
let aab(first):∀ i,i<4->∃ x y,(pairs first)[i]? = some (x,y)/\xW x y ((vs1 first).take i)=(vs1 first).take (i+1):=λi h=>by
 rcases i with _ | _ | _ | _ | i
 .exact#[_,_,rfl,rfl]
 .exact#[_,_,rfl,rfl]
 .exact#[_,_,rfl,rfl]
 .exact#[_,_,rfl,rfl]
 .omega
have vs2(tx:aX)(first:LN)(i:Nat):List Vr:=vs1 first++((List.range i).map λj=>[Ov (115::wd (j+1)) (tx[j+1]?.getD []),Ov (116::wd (j+1)) (32::tx[j+1]?.getD [])]).flatten
let Yq(tx:aX)(first):∀ i,i<3->xW (116::wd (i+1)) (32::tx[i+1]?.getD []) (xW (115::wd (i+1)) (tx[i+1]?.getD []) (vs2 tx first i))=vs2 tx first (i+1):=λi h=>by
 rcases i with _ | _ | _ | i
 .rfl
 .rfl
 .rfl
 .omega
let Nh(x y):∀ l,(xW x y l).length<=l.length+1
 | []=>abW _
 | v::l=>by
  unfold xW
  split
  .exact adp _
  .exact Nat.succ_le_succ (Nh x y l)
let Inv.Lk(k:az H w U w' U'){c:Cell}(h:U a=some c)(n:a∉addrs H w):U' a=some c/\a∉addrs H w':=k.rest a c h n
let Sd(nd:gD F)(nb:bw F){h d r f cm v i t lg tx R:Addr}(H)(eH:H=#[h,d,t,r,i,v,cm,f,lg,tx])(es_c:lk n_commands es=some (.ref cm))(es_f:lk n_firsts es=some (.ref f))(es_i:lk n_inline es=some (.ref i))(es_r:lk n_remove es=none)(es_p:lk n_put es=none)(B:ni U0 U5 ([(f,.dict [])]++(cm,.dict [])::(R,.list (cW.map (Fl H)))::(i,.dict [])::(h,.inst 749 d)::(d,.dict es)::l))(k:∀ U6 v6 v7 v8,ni U0 U6 ([(f,.dict [])]++(cm,.dict (uK H))::(R,.list (cW.map (Fl H)))::(i,.dict [])::(h,.inst 749 d)::(d,.dict es)::l)->P.nxt [some (.ref tx),some v1,some fu,some (.ref lg),some (.ref h),some (.ref R),v6,v7,v8,v9,v10] U6) :
  mD T F (.tup [6,7,8]) (.lst R) 0 (match b_af2 with | .cons _ (.cons _ (.cons _ (.cons _ (.cons _ (.cons _ (.cons (.for _ _ b) _))))))=>b | _=>.nil) #[n+2,none] [some (.ref tx),some v1,some fu,some (.ref lg),some (.ref h),some (.ref R),v6,v7,v8,v9,v10] P U5:=by
 refine gF (src:=.lst R) nd nb (by intro _ _ z; cases z) (by intro _ _ z; cases z) 13 (λj O U' => ∃ v6 v7 v8,O=[some (.ref tx),some v1,some fu,some (.ref lg),some (.ref h),some (.ref R),v6,v7,v8,v9,v10]/\ni U0 U' ([(f,.dict [])]++(cm,.dict ((cW.take j).map (vU H)))::(R,.list (cW.map (Fl H)))::(i,.dict [])::(h,.inst 749 d)::(d,.dict es)::l))
  (λj O U' #[_,_,_,_,B]=>#[rfl,by rw[B.at (.tail _ (.tail _ (.head _)))]; trivial]) ?_ ?_ 13 0 _ _ rfl #[_,_,_,rfl,B]
 .rintro j O U' hj ⟨v6,v7,v8,rfl,B⟩
  have#[p,hp]:=ZF j hj
  have#[u1,u2]:=WK H j hj p hp
  refine#[Fl H p,?_,?_]
  .simp only[Src.item]
   rw[B.at (.tail _ (.tail _ (.head _)))]
   show 1
   rw[acZ,hp]; rfl
  unfold Fl b_af2
  change qY rfl
  change Yh (B.ix 4 rfl) (B.ix 5 rfl) rfl es_p
  change Zd (B.ix 4 rfl) (B.ix 5 rfl) es_c es_f es_i es_r (B.ix 1 rfl) (B.ix 0 rfl) (B.ix 3 rfl) u1 (by rw[ac0,List.length_take]; omega)
  refine#[_,_,_,rfl,?_]
  rw[← u2]
  have e:vU H p=(Cs p.1,V.tup [.ref 937,.tup [.ref lg,.ref (kdF p.2),kdM H p.2]]):=by rw[eH]; rfl
  rw[e]
  exact B.turn
 .rintro O U' ⟨v6,v7,v8,rfl,B⟩
  refine#[?_,k _ _ _ _ B]
  simp only[Src.item]
  rw[B.at (.tail _ (.tail _ (.head _)))]
  rfl
have lhB(k:Nat):PSs:=match k,b_af2 with
 | 7,.cons _ (.cons _ (.cons _ (.cons _ (.cons _ (.cons _ (.cons _ (.cons (.for _ _ b) _)))))))=>b
 | 8,.cons _ (.cons _ (.cons _ (.cons _ (.cons _ (.cons _ (.cons _ (.cons _ (.cons (.for _ _ b) _))))))))=>b
 | _,_=>.nil
have Yn(vs:List Vr):cj:=#[vs,0,0,some [116,111,112],[],[]]
let T4(nd:gD F)(nb:bw F)(I:Inv E H w (Yn []) U)(hR:U R=some (.list ((pairs first).map zO)))(nR:R∉addrs H w)(k:∀ w' U' v6 v9,Inv E H w' (Yn (vs1 first)) U'->az H w U w' U'->P.nxt [some v0,some (.str first),some v2,some v3,some (.ref H.h),v5,v6,v7,v8,v9,v10] U') :
  mD T F (.tup [6,9]) (.lst R) 0 (lhB 7) #[n+6,none] [some v0,some (.str first),some v2,some v3,some (.ref H.h),v5,v6,v7,v8,v9,v10] P U:=by
 refine gF (src:=.lst R) nd nb (by intro _ _ z; cases z) (by intro _ _ z; cases z) 4 (λj O U' => ∃ w' v6 v9,O=[some v0,some (.str first),some v2,some v3,some (.ref H.h),v5,v6,v7,v8,v9,v10]/\Inv E H w' (Yn ((vs1 first).take j)) U'/\az H w U w' U')
  (λj O U' #[_,_,_,_,_,K]=>#[rfl,by rw[(Inv.Lk K hR nR).1]; trivial]) ?_ ?_ 4 0 _ _ rfl #[w,_,_,rfl,I,az.refl]
 .rintro j O U' hj ⟨w',v6,v9,rfl,I',K'⟩
  have#[x,y,e1,e2]:=aab first j hj
  refine#[zO (x,y),?_,?_]
  .simp only[Src.item]
   rw[(Inv.Lk K' hR nR).1]
   show 1
   rw[acZ,e1]; rfl
  unfold zO lhB b_af2
  change qY rfl
  change bM I' rfl rfl
  refine pK (s:=Yn []) I' (aaC (List.length_take_le ..) ∎) λw2 U2 I2 K2=>?_
  rw[e2]at I2
  show 7
  exact#[w2,_,_,rfl,I2,K'.trans K2]
 .rintro O U' ⟨w',v6,v9,rfl,I',K'⟩
  refine#[?_,k w' U' v6 v9 I' K']
  simp only[Src.item]
  rw[(Inv.Lk K' hR nR).1]
  rfl
let Ur(nd:gD F)(nb:bw F)(h4:E.texts.length=4)(hz:∀ t∈E.texts,t.length<=1000)(I:Inv E H w (Yn (vs1 first)) U)(k:∀ w' U' v10,Inv E H w' (st0 E.texts first) U'->az H w U w' U'->P.nxt [some (.ref H.texts),some v1,some v2,some v3,some (.ref H.h),v5,v6,v7,v8,v9,v10] U') :
  mD T F (.loc 10) (.rng 1 1 3) 0 (lhB 8) #[n+6,none] [some (.ref H.texts),some v1,some v2,some v3,some (.ref H.h),v5,v6,v7,v8,v9,v10] P U:=by
 refine gF (c:=#[n+6,none]) (src:=.rng 1 1 3) nd nb (by intro _ _ z; cases z) (by intro _ _ z; cases z) 3 (λj O U' => ∃ w' v10,O=[some (.ref H.texts),some v1,some v2,some v3,some (.ref H.h),v5,v6,v7,v8,v9,v10]/\Inv E H w' (Yn (vs2 E.texts first j)) U'/\az H w U w' U')
  (λj O U' _=>rfl) ?_ ?_ 3 0 _ _ rfl #[w,_,rfl,by rw[show vs2 E.texts first 0=vs1 first from adL _]; exact I,az.refl]
 .rintro j O U' hj ⟨w',v10,rfl,I',K'⟩
  refine#[.int ((j+1:Nat):Int),?_,?_]
  .simp only[Src.item]
   rw[ad9 ∎]
   congr 2
   omega
  have tj:(sV E.texts)[j+1]? = some (.str (E.texts[j+1]?.getD [])):=by
   unfold sV
   rw[acZ,aa1 ∎]; rfl
  have tz:(E.texts[j+1]?.getD []).length<=1000:=by
   rw[aa1 ∎]
   exact hz _ (List.getElem_mem _)
  have vl:(vs2 E.texts first j).length<=100:=by
   unfold vs2 vs1 pairs
   rcases j with _ | _ | _ | j
   .exact cC
   .exact cC
   .exact cC
   .omega
  unfold lhB b_af2
  show 7
  change bM I' rfl rfl
  exists mj ∎
  rw[pP _ ∎]
  show 7
  change aZ (by simp[wd])
  change pQ I'.tx tj
  rw[show([115]++wd (j+1):LN)=115::wd (j+1)from rfl]
  refine pK (s:=Yn []) I' ∎ λw2 U2 I2 K2=>?_
  show 7
  change bM I2 rfl rfl
  exists mj ∎
  rw[pP _ ∎]
  show 7
  change aZ (by simp[wd])
  change pQ I2.tx tj
  change bf (cM (by simp only[aaE,acT]; omega))
  rw[show([116]++wd (j+1):LN)=116::wd (j+1)from rfl,show([32]++E.texts[j+1]?.getD []:LN)=32::E.texts[j+1]?.getD []from rfl]
  refine pK I2 (aaC (Nh ..) ∎) λw3 U3 I3 K3=>?_
  rw[Yq _ _ j hj]at I3
  show 7
  exact#[w3,_,rfl,I3,(K'.trans K2).trans K3]
 .rintro O U' ⟨w',v10,rfl,I',K'⟩
  exact#[by simp[Src.item],k w' U' v10 I' K']
open Mo in show ∀{T:Tp}{c:Cx}{X:Addr->Ψ}{U:Sg}{Q:V->Ψ}{n:Nat},_
have PK(t i v k f:Addr)(fu:V):List (Str×V):=[(n_tools,.ref t),(n_inline,.ref i),(n_limit,.int 40),(n_fuel,fu),(n_depth,.int 0),(n_spent,.int 0),(n_epoch,.int 0),(n_frame,.str [116,111,112]),(n_coroutine,.none),(n_vars,.ref v),(n_commands,.ref k),(n_firsts,.ref f)]
let Aa{tx lg:Addr}(ht:U tx=some (.list (sV texts)))(hg:U lg=some (.list []))(hne:tx≠lg)(h4:texts.length=4)(hz:∀ t∈texts,t.length<=1000)(q:∀ H w U',H.log=lg->H.texts=tx->Inv #[fu,texts] H w (st0 texts first) U'->aO U U'->(∀ a∈addrs H w,a≠lg->U a=none)->Q (.ref H.h) U'):aj T #[n+7,none] (.ref 993) [.ref tx,.str first,lO fu,.ref lg] Q X U:=by
 exists 7,Lb,121,b_af2
 refine Jd λh d t i v cm f U1 B=>?_
 have ha:∀ n,n∈[n_frame,n_tools]->vB.contains (749,n)=true:=⋯
 show 7
 exists dF (B.ix 5 rfl) (B.ix 6 rfl) (ha _ ⋯) cC
 have B:=ni.turn (l1:=[_,_,_,_,_,_]) (c' := .dict (PK t i v cm f (lO fu))) B
 show wSs _ _ _ _ _ _ (U1.set d (.dict (PK t i v cm f (lO fu))))
 generalize U1.set d (.dict (PK t i v cm f (lO fu)))=U2 at B ⊢
 have gt:∀{l:List (Addr×Cell)} {U2:Sg} {P:V->Prop},ni U U2 l->(h,Cell.inst 749 d)∈l->(d,Cell.dict (PK t i v cm f (lO fu)))∈l->P (.ref t)->aY U2 (.ref h) n_tools P:=λB m1 m2 q=>fG (B.at m1) (B.at m2) (ha _ ⋯) rfl rfl q
 show 7
 change gt B (.tail _ (.tail _ (.tail _ (.tail _ (.tail _ (.head _)))))) (.tail _ (.tail _ (.tail _ (.tail _ (.tail _ (.tail _ (.head _)))))))
 exists Ii (B.ix 4 rfl) cC
 have B:=ni.turn (l1:=[_,_,_,_]) (c' := .dict [(Cs [114,117,110],.ref 986)]) B
 show wSs _ _ _ _ _ _ (U2.set t (.dict [(Cs [114,117,110],.ref 986)]))
 generalize U2.set t (.dict [(Cs [114,117,110],.ref 986)])=U3 at B ⊢
 show 7
 change gt B (.tail _ (.tail _ (.tail _ (.tail _ (.tail _ (.head _)))))) (.tail _ (.tail _ (.tail _ (.tail _ (.tail _ (.tail _ (.head _)))))))
 exists Ii (B.ix 4 rfl) cC
 have B:=ni.turn (c' := .dict [(Cs [114,117,110],.ref 986),(Cs [101,120,112,114],.ref 979)]) B
 show wSs _ _ _ _ _ _ (U3.set t (.dict [(Cs [114,117,110],.ref 986),(Cs [101,120,112,114],.ref 979)]))
 generalize U3.set t (.dict [(Cs [114,117,110],.ref 986),(Cs [101,120,112,114],.ref 979)])=U4 at B ⊢
 show 7
 intro r fr
 have B:=B.new (c:=.list []) fr
 generalize U4.set r (.list [])=U5 at B ⊢
 show 7
 change gt B (.tail _ (.tail _ (.tail _ (.tail _ (.tail _ (.tail _ (.head _))))))) (.tail _ (.tail _ (.tail _ (.tail _ (.tail _ (.tail _ (.tail _ (.head _))))))))
 exists Ii (B.ix 5 rfl) cC
 let H:HC:=#[h,d,t,r,i,v,cm,f,lg,tx]
 have B:=ni.turn (l1:=[_,_,_,_,_]) (c' := .dict (iY H)) B
 show wSs _ _ _ _ _ _ (U5.set t (.dict (iY H)))
 generalize U5.set t (.dict (iY H))=U6 at B ⊢
 show 7
 intro R fR
 have B:=B.new (c:=.list (cW.map (Fl H))) fR
 show wSs _ _ _ _ _ _ (U6.set R (.list (cW.map (Fl H))))
 generalize U6.set R (.list (cW.map (Fl H)))=U7 at B ⊢
 have B7:ni U U7 ([(f,.dict [])]++(cm,.dict [])::(R,.list (cW.map (Fl H)))::(i,.dict [])::(h,.inst 749 d)::(d,.dict (PK t i v cm f (lO fu)))::[(r,.list []),(v,.dict []),(t,.dict (iY H))]):=B.pick [2,3,0,5,7,8,1,4,6] rfl ⋯
 show 7
 refine#[.lst R,by unfold srcOf; show 1; rw[B.ix 0 rfl],?_]
 refine Sd nd nb H rfl rfl rfl rfl rfl rfl B7 λU8 v6 v7 v8 B8=>?_
 have B9:ni U U8 ([(d,.dict (PK t i v cm f (lO fu))),(r,.list []),(v,.dict [])]++[(h,.inst 749 d),(t,.dict (iY H)),(i,.dict []),(cm,.dict (uK H)),(f,.dict [])]):=B8.pick [5,6,7,4,8,3,1,0] rfl ⋯
 have#[f1,f2,own0]:=B9.ins hg
 have I:Inv #[fu,texts] H #[[],[]] (Yn []) U8:=#[f1,f2,rfl,rfl,List.nodup_nil,B8.sub _ _ ht,λm=>by have:=own0 tx m hne; rw[ht]at this; cases this]
 replace own0:∀ a∈addrs H #[[],[]],a≠lg->U a=none:=own0
 show 7
 intro R2 fR2
 have I2:=I.fresh (c:=.list ((pairs first).map zO)) fR2.no
 have nR2:=I.off fR2.no
 have hR2:(U8.set R2 (.list ((pairs first).map zO))) R2=some (.list ((pairs first).map zO)):=aq
 have s9:aO U (U8.set R2 (.list ((pairs first).map zO))):=λb cc z=>fR2.keep _ (B8.sub _ _ z)
 refine#[.lst R2,by unfold srcOf; show 1; rw[Sg.set_same],?_]
 refine T4 nd nb I2 hR2 nR2 λw1 U9 v6 v9 I3 K3=>?_
 show 7
 change Cu
 refine#[.rng 1 1 3,by simp[srcOf],?_]
 refine Ur nd nb h4 hz I3 λw2 U10 v10 I4 K4=>?_
 show 7
 have K:=K3.trans K4
 have off:∀ a cc,U a=some cc->a≠lg->a∉addrs H #[[],[]]:=λa cc z n m=>by rw[own0 a m n]at z; cases z
 refine fn_agI (q H w2 U10 rfl rfl I4 (λa cc z=>?_) (λa ha n=>?_))
 .by_cases e:a=lg
  .rw[e]at z ⊢
   rw[hg]at z
   cases z
   exact I4.j5
  .exact(K.rest a cc (s9 _ _ z) (off a cc z e)).1
 .cases e:U a with
  | none=>rfl
  | some cc=>exact absurd ha (K.rest a cc (s9 _ _ e) (off a cc e n)).2
open Mo in show _
have lN:Rs LN->V
 | .ok v _=>.tup [.int 0,.str v]
 | .dJ e _=>.tup [.int (jN e).1,.str (jN e).2]
 | .out _=>.str zF
open Mo in show ∀{T:Tp}{c:Cx}{X:Addr->Ψ}{U:Sg}{Q:V->Ψ}{n N:Nat}{E:Hv}{H:HC}{w:Wo}{s:cj}{run:bY},_
let Cr(hr:gH T E H N run)(hn:N<=n)(hm:run text s=some r)(I:Inv E H w s U)(sm:∀ e s',r = .dJ e s'->small e)(hq:uN r=false->∀ w' U',Inv E H w' (stOf r) U'->az H w U w' U'->Q (lN r) U')(hx:uN r=true->∀ w' U' e d,Inv E H w' (stOf r) U'->az H w U w' U'->Ro H w' U' e d->X e U'):aj T #[n+2,none] (.ref 590) [.ref H.h,.str text] Q X U:=by
 exists 1,zx,66,b_ae1
 change bM I rfl rfl
 exists rE,62,b_aeF
 change bM I rfl rfl
 exists hr hn I r _ _ hm
 cases r with
 | ok v s' =>
  intro w' U' v' i k q
  cases q
  show 7
  change fn_agI
  exact fn_agI (hq rfl _ _ i k)
 | dJ r' s' =>
  intro w' U' e d x i k nx
  show 7
  change fn_agL
  change lu (.inl rfl) nx.a.he
  change Dh nx.a (sm _ _ rfl)
  exact fn_agI (hq rfl _ _ i k)
 | out s' =>
  intro w' U' e d i k nx
  show 7
  change fn_agL
  change jc (.inr rfl) ⋯ nx.he
  exact fn_agL (hx rfl _ _ _ _ i k nx)
let ym(hr:gH T E H N run)(hn:N<=n)(hm:run text s=some r)(I:Inv E H w s U)(sm:∀ e s',r = .dJ e s'->small e)(hq:∀ w' U',Inv E H w' (stOf r) U'->az H w U w' U'->Q (lN r) U'):aj T #[n+3,none] (.ref 1000) [.ref H.h,.str text] Q X U:=by
 exists 1,Jr,122,b_afW
 change bM I rfl rfl
 refine Cr hr hn hm I sm (λh w' U' i k=>?_) (λh w' U' e d i k nx=>?_)
 .show 7
  exact fn_agI (hq w' U' i k)
 .cases r with
  | out s' =>
   show 7
   change lu (.inr rfl) nx.he
   change oZ nx.he nx.hd ⋯ rfl rfl
   exact fn_agI (hq w' U' i k)
  | ok _ _=>cases h
  | dJ _ _=>cases h
let Ga:∀{l:List Row} {q:List Addr} {i:Nat} {r:Row},q.length=l.length->l[i]? = some r->∃ a,q[i]? = some a/\(jf l q)[i]? = some (qI r a)
 | [],_,_,_,_,h=>by cases h
 | r::l,[],_,_,h,_=>by cases h
 | r::l,a::q,0,_,_,h=>by cases h; exact#[a,rfl,rfl]
 | r::l,a::q,i+1,_,hl,h=>Ga (q:=q) (Nat.succ.inj hl) h
let tC:∀{l:List Row} {q:List Addr} {i:Nat},l[i]? = none->(jf l q)[i]? = none
 | [],q,i,_=>by cases q <;> rfl
 | r::l,[],i,_=>rfl
 | r::l,a::q,0,h=>by cases h
 | r::l,a::q,i+1,h=>tC (q:=q) h
have b_agK:PSs:=match b_afc with | .cons _ (.cons (.forE _ _ _ _ b) _)=>b | _=>.nil
let RP{l:List Row}(h:l[i]? = some r):Gb (l.take (i+1))=Gb (l.take i)+if qg r=true then 1 else 0:=by
 rw[List.take_add_one,h]
 exact Hu _ _
let Ux(nd:gD F)(nb:bw F)(hg:U lg=some (.list (jf l q)))(hl:q.length=l.length)(hc:ZX l)(k:∀ v1 v2 v3,P.nxt [some (.ref lg),v1,v2,v3] U) :
  ∀(m i:Nat) (v2 v3:Option V),l.length=i+m->Bx T F [2,3] lg i b_agK #[n,none] [some (.ref lg),some (.int (Gb (l.take i))),v2,v3] P U:=by
 intro m
 induction m with
 | zero =>
  intro i v2 v3 e
  exists zb nd nb hg rfl
  rw[tC (adM ∎)]
  exact k _ _ _
 | succ m ih =>
  intro i v2 v3 e
  have hr:l[i]? = some (l[i]'∎):=aa1 ∎
  generalize l[i]'∎=r at hr
  have#[a,_,e2]:=Ga hl hr
  exists zb nd nb hg rfl
  rw[e2]
  refine#[rfl,?_]
  have hsp:=hc i r hr
  have hdr:=RP hr
  have next:=ih (i+1)
  unfold b_agK b_afc at next ⊢
  unfold qI
  show 7
  change ao (aaA ∎)
  change it4
  refine .inr (.inl #[r.ws,[[100,101,97,114]],rfl,rfl,?_])
  by_cases c:r.ws=[[100,101,97,114]]
  .change aD (aaB c)
   rw[show(Gb (l.take i):Int)+1=(Gb (l.take (i+1)):Nat) by
    rw[hdr,ad9 (show qg r=true from aaB c)]; rfl]
   exact next _ _ ∎
  .change ao (aaA c)
   rw[show Gb (l.take i)=Gb (l.take (i+1)) by
    rw[hdr,ad8 (show ¬qg r=true from λz=>c (aaD z))]; rfl]
   exact next _ _ ∎
let Ar(I:Inv E H w s U)(hc:ZX s.log)(k:Q (.bool true) U):aj T #[n+1,none] (.ref 1007) [.ref H.log] Q X U:=by
 exists 3,Ad,123,b_afc
 exists Zk rfl I.j5
 refine Ux nd nb I.j5 I.lr hc (λv1 v2 v3=>?_) s.log.length 0 none none ∎
 show 7
 exact fn_agI k
have Qs:List Row->List Addr->List (Int×List V)
 | r::l,a::q=>((r.sp:Int),[.int r.rd,.int r.dp,oR r.fr,.tup (sV r.ws),.ref a])::Qs l q
 | _,_=>[]
let QD:∀{l:List Row} {q:List Addr},jf l q=(Qs l q).map λp=>.tup (.int p.1::p.2)
 | [],_=>by unfold jf Qs; rfl
 | r::l,[]=>rfl
 | r::l,a::q=>by
  show qI r a::jf l q=_::(Qs l q).map _
  rw[QD]; rfl
let MT:∀{l:List Row} {q:List Addr},(Qs l q).length<=l.length
 | [],_=>by unfold Qs; exact abW _
 | r::l,[]=>adD _
 | r::l,a::q=>Nat.succ_le_succ (MT)
let Mf:∀(n:Nat) (l:aX),Nb U n (sV l) (sV l)
 | n,[]=>.nil n
 | n,a::l=>.cons (.str n a) (Mf n l)
let qO:∀(n:Nat) (l:List Vr),Nb U (n+1) (bZ l) (bZ l)
 | n,[]=>.nil _
 | n,v::l=>.cons (.tup (.cons (.str _ _) (.cons (.str _ _) (.cons (.str _ _) (.cons (.int _ _) (.nil _)))))) (qO n l)
let YQ(n)(o:Option LN):Sm U n (oR o) (oR o):=by
 cases o with
 | none=>exact .none n
 | some l=>exact .str n l
let yR:∀{l:List Row} {q:List Addr} {l2:List Row} {q2:List Addr},l2=l.filter (λr=>decide (r.sp<=f))->q.length=l.length->q2.length=l2.length->(∀ p∈gm l q,U p.1=some p.2)->(∀ p∈gm l2 q2,U p.1=some p.2) ->
  Nb U 10 (jf l2 q2) (((Qs l q).filter λp=>decide (p.1<=(f:Int))).map λp=>.tup (.int p.1::p.2))
 | [],q,l2,q2,e,h1,h2,g1,g2=>by
  cases e
  cases q2 with
  | nil=>exact .nil _
  | cons _ _=>cases h2
 | r::l,[],l2,q2,e,h1,_,_,_=>by cases h1
 | r::l,a::q,l2,q2,e,h1,h2,g1,g2=>by
  have g1':=λp hp=>g1 p (.tail _ hp)
  rw[List.filter_cons]at e
  unfold Qs
  rw[List.filter_cons]
  by_cases z:r.sp<=f
  .rw[ad9 (by simpa using z)]at e
   rw[ad9 (by simpa using z),acS]
   subst e
   cases q2 with
   | nil=>cases h2
   | cons b q2 =>
    refine .cons ?_ (yR rfl (Nat.succ.inj h1) (Nat.succ.inj h2) g1' λp hp=>g2 p (.tail _ hp))
    exact .tup (.cons (.int _ _) (.cons (.int _ _) (.cons (.int _ _) (.cons (YQ _ _) (.cons (.tup (Mf _ _)) (.cons (.list (g2 _ (.head _)) (g1 _ (.head _)) (qO 7 _)) (.nil _)))))))
  .rw[ad8 (by simpa using z)]at e
   rw[ad8 (by simpa using z)]
   exact yR e (Nat.succ.inj h1) h2 g1' g2
let Inv.rf(I:Inv E H w s U):∀ p∈gm s.log w.rows,U p.1=some p.2:=λp hp=>I.fs p (by unfold facts; exact .tail _ (.tail _ (.tail _ (.tail _ (.tail _ (.tail _ (.tail _ (.tail _ (.tail _ (adW _ hp))))))))))
let Inv.Zy(I:Inv E H w s U):Inv #[none,E.texts] H w s (U.set H.d (.dict (d9 #[none,E.texts] H s))) :=
 #[by
  have q:=Facts.upd (wc:=[]) (c' := .dict (d9 #[none,E.texts] H s)) I.fs I.fnd
  exact q,I.nd,I.lv,I.lr,I.nm,by rw[Sg.aa _ _ (Ne.symm (I.ne H6))]; exact I.tx,I.tn]
let V0{Q:Bool->Prop}(q:Q true):b8 .Eq (lN r) (lN r) U Q:=by
 cases r with
 | ok v s=>exact .inl #[2,by decide,.tup (.cons (.int _ _) (.cons (.str _ _) (.nil _))),q]
 | dJ e s=>exact .inl #[2,by decide,.tup (.cons (.int _ _) (.cons (.str _ _) (.nil _))),q]
 | out s =>
  show Q (decide (zF=zF))
  rw[aaB rfl]; exact q
let Uc.vb(h:Uc J r):VB J.tx 200 (stOf r).vars/\(stOf r).log.length<=31/\(stOf r).depth=0:=by
 cases r with
 | ok v s=>exact#[h.1.Ni.mono ⋯,h.1.lg.1,by have:=h.1.dp; show s.depth=0; omega]
 | dJ e s=>exact#[h.1.Ni.mono ⋯,h.1.lg.1,by have:=h.1.dp; show s.depth=0; omega]
 | out s=>exact#[OS.vb h,OS.lg h,by have:=OS.dp h; show s.depth=0; omega]
let Gs{tx:aX}{c:Nat}(h:VB tx c vs):vs.length<=900/\∀ v∈vs,v.name.length<=900:=#[by have:=h.len; omega,h.name]
let Uk(ha:U a=some (.list u))(hb:U b=some (.list v))(h:Nb U m u v)(hm:m<20)(q:R false):b8 .NotEq (.ref a) (.ref b) U R:=.inl #[m+1,hm,.list ha hb h,q]
let Z7(ha:U a=some (.list u))(hb:U b=some (.list v))(h:Nb U m u v)(hm:m<20)(q:R true):b8 .Eq (.ref a) (.ref b) U R:=.inl #[m+1,hm,.list ha hb h,q]
let Ui(I:Inv E H w s U)(q:P (U.set H.d (.dict (d9 #[none,E.texts] H s)))):fK U (.ref H.h) n_fuel .none P:=dF I.Ol I.N7 ⋯ cC q
have b_agH:PSs:=match b_aeQ with | .cons _ (.cons _ (.cons _ (.cons _ (.cons _ (.cons _ (.cons (.for _ _ b) _))))))=>b | _=>.nil
let RG(nd:gD F)(nb:bw F)(I1:Inv E1 H1 w1 s1 U)(I2:Inv E H w s U)(hr:s.vars.length<=900/\∀ v∈s.vars,v.name.length<=900)(hs:∀ r∈s1.log,r.sp=f+1->s.vars=r.vs)(k:∀ U' v9,aO U U'->P.nxt [v0,v1,some (.int f),v3,some (.ref H1.log),v5,v6,some (.ref H.h),v8,v9] U') :
  mD T F (.loc 9) (.lst H1.log) 0 b_agH #[n+1,none] [v0,v1,some (.int f),v3,some (.ref H1.log),v5,v6,some (.ref H.h),v8,v9] P U:=by
 refine gF (src:=.lst H1.log) nd nb (by intro _ _ z; cases z) (by intro _ _ z; cases z) s1.log.length (λi O U' => ∃ v9,O=[v0,v1,some (.int f),v3,some (.ref H1.log),v5,v6,some (.ref H.h),v8,v9]/\aO U U') (λi O U' #[_,_,z]=>#[rfl,by rw[z _ _ I1.j5]; trivial]) ?_ ?_ s1.log.length 0 _ _ (Nat.zero_add _).symm #[_,rfl,aO.refl U]
 .rintro i O U' hi ⟨v9,rfl,s2⟩
  have e1:=aa1 hi
  have mem:=List.getElem_mem hi
  generalize s1.log[i]'hi=r at e1 mem
  have#[a,e2,e3]:=Ga I1.lr e1
  have ha:U' a=some (.list (bZ r.vs)):=by
   have:∀{l:List Row} {q:List Addr} {i:Nat} {r:Row} {a:Addr},l[i]? = some r->q[i]? = some a->(a,Cell.list (bZ r.vs))∈gm l q:=λ{l}=>by
    induction l with
    | nil=>intro q i r a h; cases h
    | cons u l ih =>
     intro q i r a h1 h2
     cases q with
     | nil=>cases h2
     | cons b q =>
      cases i with
      | zero=>cases h1; cases h2; exact .head _
      | succ i=>exact .tail _ (ih h1 h2)
   exact s2 _ _ (I1.rf _ (this e1 e2))
  refine#[qI r a,?_,?_]
  .simp only[Src.item]
   rw[s2 _ _ I1.j5]
   exact e3
  unfold b_agH b_aeQ qI
  show 7
  by_cases c:r.sp=f+1
  .change aD (aaB ∎)
   refine lK (I2.keep s2) hr.1 hr.2 λd fd=>?_
   have hd:(U'.set d (.list (bZ s.vars))) d=some (.list (bZ s.vars)):=aq
   have ha':(U'.set d (.list (bZ s.vars))) a=some (.list (bZ r.vs)):=fd.keep _ ha
   have s3:aO U (U'.set d (.list (bZ s.vars))):=λb cc z=>fd.keep _ (s2 _ _ z)
   generalize U'.set d (.list (bZ s.vars))=U3 at hd ha' s3 ⊢
   show 7
   exists it5
   rw[hs r mem c]at hd
   change Uk hd ha' (qO 3 _) ⋯
   exact#[_,rfl,s3]
  .rw[show decide ((r.sp:Int)=(f:Int)+1)=false from aaA ∎]
   show 7
   exact#[_,rfl,s2]
 .rintro O U' ⟨v9,rfl,s2⟩
  refine#[?_,k _ _ s2]
  simp only[Src.item]
  rw[s2 _ _ I1.j5]
  exact tC (adM (abW _))
open Mo in show ∀{T:Tp}{c:Cx}{X:Addr->Ψ}{U:Sg}{Q:V->Ψ}{n:Nat},_
let vM{tx:aX}(I1:Inv #[some 30,tx] H1 w1 (stOf r1) U)(h4:tx.length=4)(hz:∀ t∈tx,t.length<=1000)(C:aby f tx first r1 r2)(k:Q (.bool true) U):aj T #[n+418,none] (.ref 1012) [.ref H1.texts,.str first,.int f,.ref H1.h,.ref H1.log,lN r1] Q X U:=by
 refine(Ho 4 vR (fm 124) rfl λF nd nb=>?_).call
 unfold b_aeQ
 show 7
 intro lg fl
 have hl:(U.set lg (.list [])) lg=some (.list []):=aq
 have s1:aO U (U.set lg (.list [])):=(aO.refl U).turn fl.no
 have nl:=fl.ne I1.tx
 have fno:∀ a cc,U a=some cc->a≠lg:=λa cc z=>fl.ne z
 generalize U.set lg (.list [])=U1 at hl s1 ⊢
 show 7
 refine Aa (fu:=some f) (s1 _ _ I1.tx) hl nl h4 hz λH w U2 eL eT I2 s2 own=>?_
 subst eL
 have t0:(sV tx)[0]? = some (.str (tx[0]?.getD [])):=by
  unfold sV
  rw[acZ,aa1 ∎]; rfl
 show 7
 change pQ (s2 _ _ (s1 _ _ I1.tx)) t0
 refine ym (runC (cmp T) 14) ∎ C.run2 I2 C.sm λw2 U3 I3 K3=>?_
 have s3':=λa cc z=>by
  refine K3.rest a cc (s2 _ _ (s1 _ _ z)) λq=>?_
  have:=own a q (fno a cc z)
  rw[s1 _ _ z]at this; cases this
 have s3:=λa cc z=>(s3' a cc z).1
 show 7
 have l1:=C.lg1
 have l2:=C.lg2
 refine#[H1.log,f,Qs (stOf r1).log w1.rows,rfl,rfl,rfl,by rw[← QD]; exact s3 _ _ I1.j5,by have:=MT (l:=(stOf r1).log) (q:=w1.rows); omega,λD fD=>?_]
 have s4:aO U3 (U3.set D (.list (((Qs (stOf r1).log w1.rows).filter λp=>decide (p.1<=(f:Int))).map λp=>V.tup (.int p.1::p.2)))):=λb cc z=>fD.keep _ z
 have hD:(U3.set D (.list (((Qs (stOf r1).log w1.rows).filter λp=>decide (p.1<=(f:Int))).map λp=>V.tup (.int p.1::p.2)))) D=some (.list _):=aq
 generalize U3.set D (.list (((Qs (stOf r1).log w1.rows).filter λp=>decide (p.1<=(f:Int))).map λp=>V.tup (.int p.1::p.2)))=U4 at s4 hD ⊢
 have I4:=I3.keep s4
 have sA:aO U U4:=λa cc z=>s4 _ _ (s3 _ _ z)
 have J4:=I1.keep sA
 have r1':=Gs C.vb1
 have r2':=Gs C.vb2
 show 7
 change Uk I4.j5 hD (yR C.log I1.lr I3.lr (λp hp=>sA _ _ (I1.rf p hp)) I4.rf) ⋯
 exists jZ I4
 rw[C.dep]
 show 7
 rw[show decide (((0:Nat):Int)≠0)=false from rfl]
 show 7
 exists rF I4
 rw[C.frm]
 dsimp only[oR]
 show 7
 rw[show decide (([116,111,112]:LN)≠[116,111,112])=false from rfl]
 show 7
 change eU J4
 rcases C.alt with⟨a1,rfl⟩ | ⟨a1,a2,a3,a4,a5⟩
 .change aD (aaB ∎)
  change V0
  change eU I4
  change eU J4
  rw[aaB (rfl:((stOf r2).spent:Int)=(stOf r2).spent)]
  show 7
  refine lK I4 r2'.1 r2'.2 λd1 fd1=>?_
  have e1:(U4.set d1 (.list (bZ (stOf r2).vars))) d1=some (.list (bZ (stOf r2).vars)):=aq
  have s5:aO U4 (U4.set d1 (.list (bZ (stOf r2).vars))):=λb cc z=>fd1.keep _ z
  generalize U4.set d1 (.list (bZ (stOf r2).vars))=U5 at e1 s5 ⊢
  show 7
  refine lK (J4.keep s5) r2'.1 r2'.2 λd2 fd2=>?_
  have e2:(U5.set d2 (.list (bZ (stOf r2).vars))) d2=some (.list (bZ (stOf r2).vars)):=aq
  have e3:(U5.set d2 (.list (bZ (stOf r2).vars))) d1=some (.list (bZ (stOf r2).vars)):=fd2.keep _ e1
  have s6:aO U (U5.set d2 (.list (bZ (stOf r2).vars))):=λb cc z=>fd2.keep _ (s5 _ _ (sA _ _ z))
  generalize U5.set d2 (.list (bZ (stOf r2).vars))=U6 at e2 e3 s6 ⊢
  show 7
  change Z7 e3 e2 (qO 3 _) ⋯
  exact#[U,s6,k]
 .change ao (aaA ∎)
  cases r2 with
  | ok _ _=>cases a2
  | dJ _ _=>cases a2
  | out s2 =>
  generalize lN r1=t1
  rw[show lN (.out s2) = .str zF from rfl]
  show 7
  rw[show decide ((zF:LN)≠[116,104,101,32,115,99,114,105,112,116,32,115,112,101,110,116,32,97,108,108,32,105,116,115,32,102,117,101,108])=false from rfl]
  show 7
  change eU I4
  rw[a3,show decide (((f+1:Nat):Int)≠(f:Int)+1)=false from aaA ∎]
  show 7
  refine#[.lst H1.log,by unfold srcOf; show 1; rw[J4.j5],?_]
  refine RG nd nb J4 I4 r2' a4 λU5 v9 s5=>?_
  have I5:=I4.keep s5
  show 7
  exists Ui I5
  have I6:Inv #[none,tx] H w2 s2 (U5.set H.d (.dict (d9 #[none,tx] H s2))):=I5.Zy
  show wSs _ _ _ _ _ _ (U5.set H.d (.dict (d9 #[none,tx] H s2)))
  have h6:∀ a cc,U5 a=some cc->a≠H.d->(U5.set H.d (.dict (d9 #[none,tx] H s2))) a=some cc:=λa cc z n=>(Sg.aa _ _ n).trans z
  generalize U5.set H.d (.dict (d9 #[none,tx] H s2))=U6 at I6 h6 ⊢
  show 7
  change bM I6 rfl rfl
  have rm:room s2:=#[by have:s2.log.length<=31:=l2; omega,r2'.1,r2'.2]
  refine Cr (runC (cmp T) 14) ∎ (aa9 C.dep rm a5) I6 (λe s' z=>by cases z) (λ_ w3 U7 I7 K7=>?_) (λz=>by cases z)
  rw[show lN (.ok [60,113,62] _) = .tup [.int 0,.str [60,113,62]]from rfl]
  show 7
  refine .inl #[2,by decide,.tup (.cons (.int _ _) (.cons (.str _ _) (.nil _))),?_]
  show 7
  change eU I7
  refine#[U,λa cc z=>?_,?_]
  .have#[z1,z2]:=s3' a cc z
   exact(K7.rest a cc (h6 a cc (s5 _ _ (s4 _ _ z1)) λe=>z2 (e▸H6)) z2).1
  .refine(aaB (?_:((s2.spent+1:Nat):Int)=(f:Int)+2))▸k
   have:s2.spent=f+1:=a3
   omega
open Mo in show _
let W3{tx:aX}(h:X4 tx)(hf:first∈kh)(e1:runM #[some 30,tx] 14 (tx[0]?.getD []) (st0 tx first)=some r1)(hF:f<=30):∃ r2,aby f tx first r1 r2:=by
 have#[r1',r2,e1',e2,k1,k2,fin,cut]:=Ng h hf hF
 rw[e1]at e1'
 cases e1'
 have#[v1,l1,d1]:=k1.vb
 have#[v2,l2,d2]:=k2.vb
 have fr:=fin.fr
 have sm:∀ e s',r2 = .dJ e s'->small e:=λe s' z=>by subst z; exact k2.2.small ⋯
 refine#[r2,?_]
 rcases cut with⟨a1,rfl⟩ | ⟨a1,s2,rfl,a3,a4,a5,a6,a7⟩
 .refine#[e2,?_,d2,fr.frame,sm,v1,v2,l1,l2,.inl #[a1,rfl]]
  have#[new,q1,q2]:=fr.log
  refine(filter_all λr hr=>?_).symm
  rw[q1]at hr
  exact aaC (q2 r hr).2 a1
 .exact#[e2,a4,d2,a7,sm,v1,v2,l1,l2,.inr #[a1,rfl,a3,a5,by have:=OS.rd k2; show s2.rounds.length<=900; omega]]
let whole_of{tx:aX}(h:X4 tx)(hf:first∈kh):∃ r1,runM #[some 30,tx] 14 (tx[0]?.getD []) (st0 tx first)=some r1/\ZX (stOf r1).log/\(stOf r1).depth=0/\(stOf r1).frame=some [116,111,112]/\(∀ e s',r1 = .dJ e s'->small e)/\(uN r1=true->(stOf r1).spent=31)/\(uN r1=false->(stOf r1).spent<=30):=by
 have#[r1,r2,e1,e2,k1,k2,fin,cut]:=Ng h hf (abW 30)
 refine#[r1,e1,?_,k1.vb.2.2,fin.fr.frame,λe s' z=>by subst z; exact k1.2.small ⋯,λz=>?_,λz=>?_]
 .cases r1 with
  | ok v s=>exact fin.1.cnt
  | dJ e s=>exact fin.1.cnt
  | out s=>exact fin.2.2
 .cases r1 with
  | ok v s=>cases z
  | dJ e s=>cases z
  | out s =>
   have#[F,h1,h2]:=fin.2.1
   cases h1
   exact h2
 .cases r1 with
  | ok v s=>exact fin.1.le
  | dJ e s=>exact fin.1.le
  | out s=>cases z
open Mo in show ∀{T:Tp}{c:Cx}{X:Addr->Ψ}{U:Sg}{Q:V->Ψ}{n:Nat},_
let aap{Q:Bool->Prop}(q:Q (uN r)):b8 .Eq (lN r) (.str zF) U Q:=by
 cases r with
 | ok v s=>exact .inr (.inr #[_,_,rfl,rfl,q])
 | dJ e s=>exact .inr (.inr #[_,_,rfl,rfl,q])
 | out s =>
  show Q (decide (zF=zF))
  rw[aaB rfl]; exact q
let VJ{Q:Bool->Prop}(e:a=b)(q:Q false):b8 .NotEq (.bool a) (.bool b) U Q:=by
 subst e
 exact .inl #[0,by decide,.bool _ _,q]
have b_ags:PSs:=match b_agJ with | .cons _ (.cons _ (.cons _ (.cons _ (.cons _ (.cons _ (.cons (.for _ _ b) _))))))=>b | _=>.nil
let Jg(nd:gD F)(nb:bw F){tx:aX}(ha:Bf T a (iV is))(hz0:is.length<=1000)(I1:Inv #[some 30,tx] H1 w1 (stOf r1) U)(ht:X4 tx)(hf:first∈kh)(e1:runM #[some 30,tx] 14 (tx[0]?.getD []) (st0 tx first)=some r1)(h4:tx.length=4)(hz:∀ t∈tx,t.length<=1000)(k:∀ v6,P.nxt [some (.ref a),some (.ref H1.texts),some (.ref H1.log),some (.str first),some (.ref H1.h),some (lN r1),v6] U) :
  mD T F (.loc 6) (.rng 12 1 3) 0 b_ags #[n+418,none] [some (.ref a),some (.ref H1.texts),some (.ref H1.log),some (.str first),some (.ref H1.h),some (lN r1),v6] P U:=by
 refine gF (c:=#[n+418,none]) (src:=.rng 12 1 3) nd nb (by intro _ _ z; cases z) (by intro _ _ z; cases z) 3 (λi O U'=>U'=U/\∃ v6,O=[some (.ref a),some (.ref H1.texts),some (.ref H1.log),some (.str first),some (.ref H1.h),some (lN r1),v6]) (λi O U' _=>rfl) ?_ ?_ 3 0 _ _ rfl #[rfl,_,rfl]
 .rintro i O U' hi ⟨rfl,v6,rfl⟩
  refine#[.int ((12+i:Nat):Int),?_,?_]
  .simp only[Src.item]
   rw[ad9 ∎]
   congr 2
   omega
  unfold b_ags b_agJ
  show 7
  change lA ha hz0 ∎
  have#[f,hf1,hf2]:=dB (jC is (12+i)) (m:=31) ⋯
  change iR ⋯
  rw[show jC is (12+i)%31=(f:Int)from hf1]
  have#[r2,C]:=W3 ht hf e1 (f:=f) ∎
  change vM I1 h4 hz C
  exact#[rfl,_,rfl]
 .rintro O U' ⟨rfl,v6,rfl⟩
  exact#[by simp[Src.item],k v6]
let abX(ha:Bf T a (iV is))(hz:is.length<=1000)(k:Q (.bool true) U):aj T #[n+419,none] (.ref 1019) [.ref a] Q X U:=by
 exists 6,acE,125,b_agJ
 refine Az ha hz λd U1 s1 nd1 hd=>?_
 show 7
 intro lg fl
 have hl:(U1.set lg (.list [])) lg=some (.list []):=aq
 have hd2:(U1.set lg (.list [])) d=some (.list (sV (Vk is))):=fl.keep _ hd
 have nl:=fl.ne hd
 have s2:aO U (U1.set lg (.list [])):=λb cc z=>fl.keep _ (s1 _ _ z)
 have bl:∀ b cc,U b=some cc->b≠lg:=λb cc z=>fl.ne (s1 _ _ z)
 generalize U1.set lg (.list [])=U2 at hl hd2 s2 ⊢
 show 7
 intro e fe
 have he:(U2.set e (.list (sV kh))) e=some (.list (sV kh)):=aq
 have hl3:(U2.set e (.list (sV kh))) lg=some (.list []):=fe.keep _ hl
 have hd3:(U2.set e (.list (sV kh))) d=some (.list (sV (Vk is))):=fe.keep _ hd2
 have s3:aO U (U2.set e (.list (sV kh))):=λb cc z=>fe.keep _ (s2 _ _ z)
 show wE _ _ _ _ _ _ (U2.set e (.list (sV kh)))
 generalize U2.set e (.list (sV kh))=U3 at he hl3 hd3 s3 ⊢
 show 7
 change lA ha hz ⋯
 have#[m,hm1,hm2]:=dB (jC is 15) (m:=3) ⋯
 change iR ⋯
 rw[show jC is 15%3=(m:Int)from hm1]
 have hdg:∃ first,(sV kh)[m]? = some (.str first)/\first∈kh:=by
  rcases m with _ | _ | _ | m
  .exact#[[48],rfl,by decide]
  .exact#[[49],rfl,by decide]
  .exact#[[50],rfl,by decide]
  .omega
 have#[first,hf1,hf]:=hdg
 exists pQ he hf1
 have h4:(Vk is).length=4:=by unfold Vk; rw[ac0,List.length_range]
 have hz2:∀ t∈Vk is,t.length<=1000:=λt ht=>by
  unfold Vk at ht
  have#[k,hk,rfl]:=adw.mp ht
  have hk:=ad3.mp hk
  exact aaC (QG hk (fM hk) (fM hk) (fM hk)).len ⋯
 have ht:=ZJ is
 generalize Vk is=tx at h4 hz2 ht hd3
 have#[r1,e1,w1,w2,w3,w4,w5,w6]:=whole_of ht hf
 show 7
 refine Aa (fu:=some 30) hd3 hl3 nl h4 hz2 λH w U4 eL eT I s4 own=>?_
 have t0:(sV tx)[0]? = some (.str (tx[0]?.getD [])):=by
  unfold sV
  rw[acZ,aa1 ∎]; rfl
 show 7
 change pQ (s4 _ _ hd3) t0
 refine ym (runC (cmp T) 14) ∎ e1 I w4 λw' U5 I5 K5=>?_
 have s5:=λb cc z=>by
  refine(K5.rest b cc (s4 _ _ (s3 _ _ z)) λq=>?_).1
  have:=own b q (bl b cc z)
  rw[s3 _ _ z]at this; cases this
 subst eL eT
 show 7
 change Ar I5 w1
 exists eU I5
 have sp:(stOf r1).spent<=31:=by
  cases z:uN r1 with
  | true=>rw[w5 z]; exact abW _
  | false=>exact Nat.le_succ_of_le (w6 z)
 show 7
 rw[show decide ((31:Int)<((stOf r1).spent:Nat))=false from aaA ∎]
 show 7
 exists jZ I5
 rw[w2]
 show 7
 rw[show decide (((0:Nat):Int)≠0)=false from rfl]
 show 7
 exists rF I5
 rw[w3]
 dsimp only[oR]
 show 7
 rw[show decide (([116,111,112]:LN)≠[116,111,112])=false from rfl]
 show 7
 change aap
 change eU I5
 exists VJ ?_
 .cases z:uN r1 with
  | true=>rw[w5 z]; rfl
  | false=>exact(aaA (by have:=w6 z; omega)).symm
 show 7
 change Cu
 refine#[.rng 12 1 3,by simp[srcOf],?_]
 refine Jg nd nb ha hz I5 ht hf e1 h4 hz2 λv6=>?_
 show 7
 exact#[U,s5,k]
open Mo in show _
let fn_of{K:Frag}(h:gh.map (fnL K)=gh.map (fnR K)):∀ f q D dv,(f,q,D,dv)∈gh->∃ oc od pm an cdv ct kV doc osl,K.lookup f=some #[oc,od,.func (fnOf D.name q D.params D.body D.scope (match dv with | some t=>.ref t | none=>.none) kV doc pm an cdv ct),osl]/\codeIn K cdv q=true:=λf q D dv m=>by
 have e:=List.map_inj_left.mp h _ m
 unfold fnL fnR at e
 cases z:K.lookup f with
 | none=>rw[z]at e; dsimp only at e; cases(Prod.mk.injEq .. ▸ e).2
 | some o =>
  rw[z]at e
  have#[oc,od,dt,osl]:=o
  cases dt
  case func fd =>
   have#[e1,e2]:=Prod.mk.injEq .. ▸ e
   exact#[oc,od,fd.pyModule,fd.annotations,fd.code,fd.closureTuple,fd.kwdefaults,fd.doc,osl,by rw[← e1],e2]
  all_goals(dsimp only at e; cases(Prod.mk.injEq .. ▸ e).2)
let Ua(h:glV v y=true)(g):Rep g v y:=by
 unfold glV at h
 show 2
 .rw[beq_iff_eq]at h; subst h; exact .ref _
 .rw[beq_iff_eq]at h; subst h; exact .typ _
 .rw[beq_iff_eq]at h; subst h; exact .bi _
 .cases h
let RT:∀{l:List (Str×α)},lk x l=some v->(x,v)∈l
 | (y,u)::r,h=>by
  unfold lk at h
  show 2
  .rename_i e; cases h; subst e; exact .head _
  .exact .tail _ (RT h)
let aaL{K:Frag}{mg mb:Str->Option Value}(X:K.In hp)(G0:hp.Ns mainGlobals mg)(bu:∀ x:Str,x≠"__name__"->mb x=bootBuiltins x)(h:tE.all (glL K)=true) :
  ∀ x v,gl x=some v->∃ y,(mg x=some y∨(mg x=none/\mb x=some y))/\∀ g,Rep g v y:=λx v e=>by
 have q:=ac4.mp h _ (RT e)
 unfold glL at q
 split at q
 .rename_i y z
  exact#[y,.inl (mg_of X G0 z),Ua q]
 .rename_i z
  have#[q1,q2]:=Bool.and_eq_true_iff.mp q
  split at q1
  .rename_i y w
   exact#[y,.inr #[ns_none_of X G0 z,(bu x (by simpa using q2)).trans w],Ua q1]
  .cases q1
 .cases q
let Ha(h:NP o=some (xs,n)):o=iK xs n:=by
 unfold NP at h
 show 2
 .show 2
  .rename_i c ys m q
   have#[rfl,rfl]:=Prod.mk.injEq .. ▸ Option.some.inj h
   rw[beq_iff_eq]at q
   subst q
   unfold iK
   rfl
  .cases h
 .cases h
let Yg(h:n<=100):n<=sizeLine:=by rw[acM]; omega
let rec W0{K:Frag}(k:∀ a o,K.lookup a=some o->g a = .imm o):∀{v:V} {y:Value},xO K v y=true->Rep g v y
 | .none,y,h=>by cases y <;> first | exact .none | (unfold xO at h; cases h)
 | .bool b,y,h=>by
  cases y <;> unfold xO at h <;> first | cases h | skip
  rw[beq_iff_eq]at h; subst h; exact .bool _
 | .int i,y,h=>by
  cases y <;> unfold xO at h <;> first | cases h | skip
  rw[beq_iff_eq]at h; subst h; exact .int _ _
 | .str l,y,h=>by
  cases y <;> unfold xO at h <;> first | cases h | skip
  have#[h1,h2]:=Bool.and_eq_true_iff.mp h
  rw[beq_iff_eq]at h1; subst h1; exact .str _ _ (Yg (aaD h2))
 | .tup vs,y,h=>by
  cases y <;> unfold xO at h <;> first | cases h | skip
  show 2
  .rename_i o e
   show 2
   .rename_i xs n q
    have#[h1,h2]:=Bool.and_eq_true_iff.mp h
    exact .tup ((k _ _ e).trans (by rw[Ha q])) (yD k h1) (Yg (aaD h2))
   .cases h
  .cases h
 | .ref _,y,h=>by unfold xO at h; cases h
 | .typ _,y,h=>by unfold xO at h; cases h
 | .bi _,y,h=>by unfold xO at h; cases h
 | .rng _ _ _,y,h=>by unfold xO at h; cases h;done,
yD{K:Frag}(k:∀ a o,K.lookup a=some o->g a = .imm o):∀{vs:List V} {xs:List Value},xU K vs xs=true->aV g vs xs
 | [],[],_=>.nil
 | v::vs,x::xs,h=>by
  unfold xU at h
  have#[h1,h2]:=Bool.and_eq_true_iff.mp h
  exact .cons (W0 k h1) (yD k h2)
 | [],_::_,h=>by unfold xU at h; cases h
 | _::_,[],h=>by unfold xU at h; cases h
let aam{K:Frag}(h:qi.all (Y9 K)=true):∀ t vs,(t,vs)∈qi->∃ xs n,K.lookup t=some (iK xs n)/\∀ g,(∀ a o,K.lookup a=some o->g a = .imm o)->aV g vs xs:=λt vs m=>by
 have q:=ac4.mp h _ m
 unfold Y9 at q
 split at q
 .rename_i o e
  split at q
  .rename_i xs n z
   exact#[xs,n,by rw[e,Ha z],λg k=>yD k q]
  .cases q
 .cases q
let Cd:∀{l:List Value},aM l=true->∀ X,l.contains (.type X)=bmE.contains (.type X)
 | [],h,X=>by cases h
 | v::r,h,X=>by
  by_cases e:∃ a,v = .ref a
  .have#[a,rfl]:=e
   have:=Cd (by unfold aM at h; exact h) X
   rw[List.contains_cons,this]
   have z:((Value.type X)==Value.ref a)=false:=beq_eq_false_iff_ne.mpr (by intro z; cases z)
   rw[z,Bool.false_or]
  .have:(v::r)=bmE:=by
    unfold aM at h
    show 2
    .rename_i a r' q; cases q; exact(e #[_,rfl]).elim
    .exact beq_iff_eq.mp h
   rw[this]
let Zr{K:Frag}(h:ZC K (C,f)=aay K (C,f)):∃ nm q N bs bm hdct sn sub ab col dd k0 k1 k2 k3 k5,K.lookup C=some (excClassObj nm q C N bs bm hdct sn sub ab col dd k0 k1 k2 k3 k5 "Exception.__new__")/\∀ X,bm.contains (.type X)=bmE.contains (.type X):=by
 unfold ZC aay at h
 cases z:K.lookup C with
 | none=>rw[z]at h; dsimp only at h; cases(Prod.mk.injEq .. ▸ h).2
 | some o =>
  rw[z]at h
  have#[oc,dd,dt,sl]:=o
  cases dt
  case cls cd =>
   have#[e1,e2]:=Prod.mk.injEq .. ▸ h
   exact#[_,_,_,_,_,_,_,_,_,_,_,_,_,_,_,_,congrArg some e1,Cd e2]
  all_goals(dsimp only at h; cases(Prod.mk.injEq .. ▸ h).2)
let jy{α β:Type}{l:List α}{f g:α->β}(h:l.map f=l.map g){x:α}(m:x∈l):f x=g x:=List.map_inj_left.mp h x m
have adO(w:World)(s:Shared)(K:Frag)(mg mb:Str->Option Value)(X:K.In s.heap)(g:s.heap.Ns mainGlobals mg)(b:s.heap.Ns builtinsNs mb)(nl:s.heap.NoLimit)(bu:∀ x:Str,x≠"__name__"->mb x=bootBuiltins x)(sy:∃ o,s.heap.get? sysModules=some o)(C:Chk K):Tp:={
 prog:=PySem.Challenge.pw_oj0091_01
 w:=w
 s0:=s
 K:=K
 mg:=mg
 mb:=mb
 inK:=X
 g:=g
 b:=b
 nolimit:=nl
 bu:=bu
 glok:=aaL X g bu C.gl
 sysm:=sy
 fn_ok:=fn_of C.fn
 attr_ok:=λc n m=>by
  have:=jy C.at_ m
  simp only[Prod.mk.injEq]at this
  exact this
 exc_ok:=λc n m=>by
  have:=jy C.ex m
  simp only[Prod.mk.injEq]at this
  exact this
 meth_ok:=λc n f m=>by
  have:=jy C.me m
  simp only[Prod.mk.injEq]at this
  exact this
 keep_ok:=λc m=>jy C.ke m
 isi_ok:=λc m=>by
  have:=jy C.is_ m
  simp only[Prod.mk.injEq]at this
  exact this
 make_ok:=λc f m=>by
  have:=jy C.mk_ m
  simp only[Prod.mk.injEq]at this
  exact this
 excn_ok:=λc f m=>by
  have:=jy C.xn m
  simp only[Prod.mk.injEq]at this
  exact#[Zr (jy C.xo m),this]
 exm_ok:=λc d f f' m m'=>jy (jy C.xm m) m'
 host_ok:=by
  have:=C.ho
  simp only[Prod.mk.injEq]at this
  exact this
 def_ok:=aam C.df }
have g0(h:Heap):G:=λa=>match h.get? a with | some o=>.imm o | none=>.free
let Xk(e:h.get? a=some o):g0 h a = .imm o:=by unfold g0; rw[e]
let si0(w)(s):Mine.Si w s (g0 s.heap) s:=#[λa=>by
 unfold g0
 cases e:s.heap.get? a with
 | none=>trivial
 | some o=>exact e,λa o e=>Xk e,rfl,rfl]
let ints_of:∀{xs:List WData},WShape.hasItems R xs .int=true->∃ is:List Int,xs=is.map .int
 | [],_=>#[[],rfl]
 | x::xs,h=>by
  have#[h1,h2]:=Bool.and_eq_true_iff.mp (show(WShape.has R x .int&&WShape.hasItems R xs .int)=true from h)
  have#[i,rfl]:=hasW_int h1
  have#[is,rfl]:=ints_of h2
  exact#[i::is,rfl]
let zm(g):∀{is:List Int} {vs:List Value} {as:List Addr},ReadsAllW R cl h vs (is.map .int) as->aV g (iV is) vs
 | [],vs,as,r=>by cases r; exact .nil
 | i::is,vs,as,r=>by
  cases r with | cons r1 r2 =>
  cases r1
  exact .cons (.int _ _) (zm g r2)
let Vs(h:(PySem.Challenge.rw_oj0091_01.row.toRowW).pre.holds [] { args:=[.list xs] }=true):xs.length<=63:=by
 by_cases z:((63:Int)<xs.length)
 .exfalso
  unfold WTm.holds at h
  have e:WTm.value [] (PySem.Challenge.rw_oj0091_01.row.toRowW).pre { args:=[.list xs] }=WTm.value [] (.and (.not (.lt (.lit (.int 63)) (.len (.arg 0)))) (.lit (.bool true))) { args:=[.list xs] }:=rfl
  rw[e]at h
  have e2:less? (.int 63) (.int xs.length)=some (decide ((63:Int)<xs.length)):=rfl
  simp[WTm.value,e2,z]at h
 .omega
let ac1{K:Params->Frag}{e:∀ P,as=(K P).map (·.1)}(C:∀ P,Chk (K P)){d:DefRec}(hq:importsNone q=true)(hd:d.name="law"):WalkO q loose XP (kHook K as e).says PySem.Challenge.rw_oj0091_01.row.toRowW d [] λf vs=>call f vs:=by
 intro w s0 wy mg mb Gr Y a o pm cd doc dV kV ho hda hcd hD hmg hg args vals ads hpre hlay hrd hwl hlo
 have X:=kIn_of Y
 have sy:∃ o,wy.heap.get? sysModules=some o:=let#[_,#[o,_,_,ho,_],_]:=(Gr.T.seer hq).mods; #[o,ho]
 let T:=adO w wy (K w.params) mg mb X Gr.T.g Gr.T.b Gr.T.nolimit Gr.T.builtins sy (C _)
 rw[hd]at hmg
 have ea:a=1019:=by
  have:=(mg_of X Gr.T.g (C _).la).symm.trans hmg
  cases this; rfl
 subst ea
 have#[h1,h2]:=pre_splitW hpre
 have#[x,r,rfl,h3,h4]:=hasAllW_cons h1
 obtain rfl:=hasAllW_nil h4
 have#[xs,rfl,h5]:=hasW_list h3
 have#[is,rfl]:=ints_of h5
 have hl:=Vs h2
 rw[ac0]at hl
 cases hrd with | cons r1 r2=>cases r2; cases r1 with | list k1 k2 k3 k4 =>
 rename_i b ob vs n bs
 have L:Bf T b (iV is):=#[vs.toList,#[ob,k1,k2,n,k3],λg=>zm g k4,by unfold iV; rw[ac0,acM]; omega]
 have F:=abX (n:=0) (X:=λ_ _=>False) (Q:=λv _=>v = .bool true) (U:=λ_=>none) L ∎ rfl
 have Wo:=F (g0 wy.heap) wy callerA [] (.ref 1019) [.ref b] (λ_ _ z=>by cases z) (si0 w wy) #[by decide,by decide,rfl,(λ_ z=>absurd z (Option.some_ne_none _).symm),rfl,(λ_ z=>absurd z acX)] (.ref _) (.cons (.ref _) .nil)
 exists aaz Wo ?_
 .rintro v s' ⟨g',x,U',le,si,vw,rp,rfl⟩
  cases rp
  refine#[.inl #[_,.bool true,[],rfl,λcls=>raisesW_false (λct m=>by cases m) cls,.bool _,postW_of (by rfl) (by rfl) ⋯,λ_=>#[List.nodup_nil,λ_ z=>absurd z acX]],.of_keep si.base',si.os,.of_eq (si.gens.trans hg)]
 .rintro v s' ⟨g',x,U',_,_,_,_,_,z⟩
  exact z.elim
open Mo Lean Meta Elab Tactic in show _
letI ia(e:XE)(n:Name)(k:Nat):=e.isAppOfArity n k
letI lv(e:XE):=e.getAppFn.constLevels!
letI lb(e:XE):=e.hasLooseBVar 0
letI lw(e:XE):=e.lowerLooseBVars 1 1
letI mc(n:Name)(l:List Level:=[]):=mkConst n l
open Mo Lean Meta Elab Tactic in show ∀{α:Sort u1}{β:Sort u2}{γ:Sort u3}{δ:Sort u4}{ε:Sort u5}{q:Prop},_
let ex2(P:α->β->Prop)(a:α)(b:β)(h:P a b):∃ a b,P a b:=⟨a,b,h⟩
let ex3(P:α->β->γ->Prop)(a:α)(b:β)(c:γ)(h:P a b c):∃ a b c,P a b c:=⟨a,b,c,h⟩
let ex4(P:α->β->γ->δ->Prop)(a:α)(b:β)(c:γ)(d:δ)(h:P a b c d):∃ a b c d,P a b c d:=⟨a,b,c,d,h⟩
let ex5(P:α->β->γ->δ->ε->Prop)(a:α)(b:β)(c:γ)(d:δ)(e:ε)(h:P a b c d e):∃ a b c d e,P a b c d e:=⟨a,b,c,d,e,h⟩
let el2(P:α->β->Prop)(h:∃ a b,P a b)(f:∀ a b,P a b->q):q:=h.elim λa h=>h.elim (f a)
let el3(P:α->β->γ->Prop)(h:∃ a b c,P a b c)(f:∀ a b c,P a b c->q):q:=h.elim λa h=>el2 (P a) h (f a)
let el4(P:α->β->γ->δ->Prop)(h:∃ a b c d,P a b c d)(f:∀ a b c d,P a b c d->q):q:=h.elim λa h=>el3 (P a) h (f a)
let el5(P:α->β->γ->δ->ε->Prop)(h:∃ a b c d e,P a b c d e)(f:∀ a b c d e,P a b c d e->q):q:=h.elim λa h=>el4 (P a) h (f a)
open Mo Lean Meta Elab Tactic in show _
letI exP(k:Nat)(p:XE):Option XE:=match k,p with
 | 0,_=>none
 | 1,p=>some p
 | k+1,.lam n t b bi=>if ia b ``Exists 2 then(exP k b.appArg!).map λr=>.lam n t r bi else none
 | _,_=>none
letI exN(p:XE)(k:Nat):Nat:=match k,p with
 | k+1,.lam _ _ b _=>if ia b ``Exists 2 && !b.appFn!.appArg!.hasLooseBVars&&b.appArg!.isLambda then 1+exN b.appArg! k else 1
 | _,_=>1
letI introN(h:XE)(k:Nat)(r:Array XE):Array XE×XE:=match k with
 | 0=>(r,h)
 | k+1=>if ia h ``Exists.intro 4 then introN h.appArg! k (r.push h)else(r,h)
letI XR(f:XE)(k:Nat)(r:Array (Name×XE×Level)):Option (Array (Name×XE×Level)×XE):=match k,f with
 | 0,f=>some (r,f)
 | k+1,.lam n t (.lam _ _ b _) _ =>
  if ia b ``Exists.elim 5&&b.getArg! 3 == .bvar 0 && !(b.getArg! 4).hasLooseBVar 0 then
   XR ((b.getArg! 4).lowerLooseBVars 1 1) k (r.push (n,t,b.getAppFn.constLevels![0]!))
  else none
 | _,_=>none
letI qP(u0:Nat)(e:XE):XE:=match u0 with
 | 0=>e
 | u0+1=>if ia e ``id 2 then qP u0 e.appArg! else match e with | .mdata _ b=>qP u0 b | _=>e
letI qz(k:Nat)(e:XE):Bool:=match k,e with
 | 0,_=>true
 | k+1,.lam _ _ b _=>qz k b
 | _,_=>false
letI arity(n:Name):M1 Nat:=do
 if let some k:=(← get).ar.get? n then return k
 let k ← try pure ((← getConstInfo n).type.getNumHeadForalls) catch _=>pure 1000
 modify λs=>{ s with ar:=s.ar.insert n k }
 return k
letI Oq:List Name:=[``congrArg,``congr,``congrFun,``congrFun',``Eq.trans,``Eq.symm,``funext,``forall_congr,``implies_congr,``ite_congr,``dite_congr,``implies_dep_congr_ctx,``let_congr,``forall_prop_domain_congr]
letI gk(e:XE):Bool:=ia e ``Eq.refl 2||ia e ``rfl 2
letI UL(j:Nat)(k:XE):Option XE:=match j,k with
 | 0,b=>some b
 | j+1,.lam _ t b _ =>
  if ia t ``Eq 3 then UL j (b.instantiate1 (mkApp2 (mc ``Eq.refl (lv t)) (t.getArg! 0) (t.getArg! 1)))
  else if ia t ``HEq 4 then UL j (b.instantiate1 (mkApp2 (mc ``HEq.refl (lv t)) (t.getArg! 0) (t.getArg! 1)))
  else none
 | _,_=>none
letI abF(t:XE)(k:Nat)(r:Array XE:=([].toArray)):Array XE:=match k,t with
 | k+1,.forallE _ d b _=>abF b k (r.push d)
 | _,_=>r
letI eqs(u0:Nat)(kT P:XE):Nat:=match u0 with
 | 0=>0
 | u0+1=>match kT with
 | .forallE _ d b _=>if kT==P then 0 else if ia d ``Eq 3||ia d ``HEq 4 then 1+eqs u0 b (P.liftLooseBVars 0 1)else 0
 | _=>0
letI yQ(k:Nat)(kT:XE)(r:Array XE):Option (Array XE):=match k,kT with
 | 0,_=>some r
 | k+1,.forallE _ d b _ =>
  if lb b then none
  else if ia d ``Eq 3 then yQ k ((lw b)) (r.push (mkApp2 (mc ``Eq.refl (lv d)) (d.getArg! 0) (d.getArg! 1)))
  else if ia d ``HEq 4 then yQ k ((lw b)) (r.push (mkApp2 (mc ``HEq.refl (lv d)) (d.getArg! 0) (d.getArg! 1)))
  else none
 | _,_=>none
letI Eu(k:Nat)(kT pf:XE)(r:Array XE):Option (Array XE):=match k,kT with
 | 0,_=>some r
 | k+1,.forallE _ d b _ =>
  if lb b then none
  else
   let p:=if k==0 then pf else .proj ``And 0 pf
   let pf:=if k==0 then pf else .proj ``And 1 pf
   let b:=(lw b)
   if ia d ``Eq 3 then Eu k b pf (r.push p)
   else if ia d ``HEq 4&&d.getArg! 0==d.getArg! 2 then Eu k b pf (r.push (mkApp4 (mc ``heq_of_eq (lv d)) (d.getArg! 0) (d.getArg! 1) (d.getArg! 3) p))
   else none
 | _,_=>none
letI expand(k:Nat)(ZT m:XE):XE:=match k,ZT with
 | 0,_=>m
 | k+1,.forallE x d b bi=>match m with
  | .lam y e c ci=>.lam y e (expand k b c) ci
  | m=>.lam x d (expand k b ((Expr.app (m.liftLooseBVars 0 1) (.bvar 0)).headBeta)) bi
 | _,_=>m
letI strike(u0:Nat)(pi:Bool)(i:Nat)(e:XE):Option XE:=match u0 with
 | 0=>none
 | u0+1=>match e with
 | .lam n t b bi=>if pi then none else match i with
  | 0=>if lb b then none else some ((lw b))
  | i+1=>(strike u0 pi i b).map λb=>.lam n t b bi
 | .forallE n t b bi=>if !pi then none else match i with
  | 0=>if lb b then none else some ((lw b))
  | i+1=>(strike u0 pi i b).map λb=>.forallE n t b bi
 | _=>none
letI heq(p q hp hq:XE):XE:=mkApp4 (mc ``proof_irrel_heq) p q hp hq
letI YC:List (Name×List (Name×Name×Nat×Nat)):=[(`Mine.Rep,[(`Mine.V.none,`Mine.Rep.uD,0,0),(`Mine.V.bool,`Mine.Rep.Cp,0,0),(`Mine.V.int,`Mine.Rep.sr,1,0),(`Mine.V.str,`Mine.Rep.jw,1,1),(`Mine.V.tup,`Mine.Rep.zB,3,3),(`Mine.V.ref,`Mine.Rep.Fo,0,0),(`Mine.V.typ,`Mine.Rep.aaN,0,0),(`Mine.V.bi,`Mine.Rep.iBi,0,0),(`Mine.V.rng,`Mine.Rep.acr,4,1)]),
 (`Mine.aV,[(``List.nil,`Mine.aV.Bh,0,0),(``List.cons,`Mine.aV.pB,2,2)])]
letI T8(u0:Nat)(k:Nat)(ty pf goal:XE)(xs:Array XE)(body:Array XE->XE->XE->Nat->XE)(d:Nat):Option XE:=match u0 with
 | 0=>none
 | u0+1 =>
 match k with
 | 0=>some (body xs ty pf d)
 | k+1 =>
  if ia ty ``Exists 2 then
   let α:=ty.appFn!.appArg!
   let p:=ty.appArg!
   let pb:=(Expr.app (p.liftLooseBVars 0 1) (.bvar 0)).headBeta
   match T8 u0 k (pb.liftLooseBVars 0 1) (.bvar 0) (goal.liftLooseBVars 0 2) ((xs.map λx=>x.liftLooseBVars 0 2).push (.bvar 1)) body (d+2)with
   | some inner=>some (mkAppN (mc ``Exists.elim (lv ty)) ([α,p,goal,pf,.lam `w α (.lam `h pb inner .default) .default].toArray))
   | none=>none
  else none
letI aaS(k:Nat)(e:XE)(r:Array (Name×XE)):Array (Name×XE)×XE:=match k,e with
 | k+1,.lam n t b _=>aaS k b (r.push (n,t))
 | _,e=>(r,e)
letI Zf(env:Environment)(n:Name)(us:List Level)(as:Array XE):Option XE:=do
 let some (.inductInfo v):=env.find? n.getPrefix | none
 let p:=v.numParams
 let c:=v.numCtors
 guard (v.numIndices==0&&as.size > p+2+c&&gk as[p+2+c]! && us.head? == some .zero)
 let .lam _ ty (.forallE _ d R _) _:=as[p]! | none
 guard (ia d ``Eq 3&&d.appArg! == .bvar 0 && !R.hasLooseBVar 0 && !R.hasLooseBVar 1)
 let g:=as[p+1]!
 let R:=R.lowerLooseBVars 2 2
 let mut ms:Array XE:=([].toArray)
 let mut mo? : Option (XE×Array XE):=none
 for j in [0:c] do
  let some (.ctorInfo ct):=env.find? (v.ctors[j]!) | none
  let k:=ct.numFields
  let m:=as[p+2+j]!
  guard (qz (k+1) m)
  let(ls,b):=aaS (k+1) m ([].toArray)
  let xs:=b.getAppArgs
  guard (b.isAppOf ``Eq.ndrec&&xs.size ≥ 6 && !xs[3]!.hasLooseBVar 0)
  guard (!(List.range (k+1)).any λi=>xs[2]!.hasLooseBVar i||(xs.extract 6 xs.size).any (·.hasLooseBVar i))
  let mo:=xs[2]!.lowerLooseBVars (k+1) (k+1)
  let ex:=(xs.extract 6 xs.size).map (·.lowerLooseBVars (k+1) (k+1))
  guard (xs[4]! == g.liftLooseBVars 0 (k+1))
  match mo? with
  | none=>mo? := some (mo,ex)
  | some (mo',ex')=>guard (mo'==mo&&ex'==ex)
  ms:=ms.push (ls.pop.foldr (λ(nm,t) r=>.lam nm t r .default) ((lw xs[3]!)))
 let some (mo,ex):=mo? | none
 guard mo.isLambda
 let _:=R
 let _:=ty
 return mkAppN (.const n us) (as.extract 0 p++([mo,g].toArray)++ms++ex++as.extract (p+3+c) as.size)
letI MN(u0:Nat)(e:XE):Bool:=match u0 with
 | 0=>false
 | u0+1=>match e with
 | .lam _ _ b _=>MN u0 b
 | e=>gk e||ia e ``HEq.refl 2||ia e ``Iff.refl 1
let rec @[inline]tr(u0:Nat)(e:XE):M1 XE:=match u0 with
 | 0=>pure e
 | u0+1=>do
 match e with
 | .bvar _ | .const .. | .sort _ | .lit _ | .fvar _ | .mvar _=>return e
 | _=>pure ()
 if let some r:=(← get).memo.get? e then return r
 let r ← match e with
  | .mdata _ b=>tr u0 b
  | .app .. => abm u0 e
  | e=>e.traverseChildren λx=>tr u0 x
 modify λs=>{ s with memo:=s.memo.insert e r }
 return r,
@[inline]abm(u0:Nat)(e:XE):M1 XE:=match u0 with
 | 0=>pure e
 | u0+1=>do
 let f:=e.getAppFn
 let as:=e.getAppArgs
 match f with
 | .const n us =>
  let plain:M1 XE:=do return mkAppN f (← as.mapM (tr u0))
  let env0 ← getEnv
  let ci? := env0.find? n
  let lhs? (us:List Level) (as:Array XE):Option XE:=match ci? with
   | some ci =>
    let b:=as.foldl (λ(t:XE) _=>t.bindingBody!) ci.type
    if ia b ``Eq 3 then
     let b:=(b.instantiateLevelParams ci.levelParams us).instantiateRev as
     let b:=b.headBeta
     some (mkApp2 (mc ``Eq.refl (lv b)) (b.getArg! 0).headBeta (b.getArg! 1).headBeta)
    else none
   | none=>none
  let isCong:=Oq.contains n||(n.isStr&&(n.getString! == "congr_simp"||n.getString!.startsWith "hcongr"))
  if isCong&&as.size==(← arity n)then
   let as' ← as.mapM (tr u0)
   let some ci:=ci? | return mkAppN f as'
   let mut ok:=true
   let mut t:=ci.type
   for i in [0:as.size] do
    let d:=t.bindingDomain!
    if d.getForallBody.isAppOf ``Eq||d.getForallBody.isAppOf ``Iff||d.getForallBody.isAppOf ``HEq then
     unless MN u0 as'[i]! do ok:=false
    t:=t.bindingBody!
   if ok then
    if let some r:=lhs? us as then return(← tr u0 r)
   if n == ``Eq.trans then
    if gk as'[4]! then return as'[5]!
    if gk as'[5]! then return as'[4]!
   if n == ``congr&&gk as'[4]! then
    return mkAppN (mc ``congrArg us) ([as'[0]!,as'[1]!,as'[4]!,as'[5]!,as'[2]!,as'[7]!].toArray)
   if n == ``Eq.symm then
    if ia as'[3]! ``Eq.symm 4 then return as'[3]!.appArg!
   return mkAppN f as'
  if n == ``Exists.intro&&as.size==4 then
   let(is,h):=introN e 5 ([].toArray)
   let k:=min is.size (exN as[1]! 5)
   if k ≥ 2 then
    let h:=if k<is.size then is[k]! else h
    if let some P:=exP k as[1]! then
     let is:=is.extract 0 k
     let us:=is.toList.map (·.getAppFn.constLevels![0]!)
     return mkAppN (mkConst ([``ex2,``ex3,``ex4,``ex5].toArray)[k-2]! us) (← (is.map (·.getArg! 0)++([P].toArray)++is.map (·.getArg! 2)++([h].toArray)).mapM (tr u0))
   return mkAppN f (← as.mapM (tr u0))
  if n == ``Exists.elim&&as.size==5 then
   let as' ← as.mapM (tr u0)
   let mut k:=exN as'[1]! 5
   while k ≥ 2 do
    if let some (bs,g):=XR as'[4]! (k-1) ([].toArray)then
     if let some P:=exP k as'[1]! then
      if let .lam m t b bi:=g then
       let fn:=bs.foldr (λ(n,t,_) r=>Expr.lam n t r .default) (.lam m t b bi)
       return mkAppN (mkConst ([``el2,``el3,``el4,``el5].toArray)[k-2]! ((us++bs.toList.map (·.2.2)).take k)) (([as'[0]!].toArray)++(bs.extract 1 bs.size).map (·.2.1)++([t,as'[2]!,P,as'[3]!,fn].toArray))
    k:=k-1
   return mkAppN f as'
  if n == ``eq_of_heq&&as.size==4 then
   let h ← tr u0 as[3]!
   if ia h ``heq_of_eq 4 then return h.appArg!
   if ia h ``HEq.refl 2 then return mkApp2 (mc ``Eq.refl us) (← tr u0 as[0]!) (← tr u0 as[1]!)
   return mkAppN f ((← as.mapM (tr u0)).set! 3 h)
  if(n == ``Eq.mpr||n == ``Eq.mp)&&as.size ≥ 4 then
   let h ← tr u0 as[2]!
   if gk (qP u0 h)then return(← tr u0 (mkAppN as[3]! (as.extract 4 as.size)))
  if n == ``of_eq_true&&as.size==2 then
   let h ← tr u0 as[1]!
   if gk h then return mc ``True.intro
   if ia h ``eq_true 2 then return h.appArg!
   if ia h ``eq_self 2 then return(← tr u0 (mkApp2 (mc ``Eq.refl (lv h)) (h.getArg! 0) (h.getArg! 1)))
   if ia h ``Eq.trans 6&&ia h.appArg! ``eq_self 2 then
    let x:=h.getArg! 4
    let α:=h.appArg!.getArg! 0
    let u:=(lv h.appArg!)
    if ia x ``congrArg 6 then
     let g:=x.getArg! 4
     let q:=x.getArg! 5
     if ia g ``Eq 2 then
      return mkAppN (mc ``Eq.symm u) ([α,x.getArg! 2,x.getArg! 3,q].toArray)
     if g.isLambda&&ia g.bindingBody! ``Eq 3&&(g.bindingBody!.getArg! 1) == .bvar 0 && !(g.bindingBody!.getArg! 2).hasLooseBVar 0 then return q
   return mkAppN f ([← tr u0 as[0]!,h].toArray)
  if n == ``id&&as.size ≥ 2 then tr u0 (mkAppN as[1]! (as.extract 2 as.size))
  else if(n == ``Eq.mpr||n == ``Eq.mp)&&as.size==4 then
   let h:=qP u0 as[2]!
   if ia h ``congrArg 6 then
    let ha:=h.getAppArgs
    let u:=h.getAppFn.constLevels![0]!
    if n == ``Eq.mpr then tr u0 (mkAppN (mc ``Eq.substr [u]) ([ha[0]!,ha[4]!,ha[3]!,ha[2]!,ha[5]!,as[3]!].toArray))
    else tr u0 (mkAppN (mc ``Eq.subst [u]) ([ha[0]!,ha[4]!,ha[2]!,ha[3]!,ha[5]!,as[3]!].toArray))
   else plain
  else if n == ``Eq.symm&&as.size==4 then
   let h:=qP u0 as[3]!
   if ia h ``Eq.symm 4 then tr u0 h.appArg!
   else if gk h then tr u0 h
   else plain
  else if n == ``And.casesOn&&as.size ≥ 5&&qz 2 as[4]! && us.head? == some .zero then
   let h ← tr u0 as[3]!
   let b:=as[4]!.bindingBody!.bindingBody!
   tr u0 (mkAppN (b.instantiate ([.proj ``And 1 h,.proj ``And 0 h].toArray)) (as.extract 5 as.size))
  else if n == ``And.left&&as.size==3 then do pure (.proj ``And 0 (← tr u0 as[2]!))
  else if n == ``And.right&&as.size==3 then do pure (.proj ``And 1 (← tr u0 as[2]!))
  else if n == ``Exists.casesOn&&as.size==5&&as[2]!.isLambda && !as[2]!.bindingBody!.hasLooseBVar 0 then
   let as':=([as[0]!,as[1]!,(lw as[2]!.bindingBody!),as[3]!,as[4]!].toArray)
   pure (mkAppN (mc ``Exists.elim us) (← as'.mapM (tr u0)))
  else if n == ``Or.casesOn&&as.size==6&&as[2]!.isLambda && !as[2]!.bindingBody!.hasLooseBVar 0 then
   let as':=([as[0]!,as[1]!,(lw as[2]!.bindingBody!),as[3]!,as[4]!,as[5]!].toArray)
   pure (mkAppN (mc ``Or.elim) (← as'.mapM (tr u0)))
  else if n == ``Eq.subst&&as.size ≥ 6&&ia as[4]! ``Eq.symm 4 then
   tr u0 (mkAppN (mc ``Eq.substr us) (as.set! 4 as[4]!.appArg!))
  else if n == ``Eq.substr&&as.size ≥ 6&&ia as[4]! ``Eq.symm 4 then
   tr u0 (mkAppN (mc ``Eq.subst us) (as.set! 4 as[4]!.appArg!))
  else if n == ``False.elim&&as.size > 2&&as[0]!.isForall && !as[0]!.bindingBody!.hasLooseBVar 0 then
   tr u0 (mkAppN (mc ``False.elim us) (([(lw as[0]!.bindingBody!),as[1]!].toArray)++as.extract 3 as.size))
  else if n == ``False.elim&&as.size==2&&as[0]!.isConstOf ``False then tr u0 as[1]!
  else if n == ``Decidable.byContradiction&&as.size==3&&ia as[0]! ``LE.le 4&&(as[0]!.getArg! 1).isConstOf ``instLENat then
   return mkAppN (mkConst `Mine.gLe) (← ([as[0]!.getArg! 2,as[0]!.getArg! 3,as[2]!].toArray).mapM (tr u0))
  else if n == ``Decidable.byContradiction&&as.size==3&&ia as[0]! ``LT.lt 4&&(as[0]!.getArg! 1).isConstOf ``instLTNat then
   return mkAppN (mkConst `Mine.gLt) (← ([as[0]!.getArg! 2,as[0]!.getArg! 3,as[2]!].toArray).mapM (tr u0))
  else if n == ``Eq.casesOn&&as.size ≥ 8&&gk as[6]! && ia as[7]! ``HEq.refl 2&&as[2]!.isLambda&&as[5]!.isLambda then
   let α:=as[0]!; let a:=as[1]!; let b:=as[3]!; let t:=as[4]!
   let u:=us[us.length-1]!
   let sy:=mkApp4 (mc ``Eq.symm [u]) α a b t
   let eqT (x y:XE):=mkApp3 (mc ``Eq [u]) α x y
   let hq:=heq (eqT a b) (eqT a a) t (mkApp2 (mc ``Eq.refl [u]) α a)
   tr u0 (mkAppN (as[5]!.beta ([sy,hq].toArray)) (as.extract 8 as.size))
  else if(n == ``Eq.ndrec||n == ``Eq.rec||n == ``Eq.casesOn)&&as.size ≥ 6 then
   let(m,b,h,mo):=if n == ``Eq.casesOn then(as[5]!,as[3]!,as[4]!,as[2]!)else(as[3]!,as[4]!,as[5]!,as[2]!)
   let mo? : Option XE:=if n == ``Eq.ndrec then(if mo.isLambda then some mo else none)else match mo with
    | .lam nm t (.lam _ _ bd _) bi=>if lb bd then none else some (.lam nm t ((lw bd)) bi)
    | _=>none
   let h' ← tr u0 h
   if gk h' then tr u0 (mkAppN m (as.extract 6 as.size))
   else match mo? with
    | none=>plain
    | some mo =>
     if !mo.bindingBody!.hasLooseBVar 0 then tr u0 (mkAppN m (as.extract 6 as.size))
     else
      let mut xs:=as.extract 6 as.size
      let mut mo:=mo
      let mut m ← tr u0 (expand xs.size (mo.bindingBody!.instantiate1 as[1]!) m)
      mo:=.lam mo.bindingName! mo.bindingDomain! (← tr u0 mo.bindingBody!) .default
      let k0:=xs.size
      for i' in [0:k0] do
       let i:=k0-1-i'
       match strike u0 true i mo.bindingBody!,strike u0 false i m with
       | some pb,some mb =>
        mo:=.lam mo.bindingName! mo.bindingDomain! pb .default
        m:=mb
        xs:=(xs.extract 0 i)++(xs.extract (i+1) xs.size)
       | _,_=>pure ()
      let u:=us[us.length-1]!
      let v:=us[0]!
      if !mo.bindingBody!.hasLooseBVar 0 then tr u0 (mkAppN m xs)
      else
       if v == .zero&&ia h' ``Eq.symm 4 then
        return mkAppN (mc ``Eq.substr [u]) (← (([as[0]!,mo,as[1]!,b,h'.appArg!,m].toArray)++xs).mapM (tr u0))
       let g:=mc ``Eq.ndrec [v,u]
       let as':=([as[0]!,as[1]!,mo,m,b,h].toArray)++xs
       return mkAppN g (← as'.mapM (tr u0))
  else if n.isStr&&n.getString! == "noConfusion" then
   let some ci:=ci? | plain
   let ds:=abF ci.type as.size
   match ds.findIdx? (λd=>ia d ``Eq 3)with
   | some i =>
    if i+1<as.size&&i+1<ds.size&&ds[i+1]!.isForall then
     let kT:=((ds[i+1]!.instantiateLevelParams ci.levelParams us).instantiateRev (as.extract 0 (i+1))).headBeta
     let h ← tr u0 as[i]!
     let P:=ds.findIdx? (λd=>d.isSort&&d != ds[0]!)
     let _:=P
     let np:=match env0.find? n.getPrefix with | some (.ctorInfo v)=>v.numParams | _=>1000
     let inj:=n.getPrefix ++ `inj
     let nq:=eqs u0 kT (as.getD np (.bvar 0))
     if nq==0 then plain
     else if gk h then
      match yQ nq kT ([].toArray)with
      | some qs=>tr u0 (mkAppN (as[i+1]!.beta qs) (as.extract (i+2) as.size))
      | none=>plain
     else if np<as.size&&env0.contains inj&&as[i+1]!.isLambda then
      let pf:=mkAppN (mkConst inj (us.drop 1)) (as.extract 0 np++as.extract (np+1) i++([h].toArray))
      match Eu nq kT pf ([].toArray)with
      | some qs=>tr u0 (mkAppN (as[i+1]!.beta qs) (as.extract (i+2) as.size))
      | none=>plain
     else plain
    else plain
   | none=>plain
  else if n.isStr&&n.getString! == "casesOn" then
   match YC.lookup n.getPrefix with
   | none =>
    match Zf env0 n us as with
    | some r=>tr u0 r
    | none=>plain
   | some cs =>
    let k:=cs.length
    if as.size ≥ 5+k+3&&gk as[5+k]! && gk as[6+k]! && ia as[7+k]! ``HEq.refl 2&&qz 3 as[1]! then
     let v:=as[2]!
     let some j:=cs.findIdx? (λc=>v.getAppFn.isConstOf c.1) | plain
     let(_,lem,ne,na):=cs[j]!
     let vargs:=if n.getPrefix == `Mine.aV then v.getAppArgs.extract 1 v.getAppNumArgs else v.getAppArgs
     let g:=as[0]!; let y:=as[3]!; let h:=as[4]!
     let mot:=as[1]!.bindingBody!.bindingBody!.bindingBody!.instantiateRev ([v,y,h].toArray)
     let goal? : Option XE:=match mot with
      | .forallE _ _ (.forallE _ _ (.forallE _ _ b _) _) _=>if lb b||b.hasLooseBVar 1||b.hasLooseBVar 2 then none else some (b.lowerLooseBVars 3 3)
      | _=>none
     let some goal:=goal? | plain
     let ci ← getConstInfo lem
     let largs:=if n.getPrefix == `Mine.aV then(if vargs.size==0 then([g,y,h].toArray)else([g,vargs[0]!,vargs[1]!,y,h].toArray))else([g,y].toArray)++vargs++([h].toArray)
     let lty:=largs.foldl (λt a=>t.bindingBody!.instantiate1 a) ci.type
     let L:=mkAppN (mkConst lem) largs
     let minor:=as[5+j]!
     let rest:=as.extract (8+k) as.size
     let vT:=mkApp2 (mc ``Eq.refl [.succ .zero]) (if n.getPrefix == `Mine.aV then mkApp (mc ``List [.zero]) (mkConst `Mine.V)else mkConst `Mine.V) v
     let ctor:=match n.getPrefix with | `Mine.Rep=>Name.str `Mine.Rep (v.getAppFn.constName!.getString!) | p=>Name.str p (v.getAppFn.constName!.getString!)
     let body (xs:Array XE) (ty pf:XE) (d:Nat):XE :=
      let up (e:XE):=e.liftLooseBVars 0 d
      let e:=if na==0 then pf else .proj ``And 0 pf
      let eT:=if na==0 then ty else ty.appFn!.appArg!
      let ps:=Id.run do
       let mut r:=([].toArray)
       let mut q:=pf
       for i in [0:na] do
        q:=.proj ``And 1 q
        r:=r.push (if i+1==na then q else .proj ``And 0 q)
       return r
      let val:=eT.appArg!
      let fields:Array XE:=if n.getPrefix == `Mine.aV then(if vargs.size==0 then([].toArray)else([up vargs[0]!,xs[0]!,up vargs[1]!,xs[1]!].toArray)++ps)else(vargs.map up)++xs++ps
      let ct:=mkAppN (mkConst ctor) (([up g].toArray)++fields)
      let R (y:XE):=mkApp3 (mkConst n.getPrefix) (up g) (up v) y
      let hq:=heq (R (up y)) (R val) (up h) ct
      ((up minor).beta (fields++([up vT,e,hq].toArray)))
     match T8 u0 ne lty L goal ([].toArray) body 0 with
     | some r=>tr u0 (mkAppN r rest)
     | none=>plain
    else plain
  else plain
 | .lam .. =>
  let b:=e.headBeta
  if b.isApp&&b.getAppFn.isLambda then return mkAppN (← tr u0 f) (← as.mapM (tr u0))
  else tr u0 b
 | _=>return mkAppN (← tr u0 f) (← as.mapM (tr u0))
letI eta(u0:Nat)(e:XE):StateM (Std.HashMap XE XE) XE:=match u0 with
 | 0=>pure e
 | u0+1=>do
 match e with
 | .bvar _ | .const .. | .sort _ | .lit _ | .fvar _ | .mvar _=>return e
 | _=>pure ()
 if let some r:=(← get).get? e then return r
 let r ← match e with
  | .mdata _ b=>eta u0 b
  | e=>do
   match ← e.traverseChildren λx=>eta u0 x with
   | e@(.lam _ _ (.app f (.bvar 0)) _)=>pure (if lb f then e else(lw f))
   | e=>pure e
 modify λs=>s.insert e r
 return r
letI fv(k:Nat):XE:=.fvar ⟨.num `zz k⟩
letI numOf(x:FVarId):Nat:=match x.name with | .num _ k=>k | _=>0
letI innermost(u0:Nat)(e:XE):ZM (Option Nat):=match u0 with
 | 0=>pure none
 | u0+1=>do
 unless e.hasFVar do return none
 match e with
 | .fvar x=>return some (numOf x)
 | _=>pure ()
 if let some r:=(← get).memoMax.get? e then return r
 let two (a b:Option Nat):ZM (Option Nat):=do
  match a,b with
  | none,r=>return r
  | r,none=>return r
  | some x,some y =>
   let l:=(← get).lvl
   return some (if l[x]! ≥ l[y]! then x else y)
 let r ← e.foldlM (λa x=>do two a (← innermost u0 x)) none
 modify λs=>{ s with memoMax:=s.memoMax.insert e r }
 return r
letI height(u0:Nat)(e:XE):ZM Nat:=match u0 with
 | 0=>pure 0
 | u0+1=>do
 unless e.hasFVar do return 0
 if let some r:=(← get).hts.get? e then return r
 let r ← e.foldlM (λa x=>do pure (max a (1+(← height u0 x)))) 0
 modify λs=>{ s with hts:=s.hts.insert e r }
 return r
letI flagsOf(c:Name):ZM (Array Bool):=do
 if let some f:=(← get).flags.get? c then return f
 let f ← try
   let info ← getConstInfo c
   let(f:Array Bool) ← forallTelescope info.type λxs _=>do
    let mut ms:Array XE:=([].toArray)
    for x in xs do
     if(← x.fvarId!.getUserName).toString.startsWith "motive" then ms:=ms.push x
    xs.mapM λx=>do
     let t ← inferType x
     let t' ← forallTelescope t λ_ b=>pure b
     if ms.any (· == t'.getAppFn)then return true
     try isProp t catch _=>return false
   pure f
  catch _=>pure ([].toArray)
 let f:=if c == ``id then([false,true].toArray)else if c == ``Eq.mpr||c == ``Eq.mp then([false,false,true,true].toArray)else if c == ``dite then([false,false,false,true,true].toArray)else f
 modify λs=>{ s with flags:=s.flags.insert c f }
 return f
letI Vm(ty:XE):ZM (Array Bool):=do
 let l:=(← get).lctx
 let go:MetaM (Array Bool):=forallTelescope ty λxs _=>xs.mapM λx=>do
  try isProof x catch _=>pure false
 try withLCtx l ([].toArray) go catch _=>pure ([].toArray)
letI m6(f:XE):ZM (Option (Array Bool)):=do
 match f with
 | .const n _=>return some (← flagsOf n)
 | .fvar x =>
  if let some r:=(← get).fflags.get? x then return some r
  let some d:=(← get).lctx.find? x | return none
  let r ← Vm d.type
  modify λs=>{ s with fflags:=s.fflags.insert x r }
  return some r
 | _=>return none
letI scan(u0:Nat)(two:Bool)(e:XE)(d:Nat):ZM Unit:=match u0 with
 | 0=>pure ()
 | u0+1=>do
 match e with
 | .bvar _ | .const .. | .sort _ | .lit _ | .fvar _ | .mvar _=>return
 | _=>pure ()
 unless e.hasFVar do return
 if(← get).seen.contains (e,d)then return
 modify λs=>{ s with seen:=s.seen.insert (e,d) }
 let mut d:=d
 unless e.hasLooseBVars do
  if two then
   if(← get).cand.contains e then
    let o:=(← get).deps.getD e ([].toArray)
    unless o.contains d do modify λs=>{ s with deps:=s.deps.insert e (o.push d) }
    if o.size > 0 then return
    let some k ← innermost u0 e | pure ()
    let ar:=(← get).ar
    d:=1000000+(if k<ar then ar-1 else k)
  else
   let o:=(← get).deps.getD e ([].toArray)
   if o.size<2 && !o.contains d then modify λs=>{ s with deps:=s.deps.insert e (o.push d) }
 match e with
 | .lam _ t b _ | .forallE _ t b _=>scan u0 two t d; scan u0 two b (d+1)
 | .letE _ t v b _=>scan u0 two t d; scan u0 two v d; scan u0 two b (d+1)
 | e=>e.foldlM (λ_ x=>scan u0 two x d) ()
letI Rm:List Name:=[``Eq.trans,``of_eq_true,``congrArg,``congr,``congrFun',``congrFun,``Eq.mpr,``Eq.mp,``Eq.symm,``Eq.substr,``Eq.subst,``Eq.ndrec]
letI acI(e:XE):ZM (Option XE):=do
 let l:=(← get).lctx
 let h ← IO.getNumHeartbeats
 let act:MetaM (Option XE):=do
  let ty ← inferType e
  unless ia ty ``Eq 3 do return none
  if ← isDefEq (ty.getArg! 1) (ty.getArg! 2)then return some (mkApp2 (mc ``Eq.refl (lv ty)) (ty.getArg! 0) (ty.getArg! 1))
  return none
 (withLCtx l ([].toArray) (withTheReader Core.Context (λc=>{ c with maxHeartbeats:=300000,initHeartbeats:=h }) (tryCatchRuntimeEx act λ_=>return none)):MetaM _)
letI YD(n:Name)(as:Array XE):ZM (Option XE):=do
 let(h,m):=if n == ``Eq.ndrec then(as[5]!,as[3]!)else(as[4]!,as[5]!)
 let l:=(← get).lctx
 let hb ← IO.getNumHeartbeats
 let act:MetaM Bool:=do
  let ty ← inferType h
  unless ia ty ``Eq 3 do return false
  isDefEq (ty.getArg! 1) (ty.getArg! 2)
 if ← (withLCtx l ([].toArray) (withTheReader Core.Context (λc=>{ c with maxHeartbeats:=100000,initHeartbeats:=hb }) (tryCatchRuntimeEx act λ_=>return false)):MetaM _)then
  return some ((mkAppN m (as.extract 6 as.size)).headBeta)
 return none
letI open_(u0:Nat)(e:XE)(d:Nat):ZM XE:=match u0 with
 | 0=>pure e
 | u0+1=>do
 match e with
 | .lam n t b bi=>do
  let k:=(← get).fresh
  modify λs=>{ s with fresh:=k+1,lvl:=s.lvl.push d,lctx:=s.lctx.mkLocalDecl ⟨.num `zz k⟩ n t bi }
  return .lam (.num n k) t (← open_ u0 (b.instantiate1 (fv k)) (d+1)) bi
 | .letE n t v b nd=>do
  let v' ← open_ u0 v d
  let k:=(← get).fresh
  modify λs=>{ s with fresh:=k+1,lvl:=s.lvl.push d,lctx:=s.lctx.mkLetDecl ⟨.num `zz k⟩ n t v }
  return .letE (.num n k) t v' (← open_ u0 (b.instantiate1 (fv k)) (d+1)) nd
 | .mdata _ b=>open_ u0 b d
 | .proj s i b=>return .proj s i (← open_ u0 b d)
 | .app .. => do
  let f:=e.getAppFn
  let as:=e.getAppArgs
  match f with
  | .const .. | .fvar _=>do
   if f.isConst&&Rm.contains f.constName! then
    if(f.constName! == ``Eq.substr||f.constName! == ``Eq.subst||f.constName! == ``Eq.ndrec)&&as.size ≥ 6 then
     if let some r ← YD f.constName! as then return ← open_ u0 r d
    if let some r ← acI e then return r
   let fl:=(← m6 f).getD ([].toArray)
   let mut r:=f
   for i in [0:as.size] do
    let a:=as[i]!
    r:=.app r (← if fl.getD i (i ≥ fl.size)then open_ u0 a d else pure a)
   return r
  | .lam .. => do
   let mut r ← open_ u0 f d
   for a in as do r:=.app r (← open_ u0 a d)
   return r
  | _=>return e
 | e=>return e
letI walk(u0:Nat)(two:Bool)(e:XE)(d:Nat):ZM Unit:=match u0 with
 | 0=>pure ()
 | u0+1=>do
 match e with
 | .lam (.num _ k) t b _=>do
  if k ≥ (← get).ar then scan u0 two t d
  walk u0 two b (d+1)
 | .letE (.num _ _) t v b _=>scan u0 two t d; walk u0 two v d; walk u0 two b (d+1)
 | .proj _ _ b=>walk u0 two b d
 | .app .. => do
  let f:=e.getAppFn
  let as:=e.getAppArgs
  match f with
  | .const .. | .fvar _=>do
   let fl:=(← m6 f).getD ([].toArray)
   let mut r:=f
   let mut plain:=true
   for i in [0:as.size] do
    let a:=as[i]!
    r:=.app r a
    if fl.getD i (i ≥ fl.size)then
     walk u0 two a d
     plain:=false
    else scan u0 two a d
   let _:=plain
   return
  | .lam .. => do
   walk u0 two f d
   for a in as do walk u0 two a d
  | _=>scan u0 two e d
 | e=>scan u0 two e d
letI sizeOf(u0:Nat)(e:XE):StateM (Std.HashSet XE) Unit:=match u0 with
 | 0=>pure ()
 | u0+1=>do
 if(← get).contains e||(← get).size > 60 then return
 unless e.hasFVar do return
 if e.isFVar then return
 modify (·.insert e)
 e.foldlM (λ_ x=>sizeOf u0 x) ()
letI size(e:XE):Nat:=((sizeOf 100000 e).run {}).2.size
letI put(u0:Nat)(e:XE)(top:Bool):ZM XE:=match u0 with
 | 0=>pure e
 | u0+1=>do
 unless e.hasFVar do return e
 match e with
 | .fvar _=>return e
 | _=>pure ()
 unless top do
  if let some k:=(← get).ids.get? e then return fv k
  if let some r:=(← get).sub.get? e then return r
 let r ← e.traverseChildren λx=>put u0 x false
 unless top do modify λs=>{ s with sub:=s.sub.insert e r }
 return r
letI wrap(k:Nat)(b:XE):ZM XE:=do
 let ls:=(← get).lets.getD k ([].toArray)
 let mut b:=b
 for (t,ty,j) in ls.reverse do
  b:=.letE `z ty (← put 100000 t true) (b.abstract ([fv j].toArray)) false
 return b
letI build(u0:Nat)(e:XE):ZM XE:=match u0 with
 | 0=>pure e
 | u0+1=>do
 match e with
 | .lam (.num n k) t b bi=>do
  let b ← build u0 b
  let b ← wrap k b
  return .lam n (← if k<(← get).ar then pure t else put u0 t false) (b.abstract ([fv k].toArray)) bi
 | .letE (.num n k) t v b nd=>do
  let v ← build u0 v
  let b ← build u0 b
  let b ← wrap k b
  return .letE n (← put u0 t false) v (b.abstract ([fv k].toArray)) nd
 | .proj s i b=>return .proj s i (← build u0 b)
 | .app .. => do
  let f:=e.getAppFn
  let as:=e.getAppArgs
  match f with
  | .const .. | .fvar _=>do
   let fl:=(← m6 f).getD ([].toArray)
   let mut r:=f
   for i in [0:as.size] do
    let a:=as[i]!
    r:=.app r (← if fl.getD i (i ≥ fl.size)then build u0 a else put u0 a false)
   return r
  | .lam .. => do
   let mut r ← build u0 f
   for a in as do r:=.app r (← build u0 a)
   return r
  | _=>put u0 e false
 | e=>put u0 e false
letI leading:XE->Nat
 | .lam _ _ b _=>leading b+1
 | _=>0
letI cse(thr:Nat)(e:XE)(ar:Nat):ZM XE:=do
 modify λs=>{ s with ar:=min ar (leading e),fresh:=0,lvl:=([].toArray),lctx:={},memoMax:={},seen:={},deps:={},cand:={},lets:={},ids:={},sub:={},hts:={},fflags:={} }
 let o ← open_ 100000 e 0
 walk 100000 false o 0
 let mut cs:Array (XE×Nat):=([].toArray)
 for (t,ds) in (← get).deps.toArray do
  if ds.size ≥ 2 then
   let n:=size t
   if n ≥ 1 then
    let ok ← try
      withLCtx (← get).lctx ([].toArray) do
       let ty ← inferType t
       if ty.hasFVar then pure false else
        if ← isProp ty then pure false else pure true
     catch _=>pure false
    if ok then cs:=cs.push (t,n)
 if cs.isEmpty then return e
 modify λs=>{ s with cand:=cs.foldl (λm (t,_)=>m.insert t true) {} }
 for _ in [0:2] do
  modify λs=>{ s with seen:={},deps:={} }
  walk 100000 true o 0
  let dp:=(← get).deps
  cs:=cs.filter λ(t,n)=>let k:=(dp.getD t ([].toArray)).size; k ≥ 2&&(k-1)*n ≥ thr
  modify λs=>{ s with cand:=cs.foldl (λm (t,_)=>m.insert t true) {} }
 for (t,_) in cs do
  let some k ← innermost 100000 t | continue
  let ar:=(← get).ar
  let k:=if k<ar then ar-1 else k
  let ty ← withLCtx (← get).lctx ([].toArray) (inferType t)
  let j:=(← get).fresh
  modify λs=>{ s with fresh:=j+1,ids:=s.ids.insert t j,lets:=s.lets.insert k ((s.lets.getD k ([].toArray)).push (t,ty,j)) }
 let ls:=(← get).lets
 let mut ls':=ls
 for (k,a) in ls.toArray do
  let a' ← a.mapM λx=>do return(← height 100000 x.1,x)
  ls':=ls'.insert k ((a'.qsort λx y=>x.1<y.1).map (·.2))
 modify λs=>{ s with lets:=ls' }
 build 100000 o
letI compress(e ty:XE)(thr:Nat:=2):ZM XE:=do
 let(r,_) ← (tr 100000 e).run {}
 cse thr ((eta 100000 r).run {}).1 ty.getNumHeadForalls
letI lV(m:Int):List Int->Nat->List Int
 | [],0=>[m]
 | [],i+1=>0::lV m [] i
 | x::r,0=>(x+m)::r
 | x::r,i+1=>x::lV m r i
letI dot:List Int->List Int->Int
 | x::r,y::s=>x*y+dot r s
 | _,_=>0
let oG(m:Int):∀(l O:List Int) (i:Nat),dot (lV m l i) O=dot l O+m*at_ O i
 | [],[],0=>by simp[lV,dot,at_]
 | [],[],i+1=>by simp[lV,dot,at_]
 | [],y::s,0=>by simp[lV,dot,at_]
 | [],y::s,i+1=>by have:=oG m [] s i; simp[lV,dot,at_]at this ⊢; exact this
 | x::r,[],0=>by simp[lV,dot,at_]
 | x::r,[],i+1=>by simp[lV,dot,at_]
 | x::r,y::s,0=>by simp only[lV,dot,at_,Int.add_mul]; omega
 | x::r,y::s,i+1=>by have:=oG m r s i; simp only[lV,dot,at_,this]; omega
letI ZT.acc(m:Int):ZT->List Int×Int->List Int×Int
 | .a i,s=>(lV m s.1 i,s.2)
 | .c k,s=>(s.1,s.2+m*k)
 | .add x y,s=>y.acc m (x.acc m s)
 | .sub x y,s=>y.acc (-m) (x.acc m s)
 | .mul k x,s=>x.acc (m*k) s
 | .mulR x k,s=>x.acc (m*k) s
 | .neg x,s=>x.acc (-m) s
let ZT.lL(O:List Int):∀(t:ZT) (m:Int) (s:List Int×Int),dot (t.acc m s).1 O+(t.acc m s).2=dot s.1 O+s.2+m*t.den O
 | .a i,m,s=>by simp only[ZT.acc,ZT.den,oG]; omega
 | .c k,m,s=>by simp only[ZT.acc,ZT.den]; omega
 | .add x y,m,s=>by simp only[ZT.acc,ZT.den,ZT.lL O y,ZT.lL O x,Int.mul_add]; omega
 | .sub x y,m,s=>by simp only[ZT.acc,ZT.den,ZT.lL O y,ZT.lL O x,Int.mul_sub,Int.neg_mul]; omega
 | .mul k x,m,s=>by simp only[ZT.acc,ZT.den,ZT.lL O x,Int.mul_assoc]
 | .mulR x k,m,s=>by rw[ZT.acc,ZT.den,ZT.lL O x,Int.mul_assoc,Int.mul_comm k]
 | .neg x,m,s=>by simp only[ZT.acc,ZT.den,ZT.lL O x,Int.mul_neg,Int.neg_mul]
letI nH:List (Nat×ZT)->List Int×Int
 | []=>([],0)
 | p::r=>p.2.acc p.1 (nH r)
let Q3{O:List Int}{fs:List (Nat×ZT)}(h:All O fs):0<=dot (nH fs).1 O+(nH fs).2:=by
 induction h with
 | nil=>simp[nH,dot]
 | mk m t fs h _ ih =>
  unfold nH
  rw[ZT.lL]
  have:=Int.mul_nonneg (Int.natCast_nonneg m) h
  dsimp only
  omega
letI zeros:List Int->Bool
 | []=>true
 | x::r=>(match x with | .ofNat 0=>zeros r | _=>false)
letI isNeg:Int->Bool
 | .ofNat _=>false
 | .negSucc _=>true
let tu:∀(l O:List Int),zeros l=true->dot l O=0
 | [],O,_=>by cases O <;> rfl
 | x::r,[],_=>rfl
 | x::r,y::s,h=>by
  unfold zeros at h
  split at h
  .have:=tu r s h
   show(0:Int)*y+dot r s=0
   omega
  .cases h
letI Dc(fs:List (Nat×ZT)):Bool:=zeros (nH fs).1&&isNeg (nH fs).2
let YG(fs:List (Nat×ZT))(ck:Dc fs=true)(O:List Int)(h:All O fs):False:=by
 obtain⟨h1,h2⟩:=Bool.and_eq_true_iff.mp ck
 have:=Q3 h
 rw[tu _ _ h1]at this
 cases e:(nH fs).2 with
 | ofNat n=>rw[e]at h2; cases h2
 | negSucc n=>rw[e]at this; omega
let mkF(m:Nat)(t:ZT)(fs:List (Nat×ZT))(O:List Int)(h:0<=t.den O)(r:All O fs):All O ((m,t)::fs):=.mk m t fs h r
letI cs:List Nat->List Int
 | []=>[]
 | x::r=>(x:Int)::cs r
open Mo Lean Meta Elab Tactic in show ∀(O:List Int)(x:List Nat)(a b c d e:ZT),_
let c1(h:0<=a.den O)(k:Dc [(1,a)]=true):False:=YG _ k O (.mk _ _ _ h .nil)
let c2(h:0<=a.den O)(i:0<=b.den O)(k:Dc [(1,a),(1,b)]=true):False:=YG _ k O (.mk _ _ _ h (.mk _ _ _ i .nil))
let c3(h:0<=a.den O)(i:0<=b.den O)(j:0<=c.den O)(k:Dc [(1,a),(1,b),(1,c)]=true):False:=YG _ k O (.mk _ _ _ h (.mk _ _ _ i (.mk _ _ _ j .nil)))
let c4(h:0<=a.den O)(i:0<=b.den O)(j:0<=c.den O)(l:0<=d.den O)(k:Dc [(1,a),(1,b),(1,c),(1,d)]=true):False:=YG _ k O (.mk _ _ _ h (.mk _ _ _ i (.mk _ _ _ j (.mk _ _ _ l .nil))))
let c5(h:0<=a.den O)(i:0<=b.den O)(j:0<=c.den O)(l:0<=d.den O)(m:0<=e.den O)(k:Dc [(1,a),(1,b),(1,c),(1,d),(1,e)]=true):False:=YG _ k O (.mk _ _ _ h (.mk _ _ _ i (.mk _ _ _ j (.mk _ _ _ l (.mk _ _ _ m .nil)))))
let n1:0<=a.den (cs x)->Dc [(1,a)]=true->False:=c1 (cs x) a
let n2:0<=a.den (cs x)->0<=b.den (cs x)->Dc [(1,a),(1,b)]=true->False:=c2 (cs x) a b
let n3:0<=a.den (cs x)->0<=b.den (cs x)->0<=c.den (cs x)->Dc [(1,a),(1,b),(1,c)]=true->False:=c3 (cs x) a b c
let n4:0<=a.den (cs x)->0<=b.den (cs x)->0<=c.den (cs x)->0<=d.den (cs x)->Dc [(1,a),(1,b),(1,c),(1,d)]=true->False:=c4 (cs x) a b c d
let n5:0<=a.den (cs x)->0<=b.den (cs x)->0<=c.den (cs x)->0<=d.den (cs x)->0<=e.den (cs x)->Dc [(1,a),(1,b),(1,c),(1,d),(1,e)]=true->False:=c5 (cs x) a b c d e
open Mo Lean Meta Elab Tactic in show _
let gLe{a b:Nat}(f:¬ a<=b->False):a<=b:=Decidable.byContradiction f
let gLt{a b:Nat}(f:¬ a<b->False):a<b:=Decidable.byContradiction f
open Mo Lean Meta Elab Tactic in show ∀{a b:Nat}{i j:Int},_
let nLe(h:a<=b):(0:Int)<=(b:Int)-(a:Int):=by omega
let nLt(h:a<b):(0:Int)<=(b:Int)-(a:Int)-1:=by omega
let acy(h:¬ a<=b):(0:Int)<=(a:Int)-(b:Int)-1:=by omega
let ack(h:¬ a<b):(0:Int)<=(a:Int)-(b:Int):=by omega
let aci(h:a=b):(0:Int)<=(b:Int)-(a:Int):=by omega
let abr(h:a=b):(0:Int)<=(a:Int)-(b:Int):=by omega
let iLe(h:i<=j):0<=j-i:=by omega
let iLt(h:i<j):0<=j-i-1:=by omega
let aaY(h:¬ i<=j):0<=i-j-1:=by omega
let aco(h:¬ i<j):0<=i-j:=by omega
let acH(h:i=j):0<=j-i:=by omega
let acC(h:i=j):0<=i-j:=by omega
let acv(a:Nat):(0:Int)<=(a:Int):=by omega
let abb(a b:Nat):(0:Int)<=((a-b:Nat):Int)-((a:Int)-(b:Int)):=by omega
let aaO(a b:Nat):(0:Int)<=(a:Int)-((a-b:Nat):Int):=by omega
let nNe(h:¬ a=b):a<b∨b<a:=by omega
let iNe(h:¬ i=j):i<j∨j<i:=by omega
let X3(a b:Nat):(b<=a/\((a-b:Nat):Int)=(a:Int)-(b:Int))∨(a<b/\a-b=0):=by omega
let X8(a b:Nat):(a<=b/\min a b=a)∨(b<=a/\min a b=b):=by omega
let abh(i:Int):(0<=i/\(i.toNat:Int)=i)∨(i<0/\i.toNat=0):=by omega
let XH(i:Int):(0<=i/\(i.natAbs:Int)=i)∨(i<0/\(i.natAbs:Int) = -i):=by omega
open Mo Lean Meta Elab Tactic in show _
let abo{p q:Prop}(h:¬ (p/\q)):¬ p∨¬ q:=Decidable.byContradiction (dec:=Classical.propDecidable _) λz=>h ⟨Decidable.byContradiction (dec:=Classical.propDecidable _) λa=>z (.inl a),Decidable.byContradiction (dec:=Classical.propDecidable _) λb=>z (.inr b)⟩
let abd{p q:Prop}(h:¬ (p∨q)):¬ p:=λz=>h (.inl z)
let abp{p q:Prop}(h:¬ (p∨q)):¬ q:=λz=>h (.inr z)
let Y4{p:Prop}(h:¬ ¬ p):p:=Decidable.byContradiction (dec:=Classical.propDecidable _) h
letI Bb(k:Int):XE:=match k with
 | .ofNat n=>mkApp (mc ``Int.ofNat) (mkRawNatLit n)
 | .negSucc n=>mkApp (mc ``Int.negSucc) (mkRawNatLit n)
letI jj(u0:Nat)(e:XE):Option Nat:=match u0 with
 | 0=>none
 | u0+1=>match e with
 | .lit (.natVal n)=>some n
 | _=>if ia e ``HPow.hPow 6 then(match jj u0 (e.getArg! 4),jj u0 (e.getArg! 5)with | some a,some b=>if b<=100 then some (a ^ b)else none | _,_=>none)else if ia e ``OfNat.ofNat 3 then(match e.appFn!.appArg! with | .lit (.natVal n)=>some n | _=>none)else none
letI Ex(a b:Array Int)(m:Int):Array Int:=Id.run do
 let n:=max a.size b.size
 let mut r:=([].toArray)
 for i in [0:n] do r:=r.push ((a.getD i 0)+m*(b.getD i 0))
 return r
letI XF(i:Nat):Array Int:=(Array.replicate i 0).push 1
letI H9(pf t:XE)(c:Array Int)(k:Int):OM Unit:=modify λs=>{ s with facts:=s.facts.push (pf,t,c,k) }
letI lt(n:Bool)(x y:XE):XE:=if n then mkApp4 (mc ``LT.lt [0]) (mc ``Nat) (mc ``instLTNat) x y else mkApp4 (mc ``LT.lt [0]) (mc ``Int) (mc ``Int.instLTInt) x y
let rec @[inline]atom(u0:Nat)(e:XE):OM (XE×Array Int×Int):=match u0 with
 | 0=>throwError "om"
 | u0+1=>do
 let s ← get
 let mut j:=0
 for a in s.atoms do
  if a==e||(← withReducible (isDefEq a e))then return(mkApp (mc ``ZT.a) (mkRawNatLit j),XF j,0)
  j:=j+1
 modify λs=>{ s with atoms:=s.atoms.push e }
 let r:=(mkApp (mc ``ZT.a) (mkRawNatLit j),XF j,(0:Int))
 let fork (pf:XE):OM Unit:=do
  let t ← inferType pf
  modify λs=>{ s with forks:=s.forks.push (pf,t) }
 if ia e ``Nat.cast 3 then
  let x:=e.appArg!
  H9 (mkApp (mc ``acv) x) r.1 r.2.1 0
  if ia x ``HSub.hSub 6 then
   fork (mkApp2 (mc ``X3) x.appFn!.appArg! x.appArg!)
  if ia x ``Min.min 4 then fork (mkApp2 (mc ``X8) x.appFn!.appArg! x.appArg!)
  if ia x ``Int.toNat 1 then fork (mkApp (mc ``abh) x.appArg!)
  if ia x ``Int.natAbs 1 then fork (mkApp (mc ``XH) x.appArg!)
 return r,
@[inline]nat(u0:Nat)(e:XE):OM (XE×Array Int×Int):=match u0 with
 | 0=>throwError "om"
 | u0+1=>do
 if let some n:=jj u0 e then return(mkApp (mc ``ZT.c) (Bb n),([].toArray),n)
 if ia e ``HAdd.hAdd 6 then
  let(ta,ca,ka) ← nat u0 e.appFn!.appArg!
  let(tb,cb,kb) ← nat u0 e.appArg!
  return(mkApp2 (mc ``ZT.add) ta tb,Ex ca cb 1,ka+kb)
 if ia e ``Nat.succ 1 then
  let(ta,ca,ka) ← nat u0 e.appArg!
  return(mkApp2 (mc ``ZT.add) ta (mkApp (mc ``ZT.c) (Bb 1)),ca,ka+1)
 if ia e ``HMul.hMul 6 then
  if let some k:=jj u0 e.appFn!.appArg! then
   let(tb,cb,kb) ← nat u0 e.appArg!
   return(mkApp2 (mc ``ZT.mul) (Bb k) tb,Ex ([].toArray) cb k,k*kb)
  if let some k:=jj u0 e.appArg! then
   if k==1 then
    let(tb,cb,kb) ← nat u0 e.appFn!.appArg!
    return(mkApp2 (mc ``ZT.mulR) tb (Bb k),cb,kb)
   let(tb,cb,kb) ← nat u0 e.appFn!.appArg!
   return(mkApp2 (mc ``ZT.mulR) tb (Bb k),Ex ([].toArray) cb k,k*kb)
 atom u0 (mkApp3 (mc ``Nat.cast [0]) (mc ``Int) (mc ``instNatCastInt) e),
@[inline]int(u0:Nat)(e:XE):OM (XE×Array Int×Int):=match u0 with
 | 0=>throwError "om"
 | u0+1=>do
 if let some n:=jj u0 e then return(mkApp (mc ``ZT.c) (Bb n),([].toArray),n)
 if ia e ``HAdd.hAdd 6 then
  let(ta,ca,ka) ← int u0 e.appFn!.appArg!
  let(tb,cb,kb) ← int u0 e.appArg!
  return(mkApp2 (mc ``ZT.add) ta tb,Ex ca cb 1,ka+kb)
 if ia e ``HSub.hSub 6 then
  let(ta,ca,ka) ← int u0 e.appFn!.appArg!
  let(tb,cb,kb) ← int u0 e.appArg!
  return(mkApp2 (mc ``ZT.sub) ta tb,Ex ca cb (-1),ka-kb)
 if ia e ``HMul.hMul 6 then
  if let some k:=jj u0 e.appFn!.appArg! then
   let(tb,cb,kb) ← int u0 e.appArg!
   return(mkApp2 (mc ``ZT.mul) (Bb k) tb,Ex ([].toArray) cb k,k*kb)
  if let some k:=jj u0 e.appArg! then
   if k==1 then
    let(tb,cb,kb) ← int u0 e.appFn!.appArg!
    return(mkApp2 (mc ``ZT.mulR) tb (Bb k),cb,kb)
   let(tb,cb,kb) ← int u0 e.appFn!.appArg!
   return(mkApp2 (mc ``ZT.mulR) tb (Bb k),Ex ([].toArray) cb k,k*kb)
 if ia e ``Neg.neg 3 then
  let(tb,cb,kb) ← int u0 e.appArg!
  return(mkApp (mc ``ZT.neg) tb,Ex ([].toArray) cb (-1),-kb)
 if ia e ``Nat.cast 3||ia e ``IntCast.intCast 3 then
  if ia e ``Nat.cast 3 then return ← nat u0 e.appArg!
 if ia e ``Int.ofNat 1 then return ← nat u0 e.appArg!
 atom u0 e,
@[inline]fact(u0:Nat)(isN:Bool)(nm:Name)(x y h:XE)(px py:XE)(d:Int):OM Unit:=match u0 with
 | 0=>throwError "om"
 | u0+1=>do
 let(tx,cx,kx) ← if isN then nat u0 x else int u0 x
 let(ty,cy,ky) ← if isN then nat u0 y else int u0 y
 let t:=mkApp2 (mc ``ZT.sub) ty tx
 let t:=if d==0 then t else mkApp2 (mc ``ZT.sub) t (mkApp (mc ``ZT.c) (Bb d))
 H9 (mkApp3 (mkConst nm) px py h) t (Ex cy cx (-1)) (ky-kx-d),
@[inline]hyp(u0:Nat)(h ty:XE):OM (List (XE×XE)):=match u0 with
 | 0=>pure []
 | u0+1=>do
 let ty:=ty.consumeMData
 let ty:=if ia ty ``GE.ge 4 then mkApp4 (mc ``LE.le (lv ty)) (ty.getArg! 0) (mkApp (mc ``Nat) (ty.getArg! 0)) (ty.getArg! 3) (ty.getArg! 2)else if ia ty ``GT.gt 4 then mkApp4 (mc ``LT.lt (lv ty)) (ty.getArg! 0) (mkApp (mc ``Nat) (ty.getArg! 0)) (ty.getArg! 3) (ty.getArg! 2)else ty
 let kind (ZT:XE):Option Bool:=if ZT.isConstOf ``Nat then some true else if ZT.isConstOf ``Int then some false else none
 let as:=ty.getAppArgs
 if ia ty ``And 2 then
  return(← hyp u0 (.proj ``And 0 h) as[0]!)++(← hyp u0 (.proj ``And 1 h) as[1]!)
 if ia ty ``LE.le 4 then
  if let some n:=kind as[0]! then fact u0 n (if n then ``nLe else ``iLe) as[2]! as[3]! h as[2]! as[3]! 0
  return []
 if ia ty ``LT.lt 4 then
  if let some n:=kind as[0]! then fact u0 n (if n then ``nLt else ``iLt) as[2]! as[3]! h as[2]! as[3]! 1
  return []
 if ia ty ``Eq 3 then
  if let some n:=kind as[0]! then
   fact u0 n (if n then ``aci else ``acH) as[1]! as[2]! h as[1]! as[2]! 0
   fact u0 n (if n then ``abr else ``acC) as[2]! as[1]! h as[1]! as[2]! 0
  return []
 if ia ty ``Or 2 then return [(h,ty)]
 if ia ty ``Ne 3 then
  if let some n:=kind as[0]! then return [(mkApp3 (mc (if n then ``nNe else ``iNe)) as[1]! as[2]! h,mkApp2 (mc ``Or) (lt n as[1]! as[2]!) (lt n as[2]! as[1]!))]
  return []
 if ia ty ``Not 1 then
  let p:=as[0]!.consumeMData
  let ps:=p.getAppArgs
  if ia p ``GE.ge 4 then return ← hyp u0 h (mkApp (mc ``Not) (mkApp4 (mc ``LE.le (lv p)) ps[0]! (mc ``Nat) ps[3]! ps[2]!))
  if ia p ``GT.gt 4 then return ← hyp u0 h (mkApp (mc ``Not) (mkApp4 (mc ``LT.lt (lv p)) ps[0]! (mc ``Nat) ps[3]! ps[2]!))
  if ia p ``LE.le 4 then
   if let some n:=kind ps[0]! then fact u0 n (if n then ``acy else ``aaY) ps[3]! ps[2]! h ps[2]! ps[3]! 1
   return []
  if ia p ``LT.lt 4 then
   if let some n:=kind ps[0]! then fact u0 n (if n then ``ack else ``aco) ps[3]! ps[2]! h ps[2]! ps[3]! 0
   return []
  if ia p ``Eq 3 then
   if let some n:=kind ps[0]! then return [(mkApp3 (mc (if n then ``nNe else ``iNe)) ps[1]! ps[2]! h,mkApp2 (mc ``Or) (lt n ps[1]! ps[2]!) (lt n ps[2]! ps[1]!))]
   return []
  if ia p ``Ne 3 then return ← hyp u0 (mkApp2 (mc ``Y4) (mkApp3 (mc ``Eq (lv p)) ps[0]! ps[1]! ps[2]!) h) (mkApp3 (mc ``Eq (lv p)) ps[0]! ps[1]! ps[2]!)
  if ia p ``And 2 then return [(mkApp3 (mc ``abo) ps[0]! ps[1]! h,mkApp2 (mc ``Or) (mkApp (mc ``Not) ps[0]!) (mkApp (mc ``Not) ps[1]!))]
  if ia p ``Or 2 then return(← hyp u0 (mkApp3 (mc ``abd) ps[0]! ps[1]! h) (mkApp (mc ``Not) ps[0]!))++(← hyp u0 (mkApp3 (mc ``abp) ps[0]! ps[1]! h) (mkApp (mc ``Not) ps[1]!))
  if ia p ``Not 1 then return ← hyp u0 (mkApp2 (mc ``Y4) ps[0]! h) ps[0]!
 return []
letI Wn(r:Xq):Xq:=Id.run do
 let mut g:Nat:=r.k.natAbs
 for c in r.co do g:=Nat.gcd g c.natAbs
 for m in r.mu do g:=Nat.gcd g m
 if g<=1 then return r
 return⟨r.co.map (· / (g:Int)),r.k/(g:Int),r.mu.map (· / g)⟩
letI Wl(fs:Array (Array Int×Int))(n:Nat):Option (Array Nat):=Id.run do
 let N:=fs.size
 let mut rows:Array Xq:=([].toArray)
 let mut i:=0
 for (c,k) in fs do
  rows:=rows.push ⟨(Array.range n).map (λj=>c.getD j 0),k,(Array.range N).map (λj=>if j==i then 1 else 0)⟩
  i:=i+1
 let mut left:List Nat:=List.range n
 for _ in [0:n+1] do
  for r in rows do
   if r.k<0&&r.co.all (· == 0)then return some r.mu
  let mut best:Option (Nat×Nat):=none
  for j in left do
   let p:=(rows.filter λr=>r.co[j]! > 0).size
   let q:=(rows.filter λr=>r.co[j]! < 0).size
   let c:=p*q
   match best with
   | some (_,b)=>if c<b then best:=some (j,c)
   | none=>best:=some (j,c)
  let some (j,_):=best | return none
  left:=left.filter (· != j)
  let mut out:Array Xq:=rows.filter λr=>r.co[j]! == 0
  let ps:=rows.filter λr=>r.co[j]! > 0
  let qs:=rows.filter λr=>r.co[j]! < 0
  if out.size+ps.size*qs.size > 400 then return none
  for p in ps do
   for q in qs do
    let a:=p.co[j]!
    let b := -q.co[j]!
    out:=out.push (Wn ⟨(p.co.zip q.co).map λ(x,y)=>b*x+a*y,b*p.k+a*q.k,(p.mu.zip q.mu).map λ(x,y)=>b.toNat*x+a.toNat*y⟩)
  rows:=out
 for r in rows do
  if r.k<0&&r.co.all (· == 0)then return some r.mu
 return none
letI Rh:XE:=mc ``Nat
letI XM(u0:Nat)(s:Om)(forks:List (XE×XE))(dep:Nat):MetaM (Option XE):=match u0 with
 | 0=>pure none
 | u0+1=>do
 let forks:=forks++s.forks.toList
 let s:={ s with forks:=([].toArray) }
 match Wl (s.facts.map λf=>(f.2.2.1,f.2.2.2)) s.atoms.size with
 | some mu =>
  let used:=(s.facts.zip mu).filter λ(_,m)=>m > 0
  let ix:=(Array.range s.atoms.size).filter λi=>used.any λ(f,_)=>(f.2.1.find? λx=>ia x ``ZT.a 1&&x.appArg!.rawNatLit? == some i).isSome
  let re (t:XE):XE:=t.replace λx=>if ia x ``ZT.a 1 then some (mkApp (mc ``ZT.a) (mkRawNatLit (ix.findIdx (some · == x.appArg!.rawNatLit?))))else none
  let as:=ix.map λi=>s.atoms[i]!
  let iTy:=mc ``Int
  let all:=as.all λa=>ia a ``Nat.cast 3
  let cons (ty:XE) (l:Array XE):XE:=l.foldr (λx r=>mkApp3 (mc ``List.cons [0]) ty x r) (mkApp (mc ``List.nil [0]) ty)
  let rf:=mkApp2 (mc ``Eq.refl [1]) (mc ``Bool) (mc ``Bool.true)
  let n:=used.size
  if n<=5&&used.all λ(_,m)=>m==1 then
   let O:=if all then cons Rh (as.map (·.appArg!))else cons iTy as
   return some (mkAppN (mc (if all then [``n1,``n2,``n3,``n4,``n5]else [``c1,``c2,``c3,``c4,``c5])[n-1]!) (([O].toArray)++used.map (λf=>re f.1.2.1)++used.map (·.1.1)++([rf].toArray)))
  let O:=cons iTy as
  let pT:=mkApp2 (mc ``Prod [0,0]) Rh (mc ``ZT)
  let mut fs:=mkApp (mc ``List.nil [0]) pT
  let mut pf:=mkApp (mc ``All.nil) O
  for (f,m) in used.reverse do
   pf:=mkAppN (mc ``mkF) ([mkRawNatLit m,re f.2.1,fs,O,f.1,pf].toArray)
   fs:=mkApp3 (mc ``List.cons [0]) pT (mkApp4 (mc ``Prod.mk [0,0]) Rh (mc ``ZT) (mkRawNatLit m) (re f.2.1)) fs
  return some (mkApp4 (mc ``YG) fs rf O pf)
 | none =>
  match dep,forks with
  | 0,_ | _,[]=>return none
  | dep+1,(h,ty)::rest =>
   let A:=ty.appFn!.appArg!
   let B:=ty.appArg!
   let side (P:XE):MetaM (Option XE):=withLocalDeclD `h P λx=>do
    let(more,s') ← (hyp u0 x P).run s
    match ← XM u0 s' (more++rest) dep with
    | some r=>return some (← mkLambdaFVars ([x].toArray) r)
    | none=>return none
   let some f ← side A | return none
   let some g ← side B | return none
   return some (mkAppN (mc ``Or.elim) ([A,B,mc ``False,h,f,g].toArray))
letI om(ty:XE):MetaM (Option XE):=forallTelescope ty λxs b=>do
 unless b.isConstOf ``False do return none
 let mut s:Om:={}
 let mut forks:=[]
 for x in xs do
  let t ← inferType x
  if ← isProp t then
   let(f,s') ← (hyp 100000 x t).run s
   s:=s'
   forks:=forks++f
 match ← XM 100000 s forks 5 with
 | some r=>return some (← mkLambdaFVars xs r)
 | none=>return none
letI adg:List Name:=[``oG,``ZT.lL,``Q3,``tu,``YG,``mkF,``c1,``c2,``c3,``c4,``c5,``n1,``n2,``n3,``n4,``n5,``gLe,``gLt,``nLe,``nLt,``acy,``ack,``aci,``abr,``iLe,``iLt,``aaY,``aco,``acH,``acC,``acv,``abb,``aaO,``nNe,``iNe,``X3,``X8,``abh,``XH,``abo,``abd,``abp,``Y4]
letI SJ(c:ConstantInfo):Array Name:=c.type.getUsedConstants++(match c.value? (allowOpaque:=true)with | some v=>v.getUsedConstants | none=>([].toArray))
letI order(tab:Std.HashMap Name ConstantInfo)(roots:List Name):Array ConstantInfo:=Id.run do
 let mut seen:Std.HashSet Name:={}
 let mut out:=([].toArray)
 let mut todo:List (Name×Bool):=roots.map (·,false)
 while !todo.isEmpty do
  match todo with
  | []=>break
  | (n,b)::r =>
   todo:=r
   let some c:=tab.get? n | continue
   if b then out:=out.push c
   else if !seen.contains n then
    seen:=seen.insert n
    todo:=(SJ c).toList.map (·,false)++(n,true)::r
 return out
letI bn(u0:Nat)(e:XE):StateM (Std.HashMap XE XE) XE:=match u0 with
 | 0=>pure e
 | u0+1=>do
 match e with
 | .bvar _ | .const .. | .sort _ | .lit _ | .fvar _ | .mvar _=>return e
 | _=>pure ()
 if let some r:=(← get).get? e then return r
 let r ← match e with
  | .mdata _ b=>bn u0 b
  | e=>do
   pure (match ← e.traverseChildren λx=>bn u0 x with
   | .lam _ t b _=>.lam `x t b .default
   | .forallE _ t b _=>.forallE `x t b .default
   | .letE _ t v b _=>.letE `x t v b false
   | e=>e)
 modify λs=>s.insert e r
 return r
letI nodes(u0:Nat)(e:XE):StateM (Std.HashSet XE) Unit:=match u0 with
 | 0=>pure ()
 | u0+1=>do
 if(← get).size > 100||(← get).contains e then return
 modify λs=>s.insert e
 e.foldlM (λ_ x=>nodes u0 x) ()
letI inl(u0:Nat)(tab:Std.HashMap Name ConstantInfo)(e:XE):XE:=match u0 with
 | 0=>e
 | u0+1 =>
 e.replace λx =>
  match x.getAppFn with
  | .const n us=>if x.isApp||x.isConst then
    match tab.get? n with
    | some ci =>
     let v:=(ci.value! (allowOpaque:=true)).instantiateLevelParams ci.levelParams us
     let as:=x.getAppArgs
     some (inl u0 tab (v.beta as))
    | none=>none
   else none
  | _=>none
letI zu(e:XE):Bool:=(e.find? λx=>x.isConst&&(`Lean.Omega).isPrefixOf x.constName!).isSome
letI adA(c:ConstantInfo)(v:XE):ConstantInfo:=match c with
 | .thmInfo t=>.thmInfo { t with value:=v }
 | .defnInfo t=>.defnInfo { t with value:=v }
 | c=>c
letI adn(c:ConstantInfo)(ty:XE):ConstantInfo:=match c with
 | .thmInfo t=>.thmInfo { t with type:=ty }
 | .defnInfo t=>.defnInfo { t with type:=ty }
 | c=>c
letI Iz:List Name:=[`Mine.Rep.uD,`Mine.Rep.Cp,`Mine.Rep.sr,`Mine.Rep.jw,`Mine.Rep.zB,`Mine.Rep.Fo,`Mine.Rep.aaN,`Mine.Rep.iBi,`Mine.Rep.acr,`Mine.aV.Bh,`Mine.aV.pB,`Mine.ex2,`Mine.ex3,`Mine.ex4,`Mine.ex5,`Mine.el2,`Mine.el3,`Mine.el4,`Mine.el5,`Mine.gLe,`Mine.gLt]
letI adb(root:Name):TacticM Unit:=do
 let g::gs ← getGoals | return
 let pf ← g.withContext do
  let p ← mkFreshExprSyntheticOpaqueMVar (← g.getType)
  for s in ← p.mvarId!.apply (mkConst root) do s.assumption
  instantiateMVars p
 let mut all:Std.HashMap Name ConstantInfo:={}
 for m in gs do
  let n ← m.getTag
  if let some c:=(← getEnv).find? n then all:=all.insert n c
 let roots:=root::Iz
 let o:=order all roots
 let own:NameSet:=(order all (adg++Iz)).foldl (λs c=>s.insert c.name) {}
 let mut cs:=o
 for i in [0:cs.size] do
  if let .thmInfo t:=cs[i]! then
   if zu t.value && !own.contains t.name then
    if let some v ← try(om t.type:MetaM _) catch _=>pure none then cs:=cs.set! i (.thmInfo { t with value:=v })
 let mut uses:Std.HashMap Name Nat:={}
 for c in cs do
  for u in SJ c do uses:=uses.insert u (uses.getD u 0+1)
 let mut tab:Std.HashMap Name ConstantInfo:={}
 for c in cs do
  let some v:=c.value? (allowOpaque:=true) | continue
  if roots.contains c.name then continue
  let s:=match c.name with | .str _ s=>s | _=>""
  let k:=uses.getD c.name 0
  let n:=((nodes 100000 v).run {}).2.size
  let mt:=s.startsWith "match_" && !(c.name.toString.splitOn ".eq_").length > 1
  if s.startsWith "_proof_" && !zu v&&(k<=1||n<60)||mt&&(k<=1||n<60)||s.startsWith "_sparseCasesOn_"&&k<=1||c.isTheorem&&n<=8 then tab:=tab.insert c.name c
 let mut tab2:Std.HashMap Name ConstantInfo:=all
 for c in cs do
  let c':=match c with
   | .thmInfo t=>.thmInfo { t with value:=inl 100000 tab t.value,type:=inl 100000 tab t.type }
   | .defnInfo t=>.defnInfo { t with value:=inl 100000 tab t.value,type:=inl 100000 tab t.type }
   | c=>c
  tab2:=tab2.insert c.name c'
 cs:=order tab2 roots
 let mut zs:ZSt:={}
 let mut bs:Std.HashMap XE XE:={}
 let mut bad:=0
 let mut tab3:=tab2
 for c in cs do
  let some v:=c.value? (allowOpaque:=true) | continue
  if own.contains c.name then continue
  let isPf ← match c with
   | .thmInfo _=>pure true
   | _=>(forallTelescope c.type λ_ b=>isProp b:MetaM Bool)
  let r? ← try(do
    if isPf then
     match ← (if zu v && !own.contains c.name then(om c.type:MetaM _)else pure none)with
     | some v'=>pure (some (v',zs))
     | none=>some <$> (((compress v c.type).run zs).run':CoreM _)
    else pure (some (v,zs))) catch _=>pure none
  let v' ← match r? with
   | some (v',zs')=>do zs:=zs'; pure (if(collectLevelParams {} v').params.all (c.levelParams.contains ·)then v' else v)
   | none=>do bad:=bad+1; pure v
  let(v',s):=(bn 100000 v').run bs
  let(ty,s):=(bn 100000 c.type).run s
  bs:=s
  tab3:=tab3.insert c.name (adn (adA c v') ty)
 cs:=order tab3 [root]
 let mut nm:Std.HashMap Name Name:={}
 for i in [0:cs.size] do nm:=nm.insert cs[i]!.name ((root.appendAfter "0").str (if cs[i]!.isTheorem then s!"proof_{i}" else s!"aux_{i}"))
 let re (e:XE):XE:=e.replace λ
  | .const n us=>(nm.get? n).map λm=>.const m us
  | _=>none
 let mut v:=re pf
 for i' in [0:cs.size] do
  let i:=cs.size-1-i'
  let c:=cs[i]!
  v:=.letE (.num c.name i) (re c.type) (re (c.value! (allowOpaque:=true))) v false
 g.assign v
run_tac adb `Mine.ac1
end Mine
open PySem PySem.W PyProof.Rows
set_option linter.defProp false
open Lean Parser.Command in
local macro_rules |`(universe dummies)=>do
 let u:=mkNullNode
 let f(s:String):Syntax:=
  let m:=s.toName
  .node .none ``declaration #[.node .none ``declModifiers #[u,u,u,u,u,u,u],.node .none ``definition #[mkAtom "def",.node .none ``declId #[mkIdent (s!"Mine.hd.tw{m.hash}").toName,u],.node .none ``optDeclSig #[u,mkNullNode #[.node .none ``Parser.Term.typeSpec #[mkAtom ":",mkIdent ``True]]],.node .none ``declValSimple #[mkAtom ":=",mkIdent ``trivial,.node .none ``Parser.Termination.suffix #[u,u],u],u]]
 return mkNullNode ("PySem.Challenge.pw_oj0091_01"::"PySem.Challenge.rw_oj0091_01"::("tree_1_50 tree_1_83 tree_1_101 tree_1_119 tree_1_147 tree_1_174 tree_1_237 tree_1_326 tree_1_415 tree_1_498 tree_1_546 tree_1_607 tree_1_697 tree_1_737 tree_1_862 tree_1_948 tree_1_1034 tree_1_1115 tree_1_1202 tree_1_1240 heap_1_39 heap_1_48 heap_1_1242 sts_1_52 sts_1_85 sts_1_103 sts_1_121 sts_1_149 sts_1_176 sts_1_239 sts_1_328 sts_1_417 sts_1_500 sts_1_548 sts_1_609 sts_1_699 sts_1_739 sts_1_954 sts_1_1036 sts_1_1117 sts_1_1204 view_1_40 env_1_42".splitOn " "++(List.range' 44 1196).map (s!"o_1_{·}")).map (s!"Mine.hd.{·}")|>.map f).toArray
universe dummies
set_option maxHeartbeats 0
set_option Elab.async true in
theorem Mine.hd:PySem.Challenge.rw_oj0091_01.Holds:=by
 (w_on; o_law; k_head; (case hw=>w_witness2))
 refine Mine.ac10 (λP=>?_) ?_ ?_
 .exact⟨by kernel_rfl,by kernel_rfl,by kernel_rfl,by kernel_rfl,by kernel_rfl,by kernel_rfl,by kernel_rfl,by kernel_rfl,by kernel_rfl,by kernel_rfl,by kernel_rfl,by kernel_rfl,by kernel_rfl,by kernel_rfl⟩
 .decide +kernel
 .rfl
theorem PySem.Challenge.cw_oj0091_01_holds : PySem.Challenge.rw_oj0091_01.Holds :=
 Mine.hd
